/- Part of a proof, joined by a program. -/
import Derived.Test.YtgnjacfobdjeeaaGreatO10
import Derived.Test.YtgnjacfobdjeeaaGreatO12
import Derived.Test.YtgnjacfobdjeeaaGreatO14
import Derived.Test.YtgnjacfobdjeeaaGreatO15
set_option linter.unusedVariables false
set_option linter.unusedSimpArgs false
set_option linter.defProp false
set_option linter.constructorNameAsVariable false
set_option maxHeartbeats 8000000
set_option maxRecDepth 100000
namespace Go.Proofs.YtgnjacfobdjeeaaGreat
open Go.Vc
section
variable{b:cD}{a:Instr}
def Bd.HE{s:St}{d:List aZ}{f:aZ}(C:Bd b s d f a){aW:List Int}(j:aW=dx f.av f.aW (dp b a))(i:∀o∈aW,0<=o):
 fp s.heap (λc=>dD d c+cz f.av aW c+dS ((dp b a).map (u f.av)) c)/\∀c,0<=dD d c+cz f.av aW c:=by
 have e:=vy (av:=f.av) (dp b a) f.aW C.Px C.Ka.1
 rw[<-j]at e
 refine⟨C.ok.heap.congr λc=>?_,λc=>?_⟩
 ·rw[C.fr,eU,jF,e];omega
 ·have:=Dq (b:=d) (λg h=>C.ok.ak g (by rw[C.fr];exact bB _ h)) c
  have:=px (av:=f.av) i c
  omega
def N3{a:List bq}{t lp:Int}(h:lp∈bU a t):1<=t/\t<=a.length/\(Da (bU a t) lp:Int)=lp -fc a (t.toNat -1)/\(fc a (t.toNat -1):Int)<=lp:=by
 unfold bU at h⊢;by_cases b:1<=t/\t<=a.length
 ·rw[aq b]at h⊢;obtain⟨d,e⟩:=ag (l:=a) (k:=t.toNat -1) V;rw[e]at h⊢;simp only[mz,tx]at h⊢;obtain⟨i,c,f⟩:=List.mem_map.1 h;rw[List.mem_range]at c;have g:Da ((List.range d.cons.length).map λi=>((fc a (t.toNat -1)+i:Nat):Int)) lp=i:=by
   unfold Da;rw[List.findIdx_eq (by simpa using c)];refine⟨by simp[<-f],λm j=>?_⟩;simp;omega
  rw[g];exact⟨b.1,b.2,V,V⟩
 ·rw[ae b]at h;simp at h
def Mh{k d e:Int}(l:gA d)(o:gA e)(m:I):GQ bY 177 [vi k,vi d,vi e] m (vi (Q5 k d e)):=by
 have i:∀n:Int,-2000000<=n/\n<=2000000->GQ bY 210 [vi (cK n)] m (vi (Im n)):=λn q=>by
  apply Fj;rw[aP V V];refine⟨?_,J.aC _⟩;unfold Im;congr 1;repeat' split;all_goals omega
 unfold gA at l o;have p: -2000000<=d*e/\d*e<=2000000:=by
  have a:(d*e).natAbs<=999*999:=by rw[Int.natAbs_mul];exact Ro V V
  omega
 apply HG;unfold Q5;refine⟨λa=>?_,λa=>⟨λb=>?_,λb=>⟨λc=>?_,λc=>⟨λf=>⟨λh=>?_,λh=>?_⟩,λf=>?_⟩⟩⟩⟩
 ·simp at a;rw[aq a];exact(i _ V).then λj g=>⟨_,rfl,rfl,g⟩
 ·simp at a b;rw[ae a,aq b];exact(i _ V).then λj g=>⟨_,rfl,rfl,g⟩
 ·simp at a b c;rw[ae a,ae b,aq c];exact(i _ p).then λj g=>⟨_,rfl,rfl,g⟩
 ·simp at a b c f h;rw[ae a,ae b,ae c,aq ⟨f,h⟩];exact⟨rfl,J.aC _⟩
 ·simp at a b c f h;rw[ae a,ae b,ae c,ae V];exact⟨rfl,J.aC _⟩
 ·simp at a b c f;rw[ae a,ae b,ae c,ae V];exact⟨rfl,J.aC _⟩
section
variable{q:I}{j:Nat->Nat}{m:I}{t:Nat}{d p bo n k:O}{c:St}{g:List aZ}{f:aZ}{r o h:O}{v:List (List Ce)}
def HD(C:Bd b c g f a){aW:List Int}(aA:aW=dx f.av f.aW (dp b a))(hM:sX b c f a aW)
 (af:ST q j m t bF (SB d p c bo n k) bo n k c.bo c.heap g {f with aW:=aW} r o h v)(aT:eV q d p b){aw a2:O}(ha:ar q aw a.args)(hj:ar q a2 a.dR)(bp:c.heap.length<=900000000)(bz:c.bo.length<=900000000):
 aN bY 129 [vp t 0,fv f r o h,xv a aw a2] m λ_ X=>vT q j m t d p (jg b c g f a aW) X:=by
 apply rB (t,0)
 simp -zeta only[aE,aD]
 intro m1 F
 have bj:J m F:=((J.aC m).aM _).aM _
 have s1:m1.size=m.size+1:=by simp[m1]
 have s2:F.size=m.size+2:=by simp[F,s1]
 have H:=Ll.HO af.eu.new s1 s2
 have kB:cB F m1.size dz [.i a.op,.i a.dst,.i a.bL,.i a.bV,.s aw,.s a2]:=cB.push m1 _ _
 have kF:cB F m.size eg [.i f.eS,.i f.pc,.i f.dst,.s r,.s o,.s h]:=(cB.push m _ _).ext (J.push m1 _)
 obtain⟨z,t2⟩:=af.ext bj
 clear_value F
 have bw:aW.length=f.aW.length:=by rw[aA];exact pI _ _ _
 have bq:=C.Ka
 have K:=C.OT
 have hd:=C.dst
 have bg:=C.F.pc
 obtain⟨pq,_,bh,hP,bm,hI⟩:=C.I
 rw[bh]at bg
 have bA:=hP.len
 have ao:0<=f.pc/\f.pc<=100000:=V
 have a6:=C.ok.depth
 have bl:=C.ok.bI
 have bs:=C.ok.dK
 rw[C.fr]at a6
 have bn:g.length<=1000:=by simp at a6;omega
 have aU:f.av.length=aW.length/\f.bn.length=aW.length/\aW.length<=2000:=V
 have bD:r.len=f.av.length:=by have:=af.hO.av.len;simp at this;omega
 have bu:o.len=aW.length:=by have:=af.hO.aW.len;simp at this;omega
 have bk:=ha.len
 have e4:cK (f.pc+1)=f.pc+1:=aP V V
 have ac:1<=a.args.length->0<=u a.args 0/\u a.args 0<f.av.length:=λP=>C.arg _ (iv V V)
 have S:∀{X},J q X->1<=a.args.length->D X aw.F (aw.off+Int.toNat (0:Int)*1)=some (vi (u a.args 0)):=λhx P=>(ha.ext hx).EG V V
 have Z:∀{j m bx bo n k lo lh o h v own'},ST q j m t bF bx bo n k lo lh g {f with aW:=own'} r o h v->∀{aF:Int},0<=aF->aF<f.av.length->D m r.F (r.off+Int.toNat aF*1)=some (vi (u f.av aF)):=λaf aF h0 P=>(af.Jg (by simp only[];omega)).EG h0 P
 have a5:=C.HE aA hM.nn
 have be:∀{j m n lh bx},ST q j m t bF bx bo n k c.bo lh g {f with aW:=aW} r o h v->k8 m k (g++[{f with aW:=aW}]):=λaf=>af.eu.ak.Jc bK (λab L=>by
  rcases List.mem_append.1 L with L|L
  ·have hF:=C.ok.ak ab (by rw[C.fr];exact bB _ L);obtain⟨pg,_,ay,ap,_⟩:=hF.IP C.ok.fK;have P:=hF.lr;have T:=hF.lo;have h3:=hF.lh;rw[ay]at P T h3;have:=ap.av;omega
  ·simp at L;subst L;simp only[];omega)
 have a8:∀r',r'∈a.args->u f.av r'<1000->gA (u f.av r'):=λr' bi br=>by
  have az:=C.arg r' bi;rcases C.F.OA _ (iv az.1 az.2)with U|U
  ·exact U
  ·omega
 have a3:∀{ag:I}(hx:J F ag)(aa:Int)(s':St),s'={c with ak:=g++[aZ.put {f with aW:=aW,pc:=f.pc+1} a.dst aa 0]}->
  aN bY 176 [vp t 0,vi a.dst,vi aa] ag λ_ X=>dV [m1.size,m.size] ag X/\vT q j m t d p s' X:=λhx aa s' w=>by
  obtain⟨SM,tM⟩:=z.ext hx
  refine(yK SM V hd.1 (by simp only[];omega) (by simp only[];omega) aa ao).mono ?_
  rintro _ X ⟨S',t'⟩
  exact⟨t'.fW (H.to tM),j,bo,n,k,by rw[w];exact S'.eu,(t2.trans tM).trans t'⟩
 have aS:∀{ag:I}(hx:J F ag)(aY:Int)(s':St),s'={c with ak:=g++[{f with aW:=aW,pc:=aY}]}->
  aN bY 183 [vp t 0,vi aY] ag λ_ X=>dV [m1.size,m.size] ag X/\vT q j m t d p s' X:=λhx aY s' w=>by
  obtain⟨SM,tM⟩:=z.ext hx
  refine(ji SM V aY).mono ?_
  rintro _ X ⟨S',t'⟩
  exact⟨t'.fW (H.to tM),j,bo,n,k,by rw[w];exact S'.eu,(t2.trans tM).trans t'⟩
 refine⟨λw=>?_,λe0=>?_⟩
 ·simp at w
  exact a3 (J.aC _) _ _ (by unfold jg;simp only[];rw[aq w])
 simp only[an]at e0
 refine⟨λw=>?_,λe1=>?_⟩
 ·simp only[cv,aL]at w
  have T:=K.2.2.1 V
  have y:=ac V
  have B:0<=u a.args 1/\u a.args 1<f.av.length:=C.arg _ (iv V V)
  have M:=hM.ov V
  refine⟨V,V,_,S z.eu.cG V,y.1,V,_,Z z y.1 y.2,V,V,_,(ha.ext z.eu.cG).EG (i:=1) V V,B.1,V,_,Z z B.1 B.2,?_⟩
  refine(Mh (a8 _ (iv V V) (M _ (iv V V))) (a8 _ (iv V V) (M _ (iv V V))) F).mono ?_
  rintro _ G ⟨rfl,A⟩
  refine⟨A.da (λY hb=>(H Y hb).1),_,rfl,A.dg (kB.cy 1),a3 A _ _ ?_⟩
  unfold jg;simp only[];rw[ae e0,aq w]
 simp only[bQ,an]at e1
 have am:¬(a.op=1\/a.op=2\/a.op=3\/a.op=4):=V
 refine⟨λw=>?_,λe5=>?_⟩
 ·simp only[aL]at w
  have T:=K.2.1 V
  have y:=ac V
  have ah:(O.len bo)=c.bo.length:=by have:=z.eu.bo.len;simp at this;omega
  refine⟨bo,z.eu.box.cy 6,V,V,_,S z.eu.cG V,y.1,V,_,Z z y.1 y.2,?_⟩
  intro G
  have A:J F G:=(J.aC F).aM _
  have kd:fQ G F.size 0 [.i (u f.av (u a.args 0))]:=(cB.push F _ _).je
  obtain⟨N,B⟩:=z.ext A
  have R:=H.to B
  clear_value G
  refine⟨A.dg (z.eu.box.cy 6),gX.append (zs:=[.i 0]) (x:=.mk F.size 0 1 1) (c:=[.i (u f.av (u a.args 0))]) N.eu.bo N.eu.new rfl kd (by simp only[O.fj];omega) λav aG m4 q1 q2=>?_⟩
  have W:gX av m4 aB 1 2 aG ((c.bo++[u f.av (u a.args 0)]).map Ce.i):=by simpa using q1
  obtain⟨Q,M⟩:=N.Jm q2 W
  have B4:=R.to M
  refine⟨M.fW R,Q.eu.vO (i:=6) E,?_⟩
  intro m5
  obtain⟨S5,t5⟩:=Q.nX 6 [.s aG]
  have B5:=B4.to t5
  refine⟨t5.fW B4,V,V,_,S S5.eu.cG V,y.1,V,_,Z S5 y.1 y.2,?_⟩
  refine(yK (a:={c with bo:=c.bo++[u f.av (u a.args 0)]}) S5 V hd.1 (by simp only[];omega) (by simp only[];omega) _ ao).mono ?_
  rintro _ m6 ⟨S6,t6⟩
  refine⟨t6.fW B5,av,aG,n,k,?_,(((t2.trans B).trans M).trans t5).trans t6⟩
  unfold jg;simp only[];rw[ae e0,ae am,aq w];exact S6.eu
 simp only[an]at e5
 have a9:∀aa∈f.bn,aa≠0->1000<=aa/\ix aa<c.heap.length:=λaa hw aV=>by
  obtain⟨P,dd,bd,_⟩:=C.Oq aa hw aV;exact⟨P,ax bd⟩
 refine⟨λw=>?_,λe6=>?_⟩
 ·simp only[aL]at w
  have h6:=K.2.2.2.2.1 w
  refine(sN z ha C.arg K.1 a.bL aU (by simp only[];omega) ⟨h6.1,h6.2.1⟩ ao V V a9).mono ?_
  rintro _ G ⟨al,aj,ai,ah,L3,B⟩
  refine⟨B.fW H,al,aj,ai,ah,?_,t2.trans B⟩
  have:jg b c g f a aW=uG c g {f with aW:=aW} a a.bL:=by
   unfold jg uG;simp only[];rw[ae e0,ae am,ae e5,aq w];rfl
  rw[this];exact L3
 simp only[an]at e6
 refine⟨λw=>?_,λaR=>?_⟩
 ·simp only[aL]at w
  have aJ:=K.2.2.2.2.2.1 w
  have az:a.bV=0:=by rcases hI.bV with U|U;exact U;omega
  have aK:(eC b.aT).length<=12:=by
   have:=qW C.ok.fK.pC.types b.aT.length;rw[mM _ _ (ad _)]at this;exact this
  refine⟨d,z.eu.box.cy 0,(oQ (aT.ext z.eu.cG).aT C.ok.fK.pC.types).mono ?_⟩
  rintro _ G ⟨rfl,A⟩
  obtain⟨N,B⟩:=z.ext A
  have R:=H.to B
  have e3:cK (((eC b.aT).length:Int)+a.bL)=fF b+a.bL:=aP V V
  refine⟨B.fW H,_,rfl,A.dg (kB.cy 2),A.dg (kB.cy 0),A.dg (kB.cy 1),A.dg (kB.cy 2),A.dg (kB.cy 3),A.dg (kB.cy 4),A.dg (kB.cy 5),A.dg (kF.cy 0),A.dg (kF.cy 1),A.dg (kF.cy 2),A.dg (kF.cy 3),A.dg (kF.cy 4),A.dg (kF.cy 5),?_⟩
  rw[e3]
  refine(sN N ha C.arg K.1 (fF b+a.bL) aU (by simp only[];omega) (by rw[az];omega) ao V V a9).mono ?_
  rintro _ m4 ⟨av,aI,aC,aH,W,M⟩
  refine⟨M.fW R,av,aI,aC,aH,?_,(t2.trans B).trans M⟩
  have:jg b c g f a aW=uG c g {f with aW:=aW} a (fF b+a.bL):=by
   unfold jg uG;simp only[];rw[ae e0,ae am,ae e5,ae e6,aq w,ae (λhh=>hh.1 az)];rfl
  rw[this];exact W
 simp only[an]at aR
 refine⟨λw=>?_,λe9=>?_⟩
 ·simp only[cv,aL]at w
  have W:=hI.op
  unfold lA at W
  refine(Ki z aT C.ok.fK ha C.arg K.1 V (λe'=>?_) (λe'=>⟨K.2.2.1 V,hM.apply e'⟩) aU (λab L=>?_) ao V V V V C.ok.heap).mono ?_
  ·rw[ae V,ae V,ae V,ae V,aq e']at W;exact W
  ·have hF:=C.ok.ak ab (by rw[C.fr];exact bB _ L)
   obtain⟨pg,_,ay,ap,_⟩:=hF.IP C.ok.fK
   have P:=hF.lr
   have T:=hF.lo
   have h3:=hF.lh
   rw[ay]at P T h3
   have:=ap.av
   omega
  rintro _ G ⟨al,aj,ai,ah,L3,B⟩
  refine⟨B.fW H,al,aj,ai,ah,?_,t2.trans B⟩
  have:jg b c g f a aW=oZ b c g {f with aW:=aW} a:=by
   unfold jg oZ;simp only[];rw[ae e0,ae am,ae e5,ae e6,ae aR,ae V,ae V,ae V,ae V,ae V,ae V,ae V,ae V];by_cases e9:a.op=9
   ·rw[aq e9,aq e9];rfl
   ·rw[ae e9,ae e9];by_cases ap:a.op=24
    ·rw[aq ap,aq ap];rfl
    ·rw[ae ap,ae ap,aq V]
  rw[this];exact L3
 simp only[bQ,an]at e9
 refine⟨λw=>?_,λba=>?_⟩
 ·simp only[aL]at w
  have T:=K.2.1 V
  have y:=ac V
  refine⟨V,V,_,S z.eu.cG V,y.1,V,_,Z z y.1 y.2,(Km z V (u f.av (u a.args 0)) (λab L=>?_)).mono ?_⟩
  ·have aV:g≠[]:=λw=>by rw[w]at L;simp at L
   have ap:g=g.dropLast++[ab]:=by
    rw[lV aV]at L;simp at L;rw[<-L];exact(gV aV).symm
   have aH:g.length=g.dropLast.length+1:=by
    have:=rQ List.length ap;simpa using this
   obtain⟨q1,q2,q3⟩:=C.ok.chain g.dropLast.length ab f (by rw[C.fr,ap];simp) (by rw[C.fr,<-aH];simp)
   have ay:=C.ok.ak ab (by rw[C.fr,ap];simp)
   have:=ay.lr
   have:=ay.lo
   exact⟨q1,by show f.dst<_;omega,by show f.dst<_;omega⟩
  rintro _ G ⟨al,aj,ai,ah,L3,B⟩
  refine⟨B.fW H,al,aj,ai,ah,?_,t2.trans B⟩
  unfold jg
  simp only[]
  rw[ae e0,ae am,ae e5,ae e6,ae aR,ae V,ae V,ae V,ae V,ae V,ae V,ae V,ae V,ae V,ae V,ae V]
  exact L3
 simp only[an]at ba
 have bf:∀(ap:St),(if a.op=0 then ap else ap)=ap:=λap=>by split<;>rfl
 have My:jg b c g f a aW=(
  if a.op=14 then{c with heap:=nJ c.heap (u f.av (u a.args 0)),ak:=g++[{f with aW:=gU aW (u a.args 0) (u aW (u a.args 0)+1),pc:=f.pc+1}]}
  else if a.op=15 then{c with heap:=p7 (iC c.heap [u f.av (u a.args 0)]),ak:=g++[{f with aW:=aW,pc:=f.pc+1}]}
  else if a.op=16\/a.op=17 then I6 c g {f with aW:=aW} a
  else if a.op=18 then{c with ak:=g++[aZ.put {f with aW:=aW,pc:=f.pc+1} a.dst (u f.av (u a.args 0)) (iV (u f.av (u a.args 0)))]}
  else if a.op=19 then{c with ak:=g++[aZ.put {f with aW:=aW,pc:=f.pc+1} a.dst (u (aX c.heap (u f.av (u a.args 0))).aK a.bL) 0]}
  else if a.op=20 then{c with ak:=g++[{f with aW:=aW,pc:=if u f.av (u a.args 0)=0 then a.bL else f.pc+1}]}
  else if a.op=21 then{c with ak:=g++[{f with aW:=aW,pc:=u a.dR (Da (bU b.aT a.bL) (aX c.heap (u f.av (u a.args 0))).lp)}]}
  else{c with ak:=g++[{f with aW:=aW,pc:=a.bL}]}):=by
  unfold jg
  simp only[]
  rw[ae e0,ae am,ae e5,ae e6,ae aR]
  by_cases aH:a.op=14
  ·rw[aq aH,aq aH]
  rw[ae aH,ae aH]
  by_cases aI:a.op=15
  ·rw[aq aI,aq aI]
  rw[ae aI,ae aI]
  by_cases aJ:a.op=16\/a.op=17
  ·rw[aq aJ,aq aJ];rfl
  rw[ae aJ,ae aJ]
  by_cases aK:a.op=18
  ·rw[aq aK,aq aK]
  rw[ae aK,ae aK]
  by_cases aM:a.op=19
  ·rw[aq aM,aq aM]
  rw[ae aM,ae aM]
  by_cases aO:a.op=20
  ·rw[aq aO,aq aO]
  rw[ae aO,ae aO]
  by_cases aQ:a.op=21
  ·rw[aq aQ,aq aQ]
  rw[ae aQ,ae aQ]
  have:=C.Yv
  rw[aq V]
 rw[My]
 clear My bf
 refine⟨λw=>?_,λa4=>?_⟩
 ·simp only[aL]at w
  rw[aq w]
  have T:=K.2.1 V
  have y:=ac V
  obtain⟨ab,bt⟩:=hM.Wv w
  obtain⟨bc,bC⟩:=cp ab
  refine⟨V,V,_,S z.eu.cG V,y.1,V,_,Z z y.1 y.2,?_⟩
  intro G
  have A:J F G:=(J.aC F).aM _
  have ow:iO F G aB 1 (.mk F.size 0 1 1) ([u f.av (u a.args 0)].map Ce.i):=iO.new (J.aC F) aB 1 _ 1 E
  obtain⟨N,B⟩:=z.ext A
  have R:=H.to B
  have hz:j F.size=0:=z.eu.new _ (ad _)
  clear_value G
  refine(AP N.eu (ar.ij ow E) (λ_=>hz) (λaa hw=>?_) (λa_ hc=>?_) E V).mono ?_
  ·simp at hw;subst hw;exact⟨ab.1,ax bc⟩
  ·have:=C.ok.heap.cell a_ hc;have U:=this.lo;have h6:=this.hi;omega
  rintro _ m4 ⟨a0,c4⟩
  obtain⟨Q,M⟩:=N.jh (c4.mono λap hk=>Or.inl hk) a0
  have B4:=R.to M
  have ay:u a.args 0<aW.length:=V
  have bv:0<=u aW (u a.args 0)/\u aW (u a.args 0)<=999999:=by
   have hm:=iv (b:=aW) y.1 ay;refine⟨hM.nn _ hm,?_⟩;have L:=qR (b:=aW) y.1 ay;rw[aA]at L;obtain⟨qq,a1,a7⟩:=rH _ _ _ _ L;have:=(C.Ur qq (au a1)).2;rw[<-aA]at a7;omega
  have bb:cK (u aW (u a.args 0)+1)=u aW (u a.args 0)+1:=aP V V
  refine⟨M.fW R,V,V,_,S Q.eu.cG V,V,V,_,S Q.eu.cG V,y.1,V,u aW (u a.args 0),(Q.Q3 (by simp only[];omega)).EG y.1 ay,y.1,V,Q.hO.aW.P9 y.1 ay,?_⟩
  rw[bb,e4]
  intro m5
  obtain⟨S5,t5⟩:=Q.xJ y.1 ay (u aW (u a.args 0)+1)
  have B5:=B4.to t5
  refine⟨t5.fW B4,(ji (a:={c with heap:=jZ c.heap [u f.av (u a.args 0)]}) S5 V (f.pc+1)).mono ?_⟩
  rintro _ m6 ⟨S6,t6⟩
  exact⟨t6.fW B5,j,bo,n,k,S6.eu,(((t2.trans B).trans M).trans t5).trans t6⟩
 simp only[an]at a4
 rw[ae a4]
 have a_:a.args.length=1->a.args=[u a.args 0]:=λP=>by
  cases hx:a.args with
  |nil=>rw[hx]at P;simp at P
  |cons ay L=>cases L with
   |nil=>rfl
   |cons bb L=>rw[hx]at P;simp at P
 refine⟨λw=>?_,λay=>?_⟩
 ·simp only[aL]at w
  rw[aq w]
  have T:=K.2.1 V
  have y:=ac V
  have ht:dp b a=[u a.args 0]:=by unfold dp;rw[aq V];exact a_ V
  have L:=a5.1
  rw[ht]at L
  refine⟨n,z.eu.box.cy 7,V,V,_,S z.eu.cG V,y.1,V,_,Z z y.1 y.2,?_⟩
  intro G
  have A:J F G:=(J.aC F).aM _
  have ow:iO F G aB 1 (.mk F.size 0 1 1) ([u f.av (u a.args 0)].map Ce.i):=iO.new (J.aC F) aB 1 _ 1 E
  obtain⟨N,B⟩:=z.ext A
  have R:=H.to B
  clear_value G
  refine⟨A.dg (z.eu.box.cy 7),(DH N.eu.heap N.eu.new (ar.ij ow E) (e:=λY=>dD g Y+cz f.av aW Y) (L.congr λY=>rfl) a5.2 V).mono ?_⟩
  rintro _ m4 ⟨av,aC,rfl,a0,c4⟩
  obtain⟨Q,M⟩:=N.jh c4 a0
  have B4:=R.to M
  refine⟨M.fW R,aC,rfl,Q.eu.vO (i:=7) E,?_⟩
  intro m5
  obtain⟨S5,t5⟩:=Q.nX 7 [.s aC]
  have B5:=B4.to t5
  rw[e4]
  refine⟨t5.fW B4,(ji (a:={c with heap:=p7 (iC c.heap [u f.av (u a.args 0)])}) S5 V (f.pc+1)).mono ?_⟩
  rintro _ m6 ⟨S6,t6⟩
  exact⟨t6.fW B5,av,bo,aC,k,S6.eu,(((t2.trans B).trans M).trans t5).trans t6⟩
 simp only[an]at ay
 rw[ae ay]
 refine⟨λw=>?_,λav=>?_⟩
 ·simp only[cv,aL]at w
  rw[aq w]
  refine(FH z ha C.arg ⟨K.2.2.2.1 w,K.1⟩ w aU ao V V (λaG L=>?_) (hM.Q0 w).1 C.ok.heap).mono ?_
  ·refine⟨hM.nn aG L,?_⟩
   obtain⟨ap,hk⟩:=List.mem_iff_getElem?.1 L
   simp only[]at hk
   rw[aA]at hk
   obtain⟨qq,a1,a7⟩:=rH _ _ _ _ hk
   have:=(C.Ur qq (au a1)).2
   omega
  rintro _ G ⟨al,aj,ai,ah,L3,B⟩
  exact⟨B.fW H,al,aj,ai,ah,L3,t2.trans B⟩
 simp only[bQ,an]at av
 rw[ae V]
 refine⟨λw=>?_,λah=>?_⟩
 ·simp only[aL]at w
  rw[aq w]
  have T:=K.2.1 V
  have y:=ac V
  refine⟨V,V,_,S z.eu.cG V,y.1,V,_,Z z y.1 y.2,(rC z V hd.1 (by simp only[];omega) (by simp only[];omega) _).mono ?_⟩
  rintro _ G ⟨N,B⟩
  have R:=H.to B
  rw[e4]
  refine⟨B.fW H,(ji N V (f.pc+1)).mono ?_⟩
  rintro _ m4 ⟨Q,M⟩
  exact⟨M.fW R,j,bo,n,k,Q.eu,(t2.trans B).trans M⟩
 simp only[an]at ah
 rw[ae ah]
 have R:=z.rv aT V V (be z)
 refine⟨λw=>?_,λM=>?_⟩
 ·simp only[aL]at w
  rw[aq w]
  have T:=K.2.1 V
  have y:=ac V
  obtain⟨ab,B⟩:=hM.load w
  have W:=hI.op
  unfold lA at W
  rw[ae V,ae V,ae V,ae V,ae V,ae V,ae V,aq w]at W
  refine⟨V,V,_,S z.eu.cG V,y.1,V,_,Z z y.1 y.2,(eR R ab.1 (cp ab).1).mono ?_⟩
  rintro _ G ⟨fl,rfl,L,A⟩
  have N:=L.len
  refine⟨A.da (λY hb=>(H Y hb).1),_,_,_,rfl,A.dg (kB.cy 2),A.dg (kB.cy 1),W.2.1,V,_,L.EG W.2.1 B,a3 A _ _ rfl⟩
 simp only[an]at M
 rw[ae M]
 refine⟨λw=>?_,λN=>?_⟩
 ·simp only[aL]at w
  rw[aq w]
  have T:=K.2.1 V
  have y:=ac V
  refine⟨V,V,_,S z.eu.cG V,y.1,V,_,Z z y.1 y.2,λU=>?_,λU=>?_⟩
  ·simp at U;exact aS (J.aC _) _ _ (by rw[aq U])
  ·simp at U;rw[e4];exact aS (J.aC _) _ _ (by rw[ae U])
 simp only[an]at N
 rw[ae N]
 refine⟨λw=>?_,λQ=>?_⟩
 ·simp only[aL]at w
  rw[aq w]
  have T:=K.2.1 V
  have y:=ac V
  obtain⟨ab,ai⟩:=hM.Mm w
  obtain⟨bc,bt,a0,aG⟩:=N3 ai
  have W:=hI.op
  unfold lA at W
  rw[ae V,ae V,ae V,ae V,ae V,ae V,ae V,ae V,ae V,ae V,aq w]at W
  have a1:Da (bU b.aT a.bL) (aX c.heap (u f.av (u a.args 0))).lp<(bU b.aT a.bL).length:=NN ⟨_,ai,E⟩
  have bb:=hj.len
  have a7:=W.2.2.1
  have aC:=(C.ok.heap.cell _ (au (cp ab).1)).oC (cp ab).2
  have bv:=C.ok.fK.pC.types.len
  refine⟨V,V,_,S z.eu.cG V,y.1,V,_,Z z y.1 y.2,(eR R ab.1 (cp ab).1).mono ?_⟩
  rintro _ G ⟨fl,rfl,L,A⟩
  have e7:cK (a.bL -1)=((a.bL.toNat -1:Nat):Int):=by rw[aP V V];omega
  rw[e7]
  have aj:=z.eu.cG.trans A
  refine⟨A.da (λY hb=>(H Y hb).1),_,_,_,rfl,d,A.D (z.eu.box.cy 0),(js (aT.ext aj).aT C.ok.fK.pC.types V).mono ?_⟩
  rintro _ m4 ⟨rfl,B⟩
  have al:=A.trans B
  have e8:cK ((aX c.heap (u f.av (u a.args 0))).lp -((fc b.aT (a.bL.toNat -1):Nat):Int))=((Da (bU b.aT a.bL) (aX c.heap (u f.av (u a.args 0))).lp:Nat):Int):=by
   rw[aP V V];omega
  refine⟨B.da (λY hb=>A.lt (H Y hb).1),_,rfl,B.dg ((kB.ext A).cy 5),?_⟩
  rw[e8]
  refine⟨V,V,_,(hj.ext (aj.trans B)).EG V V,aS al _ _ rfl⟩
 simp only[an]at Q
 rw[ae Q]
 refine⟨λw=>aS (J.aC _) _ _ rfl,λy=>?_⟩
 simp only[an]at y
 have:=C.Yv
 omega
end
end
section
def Q6(l a:List Int)(h:a.length=l.length):iE (l.map Ce.i) 0 (a.map Ce.i)=a.map Ce.i:=by
 have:=zr [] (a.map Ce.i) (l.map Ce.i) bK;simp only[dT,eF]at this;rw[this,Gd bK,fx]
section
variable{p:I}{b:Nat->Nat}{m:I}{q e:Nat}{i:List Ce}{bo j g:O}{l:List Int}{k:List bM}{c:List aZ}{f:aZ}{r a h:O}{d:List (List Ce)}
def ST.RQ(S:ST p b m q e i bo j g l k c f r a h d){aW:List Int}(t:aW.length=f.aW.length)(w:0<aW.length):fm m a.F a.off (aW.map Ce.i).length/\ST p b (aj m a.F a.off (aW.map Ce.i)) q e i bo j g l k c {f with aW:=aW} r a h d/\To b m b (aj m a.F a.off (aW.map Ce.i)):=by
 have T:=S.hO;have B:a.cap≠0:=λe=>by have:=(T.aW.CU e).1;simp at this;rw[this]at t;simp at t;rw[t]at w;simp at w
 have A:=T.aW.F B;have s:dy (λu=>u=11+3*c.length) b m b (aj m a.F a.off (aW.map Ce.i)):=dy.aj S.eu.new A.2 _ _;have x:=T.aW.set (o:=0) (new:=aW.map Ce.i) bK;rw[Q6 _ _ t,iJ]at x;have v:qO b (aj m a.F a.off (aW.map Ce.i)) g c {f with aW:=aW} r a h d:=⟨T.qQ.eY s V,T.len,T.size,T.vC s λu _ y=>V,T.av.eY s V,x,T.bn.eY s V⟩;obtain⟨y,z⟩:=S.eu.kQ (s.mono λu C=>V) v.rR;refine⟨?_,⟨y,v⟩,z⟩;have:=T.aW.wr (o:=0) (n:=(aW.map Ce.i).length) bK;rw[iJ]at this;exact this
end
section
variable{h:I}{e:Nat->Nat}{b:I}{g:Nat}{d p bo c a:O}{s:St}
def Mi{k:cD}(P:zy h e b g bF (SB d p s bo c a) bo c a s.bo s.heap s.ak)(L:eV h d p k)(z:cN k s)(aL:∀R∈s.ak,∀A∈R.av,A<=9223372036854775807)(aO:s.heap.length<=900000000)(aU:s.bo.length<=900000000):
 aN bY 75 [vp g 0] b λ_ m'=>vT h e b g d p (rG k s) m':=by
 apply um (g,0)
 simp -zeta only[aE,aD]
 refine⟨s.cL,P.box.cy 2,λW=>?_,λW=>?_⟩
 ·simp at W
  rw[vx W]
  exact⟨e,bo,c,a,P,dy.aC _ P.new⟩
 have ac:s.cL=3:=by simpa using W
 obtain⟨n,j,u⟩:=z.split ac
 have aR:s.ak.getLast?=some j:=by rw[u];simp
 have aJ:s.ak.dropLast=n:=by rw[u];simp
 have C:Bd k s n j (eZ k j):=⟨z,ac,u,rfl,aL⟩
 have aZ:rG k s=(open Classical in if uP (eZ k j).op/\s.bI=s.dK then{s with cL:=1}else if sX k s j (eZ k j) (dx j.av j.aW (dp k (eZ k j)))then jg k s n j (eZ k j) (dx j.av j.aW (dp k (eZ k j)))else{s with cL:=2}):=by
  unfold rG;rw[ae (by simpa using ac),aR,aJ]
 rw[aZ]
 generalize eZ k j=x at*
 have L':zy h e b g bF (SB d p s bo c a) bo c a s.bo s.heap (n++[j]):=by rw[<-u];exact P
 obtain⟨X,N,U,aA,aa⟩:=L'.ak.hO
 have S:ST h e b g bF (SB d p s bo c a) bo c a s.bo s.heap n j X N U aA:=⟨L',aa⟩
 have a7:=aa.C0
 have an:=z.depth
 have a6:=z.bI
 have a9:=z.dK
 rw[u]at an
 have a8:n.length<=1000:=by simp at an;omega
 have e1:cK ((a.len:Int) -1)=(n.length:Int):=by rw[aP V V];omega
 have e2:Int.toNat (n.length:Int)=n.length:=V
 have T:D b g 8=some (O.v a):=S.eu.box.cy 8
 obtain⟨g0,g1,g2,g3,g4,g5⟩:=aa.je
 refine⟨a,T,a,T,?_⟩
 rw[e1,e2]
 refine⟨V,V,_,g0,_,g1,_,g2,X,g3,N,g4,U,g5,?_⟩
 intro m1
 have v:J b m1:=(J.aC b).aM _
 refine⟨v.dg g0,v.dg g1,v.dg g2,v.dg g3,v.dg g4,v.dg g5,v.dg T,v.dg T,?_⟩
 intro t
 have a0:J b t:=v.aj (ad _) _ _
 have s2:t.size=b.size+1:=by simp[t,m1,az]
 have kF:cB t b.size eg [.i j.eS,.i j.pc,.i j.dst,.s X,.s N,.s U]:=cB.aj (m:=m1) (o:=0) (r:=[.i j.eS,.i j.pc,.i j.dst,.s X,.s N,.s U]) (cB.push b _ _)
 obtain⟨Q,t2⟩:=S.ext a0
 clear_value t
 obtain⟨bf,hq,aX,hP,aI,hI⟩:=C.I
 obtain⟨pa,pl,pc,a_,bb,ap,k0,k1,k2,k3,k4⟩:=L.cA.u hq
 obtain⟨ay,a1,ha,hj,i0,i1,i2,i3,i4,i5⟩:=ap.u aI
 have bc:=L.cA.len
 have ba:=ap.len
 have hF:=C.F
 have aW:=hF.eS
 have ao:=hF.pc
 rw[aX]at ao
 have l:=Q.eu.cG
 refine⟨p,Q.eu.box.cy 1,aW.1,V,pc,l.D k4,ao.1,V,_,l.D i0,_,l.D i1,_,l.D i2,_,l.D i3,ay,l.D i4,a1,l.D i5,?_⟩
 intro m3
 have q:J t m3:=(J.aC t).aM _
 refine⟨q.dg (l.D i0),q.dg (l.D i1),q.dg (l.D i2),q.dg (l.D i3),q.dg (l.D i4),q.dg (l.D i5),q.dg (kF.cy 1),q.dg (l.D k4),q.dg (kF.cy 0),q.dg (Q.eu.box.cy 1),?_⟩
 intro M
 have ag:J t M:=q.aj (ad _) _ _
 have s4:M.size=t.size+1:=by simp[M,m3,az]
 obtain⟨S4,t4⟩:=Q.ext ag
 have a2:=kF.ext ag
 have B4:Ll e M [t.size,b.size]:=λaf K=>by
  simp at K;rcases K with rfl|rfl
  ·exact⟨V,S.eu.new _ V⟩
  ·exact⟨V,S.eu.new _ (ad _)⟩
 clear_value M
 have a5:=t2.trans t4
 refine(JA _ _).mono ?_
 rintro _ m5 ⟨af,rfl,K,ah⟩
 obtain⟨w,t5⟩:=S4.ext ah
 have Y:=B4.to t5
 have B:=a2.ext ah
 have au:=a5.trans t5
 have aQ:=C.Ka
 have h4:=C.OT
 have ab:(dx j.av j.aW (dp k x)).length=j.aW.length:=pI _ _ _
 refine⟨t5.fW B4,af,rfl,λaG=>⟨s.bI,w.eu.box.cy 4,s.dK,w.eu.box.cy 5,λI=>?_,λI=>?_⟩,λaF=>?_⟩
 ·simp at I
  refine⟨w.eu.vO (i:=2) E,?_⟩
  intro m6
  obtain⟨H,F⟩:=w.nX 2 [.i 1]
  refine⟨F.fW Y,e,bo,c,a,?_,au.trans F⟩
  rw[aq ⟨K.1 aG,I⟩]
  have:=H.eu
  rw[<-u]at this
  exact this
 all_goals
  have aH:¬(uP x.op/\s.bI=s.dK):=by
   first
   |exactλy=>by simp at I;exact I y.2
   |exactλy=>fb K aF y.1
  rw[ae aH]
  have am:=w.eu.cG
  refine⟨d,w.eu.box.cy 0,p,w.eu.box.cy 1,(HM (L.ext am) C.call (ha.ext am) V h4.2.2.2.1).mono ?_⟩
  rintro _ m6 ⟨ts,rfl,ot,y⟩
  obtain⟨H,F⟩:=w.ext y
  have B6:=Y.to F
  have bd:=P2 k x
  have it:ar m6 ts (dp k x):=ar.ij ot V
  refine⟨F.fW Y,ts,rfl,y.dg (B.cy 0),y.dg (B.cy 1),y.dg (B.cy 2),y.dg (B.cy 3),y.dg (B.cy 4),y.dg (B.cy 5),?_⟩
  refine(FI (b:=j) (H.Jg V) (H.Q3 V) it C.Px aQ.1 V V (λA G=>by have:=C.Ur A G;omega)).mono ?_
  rintro _ m7 ⟨os,rfl,oo,aC⟩
  obtain⟨A,t7⟩:=H.ext aC
  have B7:=B6.to t7
  have io:ar m7 os (dx j.av j.aW (dp k x)):=ar.ij oo V
  have aM:k8 m7 a (n++[j]):=A.eu.ak.Jc bK (λR hg=>by
   have G:=z.ak R (by rw[u];exact hg);obtain⟨pg,_,ai,Z,_⟩:=G.IP z.fK;have q1:=G.lr;have q2:=G.lo;have q3:=G.lh;rw[ai]at q1 q2 q3;have:=Z.av;omega)
  have aj:=A.rv L V V aM
  have aY:({s with ak:=n++[j]}:St)=s:=by rw[<-u]
  rw[aY]at aj
  refine⟨t7.fW B6,os,rfl,(JD aj C (A.Jg V) (A.QO V) (ha.ext A.eu.cG) io ab).mono ?_⟩
  rintro _ m8 ⟨b2,rfl,al,ai⟩
  obtain⟨R,t8⟩:=A.ext ai
  have Z:=B7.to t8
  have av:=((au.trans F).trans t7).trans t8
  refine⟨t8.fW B7,b2,rfl,λh9=>?_,λh9=>?_⟩
  ·rw[ae (nb al h9)]
   refine⟨R.eu.vO (i:=2) E,?_⟩
   intro m9
   obtain⟨S9,G⟩:=R.nX 2 [.i 2]
   refine⟨G.fW Z,e,bo,c,a,?_,av.trans G⟩
   have:=S9.eu
   rw[<-u]at this
   exact this
  ·have hM:=yb al h9
   rw[aq hM]
   have aT:=io.len
   have aS:N.len=j.aW.length:=by have:=R.hO.aW.len;simp at this;omega
   obtain⟨w1,S9,G⟩:=R.RQ ab V
   refine⟨(dx j.av j.aW (dp k x)).map Ce.i,by rw[aT,aS,ab];simp[Nat.min_def];omega,(io.ext ai).Hd,w1,?_⟩
   intro m9
   have B9:=Z.to G
   refine⟨G.fW Z,(HD C rfl hM S9 L ha hj aO aU).mono ?_⟩
   rintro _ be aK
   obtain⟨a4,a3,aV,aB,ax,aw⟩:=aK
   exact⟨aw.fW B9,a4,a3,aV,aB,ax,(av.trans G).trans aw⟩
end
end
section
variable{a:cD}{s:St}{n:Nat}
structure Sm(n:Nat)(s:St):Prop where
 heap:s.heap.length<=n
 bo:s.bo.length<=n
 xl:∀g∈s.ak,∀w∈g.av,w<=9223372036854775807
def zf:∀(n:Nat)(h:List bM)(g:List Int),GW h+g.length<=n->(iC h g).length=h.length
 |n,h,[],_=>by rw[zg]
 |0,h,w::r,b=>by simp at b
 |n+1,h,w::r,b=>by
  simp only[bg]at b;rcases fX (jc h w)with a|a
  ·obtain⟨e,f⟩:=cp a;by_cases c:(aX h w).aQ=1
   ·have d:=lB (d:=jx) e;simp only[aq f,jx]at d;simp at d;rw[zh a c,zf n _ _ (by simp[jx];omega)];simp
   ·have d:=lB (d:={aX h w with aQ:=(aX h w).aQ -1}) e;simp only[aq f]at d;rw[aq V]at d;rw[uI a c,zf n _ _ (by simp only[fG];omega)];simp[fG]
  ·rw[uJ a,zf n _ _ V]
def NE(h:List bM):(p7 h).length<=h.length:=by unfold p7;simp;omega
def Jd:∀(a:List Int)(g:List bM),(jZ g a).length=g.length
 |[],g=>rfl
 |w::a,g=>by rw[jZ,Jd a];simp[nJ]
def KF(h:List bM)(w:Int):(apart h w).length<=h.length:=by
 unfold apart;split
 ·exact bJ (NE _) E
 ·rw[Jd];simp[fG]
def KW(h:List bM)(a:Nat)(c:bM):(lg h a c).length<=h.length+1:=by
 unfold lg;split<;>simp
def Oy{k:List aZ}{f:aZ}{x:Instr}(C:Bd a s k f x)(D:Sm n s)(hn:n<=900000000)(aW:List Int)(hM:sX a s f x aW):Sm (n+1) (jg a s k f x aW):=by
 have hh:=D.heap;have ho:=D.bo;have y:=D.xl;rw[C.fr]at y;have hF:=C.F;have h4:=C.OT;have hd:=C.dst;have af:=C.Ka;have t:∀r,u f.av r<=9223372036854775807:=λr=>by
  rcases aV r.toNat f.av.length with m|m
  ·obtain⟨c,b⟩:=ag m;rw[LA b];exact y f E c (au b)
  ·rw[u,iH,cb m];simp
 have vC:∀g∈k,∀w∈g.av,w<=9223372036854775807:=λg p=>y g (by simp[p]);have c:∀{g:aZ},(∀w∈g.av,w<=9223372036854775807)->∀q∈k++[g],∀w∈q.av,w<=9223372036854775807:=λp q d=>by
  rcases List.mem_append.1 d with d|d
  ·exact vC q d
  ·simp at d;subst d;exact p
 have e:∀w∈f.av,w<=9223372036854775807:=y f E;have j:∀(J:Int),J<=9223372036854775807->∀w∈gU f.av x.dst J,w<=9223372036854775807:=λJ hv w b=>by
  rcases qZ b with rfl|b
  ·exact hv
  ·exact e w b
 have ab:∀{w},gA w\/jc s.heap w->w<=9223372036854775807:=λh=>by
  rcases h with h|h
  ·have:=h.2;omega
  ·have m:=ax (cp h).1;unfold ix at m;omega
 have I:∀(g M:Int)(K:List Int),(∀w∈K,w<=9223372036854775807)->∀w∈(cw a g M K).av,w<=9223372036854775807:=λg M K b w h=>by
  simp only[cw]at h;rcases List.mem_append.1 h with h|h
  ·exact b w h
  ·rw[oO h];omega
 have HO:∀{g q:aZ},(∀w∈g.av,w<=9223372036854775807)->(∀w∈q.av,w<=9223372036854775807)->∀L∈k++[g,q],∀w∈L.av,w<=9223372036854775807:=λp d L o=>by
  rcases List.mem_append.1 o with o|o
  ·exact vC L o
  ·simp at o;rcases o with rfl|rfl
   ·exact p
   ·exact d
 have aa:∀w∈dh f x.args,w<=9223372036854775807:=λw b=>by
  obtain⟨r,_,rfl⟩:=List.mem_map.1 b;exact t r
 have ac:=tG s.heap;unfold jg;simp only[];by_cases z:x.op=0
 ·rw[aq z];exact⟨by simp only[];omega,by simp only[];omega,c (j _ (by have:=h4.2.2.2.2.2.2 z;omega))⟩
 rw[ae z];by_cases N:x.op=1\/x.op=2\/x.op=3\/x.op=4
 ·rw[aq N];exact⟨by simp only[];omega,by simp only[];omega,c (j _ (by have:=(Nn x.op (u f.av (u x.args 0)) (u f.av (u x.args 1))).2;omega))⟩
 rw[ae N];by_cases Y:x.op=5
 ·rw[aq Y];exact⟨by simp only[];omega,bK,c (j _ (t _))⟩
 rw[ae Y];by_cases B:x.op=6
 ·rw[aq B];split
  ·refine⟨bK,by simp only[];omega,c (j _ ?_)⟩;rename_i v;have G:=h4.2.2.2.2.1 B;obtain⟨H,F,A,_⟩:=C.Oq _ (iv (b:=f.bn) (i:=x.bV -1) V V) v.2;have:=ax A;unfold ix at this;omega
  ·refine⟨?_,by simp only[];omega,c (j _ V)⟩;have:=KW s.heap (eK s.heap) ⟨1,x.bL,dh f x.args⟩;simp only[];omega
 rw[ae B];by_cases O:x.op=10
 ·rw[aq O];refine⟨?_,by simp only[];omega,c (j _ V)⟩;have:=KW s.heap (eK s.heap) ⟨1,fF a+x.bL,dh f x.args⟩;simp only[];omega
 rw[ae O];by_cases P:x.op=14
 ·rw[aq P];exact⟨by simp[nJ];omega,by simp only[];omega,c e⟩
 rw[ae P];by_cases Q:x.op=15
 ·rw[aq Q];refine⟨?_,by simp only[];omega,c e⟩;have m:=NE (iC s.heap [u f.av (u x.args 0)]);rw[zf _ _ _ (ad _)]at m;simp only[];omega
 rw[ae Q];by_cases R:x.op=16\/x.op=17
 ·rw[aq R];split
  ·exact⟨bK,by simp only[];omega,c e⟩
  ·refine⟨?_,by simp only[];omega,c e⟩;have:=KF s.heap (u f.av (u x.args 0));simp only[];omega
 rw[ae R];by_cases S:x.op=18
 ·rw[aq S];exact⟨by simp only[];omega,by simp only[];omega,c (j _ (t _))⟩
 rw[ae S];by_cases v:x.op=19
 ·rw[aq v];refine⟨by simp only[];omega,by simp only[];omega,c (j _ ?_)⟩;obtain⟨G,U⟩:=hM.load v;obtain⟨W,_,_,_,_,T⟩:=C.I;have A:=T.op;unfold lA at A;rw[ae V,ae V,ae V,ae V,ae V,ae V,ae V,aq v]at A;obtain⟨F,H⟩:=cp G;exact ab (((C.ok.heap.cell _ (au F)).oC H).1 _ (iv A.2.1 U))
 rw[ae v];by_cases T:x.op=20
 ·rw[aq T];exact⟨by simp only[];omega,by simp only[];omega,c e⟩
 rw[ae T];by_cases U:x.op=21
 ·rw[aq U];exact⟨by simp only[];omega,by simp only[];omega,c e⟩
 rw[ae U];by_cases W:x.op=22
 ·rw[aq W];exact⟨by simp only[];omega,by simp only[];omega,c e⟩
 rw[ae W];by_cases Z:x.op=9
 ·rw[aq Z];exact⟨by simp only[];omega,by simp only[];omega,HO e (I _ _ _ aa)⟩
 rw[ae Z];by_cases X:x.op=24
 ·rw[aq X];exact⟨by simp only[];omega,by simp only[];omega,c (I _ _ _ aa)⟩
 rw[ae X];by_cases A:x.op=11
 ·rw[aq A];refine⟨?_,by simp only[];omega,HO e (I _ _ _ λw b=>?_)⟩
  ·have:=KF s.heap (u f.av (u x.args 0));simp only[];omega
  ·rcases List.mem_append.1 b with b|b
   ·obtain⟨G,_⟩:=hM.apply A;obtain⟨F,H⟩:=cp G;exact ab (((C.ok.heap.cell _ (au F)).oC H).1 _ b)
   ·simp at b;subst b;exact t _
 rw[ae A];split
 ·exact⟨by simp only[];omega,by simp only[];omega,E⟩
 ·rename_i F G;refine⟨by simp only[];omega,by simp only[];omega,λq d=>?_⟩;have H:F∈k:=List.mem_of_getLast? G;rcases List.mem_append.1 d with d|d
  ·exact vC q ((List.dropLast_sublist k).subset d)
  ·simp at d;subst d;intro w b;rcases qZ b with rfl|b
   ·exact t _
   ·exact vC F H w b
def Sj(h:cN a s)(c:Sm n s)(l:n<=900000000):Sm (n+1) (rG a s):=by
 have b:Sm (n+1) s:=⟨by have:=c.heap;omega,by have:=c.bo;omega,c.xl⟩;by_cases d:s.cL=3
 ·obtain⟨g,f,e⟩:=h.split d;have k:s.ak.getLast?=some f:=by rw[e];simp
  have j:s.ak.dropLast=g:=by rw[e];simp
  have C:Bd a s g f (eZ a f):=⟨h,d,e,rfl,c.xl⟩;unfold rG;rw[ae (by simpa using d),k,j];simp only[];split
  ·exact⟨b.heap,b.bo,b.xl⟩
  split
  ·rename_i i;exact Oy C c l _ i
  ·exact⟨b.heap,b.bo,b.xl⟩
 ·rw[vx d];exact b
def JL{a:cD}:∀(k:Nat){s:St}{n:Nat},cN a s->Sm n s->n+k<=900000000->Sm (n+k) (aA a k s)
 |0,s,n,_,b,_=>b
 |k+1,s,n,h,b,c=>by
  have:=JL k (Pv h) (Sj h b V) V;rw[aA];have e:n+(k+1)=n+1+k:=V;rw[e];exact this
def NB(a:cD)(dK:Int):Sm 0 (ku a dK):=⟨by simp[ku],by simp[ku],λg b w c=>by
 simp[ku]at b;subst b;simp only[cw,dT]at c;rw[oO c];omega⟩
end
section
variable{a:cD}
section
variable{c:I}{e:Nat->Nat}{m:I}{b:Nat}{d p bo g f:O}{s:St}
def Nz(L:zy c e m b bF (SB d p s bo g f) bo g f s.bo s.heap s.ak)(G:eV c d p a)(x:cN a s){z:Nat}(F:Sm z s)(h:Nat)(M:h<=100000)(N:z<=500000000):
 aN bY 59 [vp b 0,vi h] m λJ u=>(∃i:Int,J=vi i)/\vT c e m b d p (aA a h s) u:=by
 apply vh (b,0)
 refine⟨λo u=>∃k:Nat,o=k/\k<=h/\vT c e m b d p (aA a k s) u,λo _=>((h:Int) -o).toNat,⟨0,rfl,dH _,e,bo,g,f,L,dy.aC _ L.new⟩,?_⟩
 rintro o O ⟨k,rfl,K,B,A,y,w,l,v⟩
 have H:=JK k x
 have t:=JL k x F V
 refine dit (λD=>?_) λD=>?_
 ·refine⟨_,l.box.cy 2,λr=>?_,λr=>?_⟩
  ·refine(Mi l G H t.xl (by have:=t.heap;omega) (by have:=t.bo;omega)).mono ?_
   rintro _ j i
   have q:cK ((k:Int)+1)=((k+1:Nat):Int):=jJ (n:=h) V V
   rw[q]
   refine⟨⟨k+1,rfl,V,by rw[JM];exact i.from v⟩,?_⟩
   show((h:Int) -((k+1:Nat):Int)).toNat<((h:Int) -(k:Int)).toNat
   omega
  ·simp at r
   have q:aA a h s=aA a k s:=by
    have E:h=k+(h -k):=V;have C:∀(i j:Nat)(s:St),aA a (i+j) s=aA a j (aA a i s):=by
     intro i;induction i with
     |zero=>intro j s;simp[aA]
     |succ i I=>intro j s;rw[Nat.succ_add];simp only[aA];exact I j _
    rw[E,C,AW _ r]
   rw[q]
   exact⟨⟨_,rfl⟩,B,A,y,w,l,v⟩
 ·have:k=h:=V
  subst this
  exact⟨⟨_,rfl⟩,B,A,y,w,l,v⟩
end
def Cn{m:I}{z L:O}(S:eV m z L a)(D:lO a)(dK:Int):
 aN bY 58 [.agg #[O.v z,O.v L],vi dK] m λaa n=>∃bo t A,aa=.agg #[vi 3,vi 0,vi 0,vi dK,O.v bo,O.v t,O.v A]/\J m n/\∃e f g c d,bo.cap=0/\bo.len=0/\t.cap=0/\t.len=0/\A=.mk c 0 1 1/\
  rT m n e f g d (cw a 0 0 []).av (cw a 0 0 []).aW (cw a 0 0 []).bn/\(c≠e/\c≠f/\c≠g/\m.size<=c/\c<n.size)/\cB n c eg [.i 0,.i 0,.i 0,.s (.mk e 0 d d),.s (.mk f 0 d d),.s (.mk g 0 d d)]:=by
 apply wH
 simp -zeta only[aE,aD]
 intro o G H w x j
 have B:J m j:=((((((J.aC m).aM _).aM _).aM _).aM _).aM _).aM _
 have U:o.size=m.size+1:=by simp[o]
 have W:G.size=m.size+2:=by simp[G,U]
 have X:H.size=m.size+3:=by simp[H,W]
 have Y:w.size=m.size+4:=by simp[w,X]
 have Z:x.size=m.size+5:=by simp[x,Y]
 have s6:j.size=m.size+6:=by simp[j,Z]
 clear_value j
 have hl:=D.pC.len
 obtain⟨q,u⟩:=ag (l:=a.cA) (k:=0) V
 have ac:=(D.df q (au u)).av
 have v:dF a 0=q:=by simp[dF,u]
 have K:∀b,ar j (.mk b 0 0 0) []:=λb=>⟨rfl,E,E,E⟩
 refine(vH (S.ext B) (dZ 0) u V 0 (K w.size) (K x.size) bK rfl).mono ?_
 rintro _ h ⟨e,f,g,rfl,N⟩
 have s:=N.ext
 have ab:=N.lo
 refine⟨s.da bK,_,_,_,_,_,_,rfl,?_⟩
 intro i y
 have C:J h i:=(J.aC h).aM _
 have s8:i.size=h.size+1:=by simp[i]
 have s9:y.size=i.size:=az _ _ _ _
 have ad:=s.size
 have T:cB i h.size eg [.i 0,.i 0,.i 0,.s (.mk e 0 q.av.toNat q.av.toNat),.s (.mk f 0 q.av.toNat q.av.toNat),.s (.mk g 0 q.av.toNat q.av.toNat)]:=cB.push h _ _
 have r:=N.Uk C
 have F:J m y:=(B.trans (s.trans C)).aj (show m.size<=o.size by omega) _ _
 have p:∀b,b≠o.size->y[b]? =i[b]? :=λb R=>bh _ _ _ _ R
 have Q:(cw a 0 0 []).av=[]++fH (q.av.toNat -([]:List Int).length):=by simp[cw,v]
 have P:(cw a 0 0 []).aW=[]++fH (q.av.toNat -([]:List Int).length):=by simp[cw,v,gN]
 have M:(cw a 0 0 []).bn=fH q.av.toNat:=by simp[cw,v]
 refine⟨_,_,_,rfl,F,e,f,g,h.size,q.av.toNat,rfl,rfl,rfl,rfl,rfl,?_,V,T.congr (p _ V)⟩
 rw[Q,P,M]
 exact⟨F,V,r.kr.congr (p _ V),r.ko.congr (p _ V),r.kh.congr (p _ V),N.len⟩
def Q8{t q m:I}{y:Nat}{My:List Ce}{bo p s:O}{dK:Int}{d e g b k l:Nat}(i:bo.cap=0/\bo.len=0/\p.cap=0/\p.len=0/\s=.mk b 0 1 1)
 (N:rT t q d e g k (cw a 0 0 []).av (cw a 0 0 []).aW (cw a 0 0 []).bn)(P:b≠d/\b≠e/\b≠g/\t.size<=b/\b<q.size)(M:cB q b eg [.i 0,.i 0,.i 0,.s (.mk d 0 k k),.s (.mk e 0 k k),.s (.mk g 0 k k)])
 (j:J q m)(R:q.size<=l)(A:cB m l y (My++[.i 3,.i 0,.i 0,.i dK,.s bo,.s p,.s s])):
 zy t (uA (uA (pS (λ_=>0) d e g 0) b 4) l 1) m l y (My++[.i 3,.i 0,.i 0,.i dK,.s bo,.s p,.s s]) bo p s [] [] [cw a 0 0 []]:=by
 have Q:=N.lo
 have L:J t m:=N.ext.trans j
 have S:=A.lt
 have T:=N.ext.size
 have x:∀c,c≠l->c≠b->(uA (uA (pS (λ_=>0) d e g 0) b 4) l 1) c=pS (λ_=>0) d e g 0 c:=λc v w=>by rw[eX v,eX w]
 have C:=N.Uk j
 obtain⟨F,G,H⟩:=C.qQ (a:=λ_=>0) (u:=0)
 have conv:∀{z:Nat}{u:O}{B:List Ce},gX (pS (λ_=>0) d e g 0) m aB 1 z u B->u.F≠l->u.F≠b->gX (uA (uA (pS (λ_=>0) d e g 0) b 4) l 1) m aB 1 z u B:=λD v w=>D.fu (λ_=>rfl) (λ_=>x _ v w)
 refine⟨L,λc K=>?_,λc K=>?_,A,iF _ _ _,⟨by simp[i.2.1],by rw[i.1,i.2.1];exact ad _,Or.inl i.1⟩,⟨[],⟨by simp[i.2.2.2.1],by rw[i.2.2.1,i.2.2.2.1];exact ad _,Or.inl i.2.2.1⟩,fU.nil _ _,UF.nil⟩,?_⟩
 ·rw[x c V V];unfold pS;rw[eX V,eX V,eX V]
 ·rw[x c (by have:=j.size;omega) (by have:=j.size;omega)];unfold pS;rw[eX (by have:=j.size;omega),eX (by have:=j.size;omega),eX (by have:=j.size;omega)]
 ·refine qO.rR (a:=[]) (f:=cw a 0 0 []) (r:=.mk d 0 k k) (j:=.mk e 0 k k) (h:=.mk g 0 k k) (k:=[]) ⟨?_,rfl,E,E,conv F (by simp only[O.iT];omega) (by simp only[O.iT];omega),conv G (by simp only[O.iT];omega) (by simp only[O.iT];omega),conv H (by simp only[O.iT];omega) (by simp only[O.iT];omega)⟩
  rw[i.2.2.2.2]
  refine⟨rfl,ad _,Or.inr ⟨b,1,[],rfl,?_,?_,rfl⟩⟩
  ·rw[eX V,iF]
  ·rw[fx];exact M.ext j
end
structure Y7 where
 cL:Int
 value:Int
 bI:Int
 bo:List Int
 ok:Bool
section
variable{m:I}
def zG{s:O}{l:List Int}(c:ar m s l)(n:l.length<=1000000000):oE 77 [O.v s] m l:=by
 apply rm;have b:=c.len;refine⟨λh=>?_,λh=>?_⟩
 ·cases s with
  |nil=>simp at b;have:l=[]:=List.length_eq_zero_iff.1 b.symm;subst this;exact⟨.nil,rfl,iO.nil _ _ _ _,J.aC _⟩
  |mk a o e d=>simp at h
  |Bj a o d=>simp at h
 ·intro d;have a:J m d:=(J.aC m).aM _;have f:iO m d aB 1 (.mk m.size 0 0 0) []:=iO.new (J.aC m) aB 1 [] 0 E;refine iO.append (zs:=[.i 0]) (f:=l.map Ce.i) f a (by simp[b]) (c.ext a).Hd bK λr o a e g i j k=>⟨r,rfl,by simpa using a,e⟩
def nO{a:O}{h:List bM}(i:cV m a h){w:Int}(y:w<=9223372036854775807):
 aN bY 123 [O.v a,vi w] m λv r=>∃(j:Int)(e:Bool),v=.tuple #[vi j,vb e]/\(e=true<->jc h w)/\(e=true->j=ix w)/\J m r:=by
 apply Dh
 have n:=i.len
 have x:=i.fL
 refine⟨λc=>?_,λc=>?_⟩
 ·simp at c
  have o:cK (w -1000)=w -1000:=aP V V
  have q:(ix w:Int)=w -1000:=by unfold ix;omega
  rw[o]
  refine⟨λg=>?_,λg=>?_⟩
  ·simp at g
   obtain⟨f,b⟩:=ag (l:=h) (k:=(w -1000).toNat) V
   obtain⟨t,u,p,_⟩:=i.u b
   refine⟨V,V,f.aQ,p,_,_,rfl,?_,λ_=>q.symm,J.aC _⟩
   simp only[mH,ao]
   refine⟨λa=>⟨c,f,b,a⟩,λ⟨_,s,d,a⟩=>?_⟩
   unfold ix at d
   rw[b]at d;simp at d;subst d;exact a
  ·simp at g
   refine⟨_,_,rfl,⟨λh=>by simp at h,λ⟨_,f,b,_⟩=>?_⟩,λh=>by simp at h,J.aC _⟩
   have:=ax b
   omega
 ·simp at c
  exact⟨_,_,rfl,⟨λh=>by simp at h,λn=>by have:=n.1;omega⟩,λh=>by simp at h,J.aC _⟩
end
structure FP(m:I)(fb fo:Nat)(f:aZ)(r o h:O):Prop where
 g3:D m fb (fo+3)=some (O.v r)
 g4:D m fb (fo+4)=some (O.v o)
 g5:D m fb (fo+5)=some (O.v h)
 av:ar m r f.av
 aW:ar m o f.aW
 bn:ar m h f.bn
def FP.ext{m d:I}{b c:Nat}{f:aZ}{r o h:O}(F:FP m b c f r o h)(a:J m d):FP d b c f r o h:=⟨a.D F.g3,a.D F.g4,a.D F.g5,F.av.ext a,F.aW.ext a,F.bn.ext a⟩


section
abbrev IB(d p:O)(c:Int)(s:St)(bo b a:O):List Ce:=[.s d,.s p,.i c,.i s.cL,.i s.value,.i s.bI,.i s.dK,.s bo,.s b,.s a]
def Ub(g:I)(i:Nat->Nat)(m:I)(h:Nat)(f p:O)(e:Int)(s:St)(c:I):Prop:=
 ∃d bo b a,zy g d c h HP (IB f p e s bo b a) bo b a s.bo s.heap s.ak/\To i m d c
def Ub.from{b:I}{g h:Nat->Nat}{m e a:I}{f:Nat}{d p:O}{c:Int}{s:St}(j:Ub b h e f d p c s a)(o:To g m h e):Ub b g m f d p c s a:=
 let⟨q,bo,n,i,k,l⟩:=j
 ⟨q,bo,n,i,k,o.trans l⟩
section
variable{l:I}{p q:Nat->Nat}{m k:I}{n e:Nat}{a:List Ce}{bo g c:O}{j:List Int}{i:List bM}{d:List aZ}{f:aZ}{r o h:O}{b:List (List Ce)}
end
section
variable{i:I}{k:Nat->Nat}{m:I}{j:Nat}{d p bo g b:O}{c:Int}{s:St}{e:List aZ}{f:aZ}{r o h:O}{a:List (List Ce)}
end
end
section
section
variable{i:I}{k:Nat->Nat}{m:I}{j:Nat}{d p bo g b:O}{c:Int}{s:St}{e:List aZ}{f:aZ}{r o h:O}{a:List (List Ce)}
end
end
section
variable{a:I}{b c d n i:Nat}
section
variable{u:I}{e:Nat->Nat}{m:I}{v:Nat}{k p bo t l:O}{g:Int}{s:St}{q:List aZ}{f:aZ}{r o h:O}{j:List (List Ce)}
def nC.none{e:Nat->Nat}{m:I}:nC e m .nil []:=⟨[],gX.ij (iO.nil m m _ _) (λa=>absurd rfl a),rfl,E,E⟩
end
def rT.Fe{f:I}{av aW bn:List Int}(N:rT f a b c d n av aW bn)(g:i<n)(v:Int):fm a b i 1/\rT f (aj a b i [.i v]) b c d n (av.set i v) aW bn:=by
 have e:=N.lo;refine⟨N.kr.fm (by simp[N.len.1];omega),N.ext.aj e.1 _ _,by rw[az];exact e,?_,N.ko.congr (bh _ _ _ _ V),N.kh.congr (bh _ _ _ _ V),by simp[N.len]⟩;have:=cB.aj (m:=a) (o:=i) (r:=[.i v]) N.kr;rw[xI]at this;exact this
def rT.xJ{f:I}{av aW bn:List Int}(N:rT f a b c d n av aW bn)(g:i<n)(v:Int):fm a c i 1/\rT f (aj a c i [.i v]) b c d n av (aW.set i v) bn:=by
 have e:=N.lo;refine⟨N.ko.fm (by simp[N.len.2.1];omega),N.ext.aj e.2.1 _ _,by rw[az];exact e,N.kr.congr (bh _ _ _ _ V),?_,N.kh.congr (bh _ _ _ _ V),by simp[N.len]⟩;have:=cB.aj (m:=a) (o:=i) (r:=[.i v]) N.ko;rw[xI]at this;exact this
section
variable{t:I}{v:Nat->Nat}{m:I}{u:Nat}{j p bo q k:O}{e:Int}{s:St}{l:List aZ}{f:aZ}{r o h:O}{g:List (List Ce)}
end
end
section
section
variable{g:I}{j:Nat->Nat}{m:I}{i:Nat}{d p bo e b:O}{s:St}{c:List aZ}{f:aZ}{r o h:O}{a:List (List Ce)}
end
end
section
section
variable{c:I}{f:Nat->Nat}{m:I}{e:Nat}{d p bo b a:O}{s:St}
end
end
end Go.Proofs.YtgnjacfobdjeeaaGreat
section
namespace Go.Vc
def tI{m:I}{b o:Nat}{v:Value}(h:(D m b o).isSome=true):D (pA m b o v) b o=some v:=by
 unfold D at h⊢;simp only[pA,j8,JV];cases d:m[b]? with
 |none=>rw[d]at h;simp at h
 |some f=>
  rw[d]at h;cases f with
  |cells c g i=>
   simp only[]at h;have e:o<c.size:=by
    rcases aV o c.size with a|a
    ·exact a
    ·rw[Gb a]at h;simp at h
   simp[e]
  |_=>simp at h
def ID{m:I}{c o a b:Nat}{v:Value}(h:a≠c\/b≠o):D (pA m c o v) a b=D m a b:=by
 by_cases d:a=c
 ·subst d;have e:b≠o:=by rcases h with h|h;exact absurd rfl h;exact h
  unfold D;simp only[pA,j8,JV];cases d:m[a]? with
  |none=>rfl
  |some f=>
   cases f with
   |cells g i j=>simp[jQ e]
   |_=>rfl
 ·exact aI (Jl _ _ _ _ d) _
def Og(m:I)(c o:Nat)(v:Value)(a d:Nat):tH (pA m c o v) a d=tH m a d:=by
 by_cases b:a=c
 ·subst b;unfold tH;simp only[pA,j8,JV];cases b:m[a]? with
  |none=>rfl
  |some e=>
   cases e with
   |cells f g h=>rfl
   |_=>rfl
 ·unfold tH;rw[Jl _ _ _ _ b]
structure Rr(m:I)(k:Int)(pos:List (Nat×Nat))(m':I):Prop where
 size:m.size<=m'.size
 F:∀b,b<m.size->(∀p∈pos,p.1≠b)->m'[b]? =m[b]?
 cell:∀b o,b<m.size->(b,o)∉pos->D m' b o=D m b o
 tH:∀b o,b<m.size->Vc.tH m' b o=Vc.tH m b o
 int:∀p∈pos,∃n,D m' p.1 p.2=some (vi n)
 val:pos.Nodup->∀(j:Nat)(p:Nat×Nat),pos[j]? =some p->D m' p.1 p.2=some (vi (k+j))
def Rr.nil{m c:I}(h:J m c)(k:Int):Rr m k [] c:=
 ⟨h.size,λb a _=>h.same b a,λb o a _=>aI (h.same b a) o,λb o a=>by unfold Vc.tH;rw[h.same b a],E,E⟩
def Rr.kj{m:I}{b o:Nat}(h:(D m b o).isSome=true)(k:Int):Rr m k [(b,o)] (aj m b o [.i k]):=by
 refine⟨rP (az _ _ _ _).symm,λc f d=>bh _ _ _ _ λe=>d (b,o) E e.symm,λc q f d=>?_,λc q f=>Og _ _ _ _ _ _,λp a=>?_,λ_ j p a=>?_⟩
 ·refine ID ?_;by_cases e:c=b
  ·right;intro g;subst e;subst g;simp at d
  ·exact Or.inl e
 ·simp at a;subst a;exact⟨k,tI h⟩
 ·cases j with
  |zero=>
   simp at a;subst a;have e:k+((0:Nat):Int)=k:=V;rw[e];exact tI h
  |succ j=>simp at a
def Rr.trans{m n q:I}{k:Int}{e l:List (Nat×Nat)}(h:Rr m k e n)(g:Rr n (k+e.length) l q):Rr m k (e++l) q:=by
 have x:=h.size;refine⟨bJ h.size g.size,λc f b=>?_,λc o f b=>?_,λc o f=>?_,λp a=>?_,λv j p a=>?_⟩
 ·rw[g.F c V λp a=>b p (dE _ a),h.F c f λp a=>b p (bB _ a)]
 ·rw[g.cell c o V λa=>b (dE _ a),h.cell c o f λa=>b (bB _ a)]
 ·rw[g.tH c o V,h.tH c o f]
 ·by_cases i:p∈l
  ·exact g.int p i
  ·have d:p∈e:=by rcases List.mem_append.1 a with d|d;exact d;exact absurd d i
   obtain⟨r,b⟩:=h.int p d;exact⟨r,by rw[g.cell p.1 p.2 (lC b) i];exact b⟩
 ·obtain⟨i,s,t⟩:=List.nodup_append.1 v;by_cases w:j<e.length
  ·rw[aw w]at a;have d:p∈e:=ik a;obtain⟨r,b⟩:=h.int p d;rw[g.cell p.1 p.2 (lC b) λu=>t p d p u rfl];exact h.val i j p a
  ·rw[aF V]at a;have:=g.val s _ p a;have d:k+(e.length:Int)+((j -e.length:Nat):Int)=k+j:=V;rw[d]at this;exact this
inductive Rt where
 |nil
 |int (r:Rt)
 |sl (e r:Rt)
def Rt.size:Rt->Nat
 | .nil=>0
 | .int r=>r.size+1
 | .sl _ r=>r.size+1
inductive Qh where
 |je (r:Rt)
 |Hd (e:Rt) (n:Nat)
inductive tE(m:I):Qh->Nat->Nat->List (Nat×Nat)->Prop where
 |nil (b o:Nat):tE m (.je .nil) b o []
 |int {b o:Nat} {r:Rt} {p:List (Nat×Nat)} {n:Int} (h:D m b o=some (vi n)) (hf:Vc.tH m b o=false) (hr:tE m (.je r) b (o+1) p):tE m (.je (.int r)) b o ((b,o)::p)
 |sl {b o:Nat} {e r:Rt} {p1 p2:List (Nat×Nat)} {s:O} (h:D m b o=some (O.v s)) (hl:s.len<=9223372036854775807) (he:tE m (.Hd e s.len) s.F s.off p1) (hr:tE m (.je r) b (o+1) p2):tE m (.je (.sl e r)) b o (p1++p2)
 |zero (e:Rt) (b o:Nat):tE m (.Hd e 0) b o []
 |succ {b o n:Nat} {e:Rt} {p1 p2:List (Nat×Nat)} (he:tE m (.je e) b o p1) (hr:tE m (.Hd e n) b (o+e.size) p2):tE m (.Hd e (n+1)) b o (p1++p2)
def tE.ov{m:I}{K:Qh}{f o:Nat}{e:List (Nat×Nat)}(h:tE m K f o e):∀p∈e,∃n,D m p.1 p.2=some (vi n):=by
 induction h with
 |nil=>simp
 |int h c d b=>
  intro p a;rcases List.mem_cons.1 a with rfl|a
  ·exact⟨_,h⟩
  ·exact b p a
 |sl h i g d b c=>
  intro p a;rcases List.mem_append.1 a with a|a
  ·exact b p a
  ·exact c p a
 |zero=>simp
 |succ g d b c=>
  intro p a;rcases List.mem_append.1 a with a|a
  ·exact b p a
  ·exact c p a
def tE.lt{m:I}{K:Qh}{b o:Nat}{a:List (Nat×Nat)}(h:tE m K b o a):∀p∈a,p.1<m.size:=λp d=>let⟨_,c⟩:=h.ov p d;lC c
def Ri(n:Int)(s:O):vi n≠O.v s:=by cases s<;>simp[vi,O.v]
def tE.XA{m j:I}{u:Int}{q:List (Nat×Nat)}(g:Rr m u q j)(t:∀p∈q,∃n,D m p.1 p.2=some (vi n)){K:Qh}{b o:Nat}{k:List (Nat×Nat)}(h:tE m K b o k):tE j K b o k:=by
 induction h with
 |nil=>exact .nil _ _
 | @int b o v p n h d i e=>
  have a:=lC h;by_cases c:(b,o)∈q
  ·obtain⟨r,f⟩:=g.int _ c;exact .int f (by rw[g.tH b o a];exact d) e
  ·exact .int (by rw[g.cell b o a c];exact h) (by rw[g.tH b o a];exact d) e
 | @sl b o w v x y l h r p i d e=>
  have a:=lC h;refine .sl (s:=l) ?_ r d e;rw[g.cell b o a λc=>?_]
  ·exact h
  ·obtain⟨n,f⟩:=t _ c;rw[h]at f;exact Ri n l (mB f).symm
 |zero=>exact .zero _ _ _
 |succ p i d e=>exact .succ d e
def tE.ext{m a:I}(d:J m a){K:Qh}{b o:Nat}{c:List (Nat×Nat)}(h:tE m K b o c):tE a K b o c:=h.XA (Rr.nil d 0) E
end Go.Vc
namespace Go.Proofs.YtgnjacfobdjeeaaGreat
open Go.Vc
end Go.Proofs.YtgnjacfobdjeeaaGreat
end
namespace Go.Proofs.YtgnjacfobdjeeaaGreat
open Go.Vc
section
section
variable{m:I}{s t:O}{a r:List Int}
def sH(i:ar m s a)(o:ar m t r):dm bY 15 [O.v s,O.v t] m (a=r):=by
 apply xA;have q:=i.len;have x:=o.len;refine⟨λh=>bX (λf=>?_) (J.aC _),λh=>?_⟩
 ·subst f;simp at h;omega
 ·have w:a.length=r.length:=by simp at h;omega
  refine dO (n:=a.length) (q▸i.fL) (λe b=>J m b/\a.take e=r.take e) ⟨J.aC _,E⟩ ?_;rintro e A I μ v ⟨c,g⟩ u
  refine dit (λp=>?_) λp=>?_
  ·obtain⟨y,j⟩:=ag (l:=a) (k:=e) V;obtain⟨z,d⟩:=ag (l:=r) (k:=e) V;refine⟨V,V,y,by simpa using c.D (i.u j),V,V,z,by simpa using c.D (o.u d),λb=>bX (λf=>?_) c,λb=>u V _ ⟨c,?_⟩⟩
   ·subst f;rw[j]at d;simp at d b;exact b d
   ·simp at b;rw[bH j,bH d,g,b]
  ·rw[bZ V,bZ V]at g;exact iN g c
end
section
variable{m:I}{b P:Nat}{a:O}{S:List Nat}
def Ge.ext{a:I}{cE:O}(h:Ge m cE)(x:J m a):Ge a cE:=⟨h.1,λk d=>let⟨v,b,c,g⟩:=h.2 k d;⟨v,b,c,x.D g⟩⟩
end
end
section
variable{n b:Nat}{f:Nat->Int}{d:cD}{s:St}
def qJ(n:Nat)(f:Nat->Int):List Int:=(List.range n).map f
def lR(n:Nat)(f:Nat->Int):(qJ n f).length=n:=by simp[qJ]
def qK(h:b<n):(qJ n f)[b]? =some (f b):=by
 unfold qJ;rw[bW,Ku h];rfl
def eG{g:Nat->Int}(h:∀b,b<n->f b=g b):qJ n f=qJ n g:=by
 unfold qJ;exact List.map_congr_left λb a=>h b (List.mem_range.1 a)
def Pw(v:Int):(qJ n f).set b v=qJ n (λa=>if a=b then v else f a):=by
 apply fI;intro i;by_cases a:i<n
 ·rw[qK a];by_cases e:b=i
  ·subst e;rw[dA (by rw[lR];exact a),aq rfl]
  ·rw[dQ e,qK a,ae (λh=>e h.symm)]
 ·rw[cb (by rw[gW,lR];omega),cb (by rw[lR];omega)]
def P1(n:Nat):qJ n (λ_=>0)=fH n:=by
 unfold qJ fH;rw[Zb];simp
structure Ev(h:List bM):Prop where
 iA:mC h
 cells:∀c∈h,mI h c
 dq:∀(b:Nat)(c:bM),h[b]? =some c->0<c.aQ->dq h b<=c.aQ
 JX:Qb h
structure EC(h:List bM)(f:aZ):Prop where
 df:∀(k:Nat)(w o:Int),f.av[k]? =some w->f.aW[k]? =some o->(gA w\/1000<=w)/\(0<=o/\o<=999999)/\(0<o->jc h w)
structure HY(d:cD)(h:List bM)(prev:Option aZ)(f:aZ):Prop where
 eS:0<=f.eS/\f.eS<d.cA.length
 pc:0<=f.pc/\f.pc<(dF d f.eS).cE.length
 lr:(f.av.length:Int)=(dF d f.eS).av
 lo:(f.aW.length:Int)=(dF d f.eS).av
 lh:(f.bn.length:Int)=(dF d f.eS).av
 av:EC h f
 first:prev=none->f.dst=0
 next:∀p,prev=some p->0<=f.dst/\f.dst<p.aW.length/\u p.aW f.dst=0
def lZ(a:List aZ):Nat->Option aZ
 |0=>none
 |k+1=>a[k]?
structure Ln(h:List bM)(fs:List aZ):Prop where
 dh:∀f∈fs,∀w∈f.bn,w=0\/(1000<=w/\ix w<h.length)
 jy:∀(i:Nat)(c:bM),h[i]? =some c->c.aQ<0->holds fs i=1
 lL:∀(i:Nat)(c:bM),h[i]? =some c->0<=c.aQ->holds fs i=0
structure KA(d:cD)(s:St):Prop where
 fK:lO d
 cL:0<=s.cL/\s.cL<=3
 done:s.cL=0<->s.ak=[]
 value:gA s.value
 rL:s.value≠0->s.cL=0
 dK:0<=s.dK/\s.dK<=40
 bI:0<=s.bI/\s.bI<=s.dK
 depth:(s.ak.length:Int)<=s.bI+1
 bo:∀n∈s.bo,gA n
 heap:Ev s.heap
 ak:∀(k:Nat)(f:aZ),s.ak[k]? =some f->HY d s.heap (lZ s.ak k) f
 bn:Ln s.heap s.ak
 Oc:∀(b:Nat)(c:bM),s.heap[b]? =some c->0<c.aQ->c.aQ=dq s.heap b+dD s.ak b
def Nk:∀{c:List aZ}{b:Nat},0<dD c b->∃f∈c,0<cz f.av f.aW b
 |[],b,h=>by simp[dD]at h
 |f::c,b,h=>by
  simp only[dD]at h;by_cases d:0<cz f.av f.aW b
  ·exact⟨f,E,d⟩
  ·obtain⟨g,e,i⟩:=Nk (c:=c) (b:=b) V;exact⟨g,by simp[e],i⟩
def KU:∀{av aW:List Int}{b:Nat},0<cz av aW b->∃(k:Nat)(o:Int),av[k]? =some (1000+(b:Int))/\aW[k]? =some o/\0<o
 |[],aW,b,h=>by simp[cz]at h
 |_::_,[],b,h=>by simp[cz]at h
 |r::i,o::g,b,h=>by
  simp only[cz]at h;by_cases a:r=1000+(b:Int)/\0<o
  ·exact⟨0,o,by simp[a.1],rfl,a.2⟩
  ·have:0<cz i g b:=by
    split at h
    ·rename_i e;have:¬0<o:=λc=>a ⟨e,c⟩;omega
    ·omega
   obtain⟨k,f,c,d,e⟩:=KU this;exact⟨k+1,f,by simpa using c,by simpa using d,e⟩
def Se{a:List aZ}{f:aZ}(c:f∈a)(d:∀g∈a,0<=cz g.av g.aW b):cz f.av f.aW b<=dD a b:=by
 induction a with
 |nil=>simp at c
 |cons g a i=>
  have m:0<=dD a b:=by
   clear i c;induction a with
   |nil=>simp[dD]
   |cons q a j=>
    have k:=d q E;have l:=j (λx e=>d x (by simp at e⊢;rcases e with h|h;exact Or.inl h;exact Or.inr (Or.inr h)));simp only[dD];omega
  simp only[dD];rcases List.mem_cons.1 c with rfl|c
  ·omega
  ·have:=i c λx e=>d x (by simp[e]);have:=d g E;omega
def Q4{a:List aZ}(c:∀g∈a,0<=cz g.av g.aW b):0<=dD a b:=by
 induction a with
 |nil=>simp[dD]
 |cons q a e=>
  have f:=c q E;have g:=e λx d=>c x (by simp[d]);simp only[dD];omega
def Nf{a:List aZ}{f:aZ}(c:f∈a):dS f.bn b<=holds a b:=by
 induction a with
 |nil=>simp at c
 |cons g a d=>
  simp only[holds];rcases List.mem_cons.1 c with rfl|c
  ·have:=tJ a b;omega
  ·have:=d c;have:=gL g.bn b;omega
def IK{a:List aZ}(h:∀f∈a,∀w∈f.bn,w≠1000+(b:Int)):holds a b=0:=by
 induction a with
 |nil=>rfl
 |cons g a e=>
  simp only[holds];rw[e λf c=>h f (by simp[c]),ms λd=>h g E _ d rfl];rfl
def oN{a:List aZ}{f:aZ}(h:f∈a):∃k:Nat,a[k]? =some f:=List.mem_iff_getElem?.1 h
def JJ(h:KA d s):cN d s:=by
 have u:∀f∈s.ak,∃r,HY d s.heap r f:=λf e=>let⟨c,i⟩:=oN e;⟨_,h.ak c f i⟩;have B:∀b,∀m∈s.ak,0<=cz m.av m.aW b:=λb m v=>by
  obtain⟨r,a⟩:=u m v;refine px (λo n=>?_) b;obtain⟨c,i⟩:=List.mem_iff_getElem?.1 n;have x:=ax i;have g:=a.lr;have t:=a.lo;obtain⟨w,j⟩:=ag (l:=m.av) (k:=c) V;exact(a.av.df c w o j i).2.1.1
 refine⟨h.fK,h.cL,h.done,h.value,h.rL,h.dK,h.bI,h.depth,h.bo,⟨h.heap.cells,h.heap.JX,h.Oc,λb=>Q4 (B b),λb A=>?_⟩,h.heap.iA,λf e=>?_,λf e=>(h.ak 0 f e).first rfl,λc f m e v=>(h.ak (c+1) m v).next f e,λb⟨p,q,y⟩=>h.bn.jy b p q y,λb i=>?_⟩
 ·obtain⟨f,e,a⟩:=Nk A;obtain⟨c,o,g,t,z⟩:=KU a;obtain⟨r,a⟩:=u f e;have:=((a.av.df c _ o g t).2.2 z).2;rwa[jL]at this
 ·obtain⟨r,a⟩:=u f e;refine⟨a.eS,a.pc,a.lr,a.lo,a.lh,λw j=>?_,λc o w n j=>?_,λw j=>?_⟩
  ·obtain⟨c,i⟩:=List.mem_iff_getElem?.1 j;have x:=ax i;have g:=a.lr;have t:=a.lo;obtain⟨o,n⟩:=ag (l:=f.aW) (k:=c) V;exact(a.av.df c w o i n).1
  ·have:=a.av.df c w o j n;exact⟨this.2.1.1,λz=>(this.2.2 z).1⟩
  ·rcases h.bn.dh f e w j with g|g
   ·exact Or.inl g
   ·exact Or.inr g.1
 ·rcases aV b s.heap.length with x|C
  ·obtain⟨p,q⟩:=ag x;refine h.bn.lL b p q (Int.not_lt.1 λy=>i ⟨p,q,y⟩)
  ·refine IK λf e w j z=>?_;rcases h.bn.dh f e w j with g|g
   ·omega
   ·have:=g.2;rw[z,jL]at this;omega
def EI(h:cN d s):KA d s:=by
 have E:∀b,∀p∈s.ak,0<=cz p.av p.aW b:=λb p D=>px (h.ak p D).Nj b;have y:∀f∈s.ak,∀(k:Nat)(w o:Int),f.av[k]? =some w->f.aW[k]? =some o->0<o->jc s.heap w/\o<=999999:=λf g k w o i n q=>by
  have m:=((h.ak f g).aW k o w n i).2 q;have A:=gP m;have B:=I7 (h.ak f g).Nj i n (c:=ix w) A.symm;have C:=Se g (E (ix w));have x:=h.heap.lv (ix w) V;obtain⟨j,e,c⟩:=x;have I:=h.heap.ex _ j e c;have J:=nV s.heap (ix w);have K:=(h.heap.cell j (au e)).hi;exact⟨⟨m,j,e,c⟩,V⟩
 refine⟨h.fK,h.cL,h.done,h.value,h.rL,h.dK,h.bI,h.depth,h.bo,⟨h.iA,h.heap.cell,λb j e c=>?_,h.heap.JX⟩,λk f g=>?_,⟨λf g w i=>?_,λu j e z=>h.jy u ⟨j,e,z⟩,λu j e z=>h.lL u λ⟨H,r,L⟩=>?_⟩,h.heap.ex⟩
 ·have:=h.heap.ex b j e c;have:=h.heap.nn b;omega
 ·have t:=au g;have F:=h.ak f t;refine⟨F.eS,F.pc,F.lr,F.lo,F.lh,⟨λv w o i n=>⟨F.OA w (au i),⟨(F.aW v o w n i).1,?_⟩,λc=>(y f t v w o i n c).1⟩⟩,λc=>?_,λG c=>?_⟩
  ·rcases Gc 0 o with q|q
   ·exact(y f t v w o i n q).2
   ·omega
  ·cases k with
   |zero=>exact h.first f g
   |succ k=>
    simp only[lZ]at c;have:=ax g;rw[List.getElem?_eq_none_iff]at c;omega
  ·cases k with
   |zero=>simp[lZ]at c
   |succ k=>exact h.chain k G f c g
 ·rcases(h.ak f g).bn w i with m|m
  ·exact Or.inl m
  ·refine Or.inr ⟨m,Nat.lt_of_not_le λt=>?_⟩;have B:=h.lL (ix w) λ⟨j,e,_⟩=>by have:=ax e;omega
   have C:=Nf g (b:=ix w);have x:=sJ (l:=f.bn) (f:=ix w) (by rw[gP m];exact i);omega
 ·rw[e]at r;simp at r;subst r;omega
end
section
variable{M d:I}{b e a:Nat}{f:Nat->Int}{h:List bM}{w:Int}{c:bM}
def Ew(w:Int):Prop:=-9223372036854775808<=w/\w<=9223372036854775807
def ME(h:List bM):Prop:=∀c∈h,∀w∈c.aK,Ew w
def pY(B:cB M b aB ((qJ e f).map Ce.i))(h:a<e):D M b a=some (vi (f a)):=by
 rw[B.cy a,bW,qK h];rfl
def FY(B:cB M b aB ((qJ e f).map Ce.i))(a:Nat)(v:Int):cB (aj M b a [.i v]) b aB ((qJ e (λx=>if x=a then v else f x)).map Ce.i):=by
 have:=B.aj (m:=M) (o:=a) (r:=[.i v]);rw[xI,Pw]at this;exact this
def Lc(B:cB M b aB ((qJ e f).map Ce.i))(h:a<e):fm M b a 1:=B.fm (by simp[lR];omega)
def Mo(B:cB M b aB ((qJ e f).map Ce.i))(h:e<=9223372036854775807):ar M (.mk b 0 e e) (qJ e f):=
 ⟨by simp[lR],ad _,h,λk x a=>⟨[.i x],rfl,λi c d=>by
  have g:k<e:=by have:=ax a;rwa[lR]at this
  rw[qK g]at a;simp at a;cases i with
  |zero=>simp at d;subst d;have:=pY B g;rw[a]at this;simpa[Ce.v]using this
  |succ i=>simp at d⟩⟩
def JN(M:I)(e:Nat):cB (M.push (.cells (br (lU [.i (0:Int)] e)) aB)) M.size aB ((qJ e (λ_=>0)).map Ce.i):=by
 rw[JR,P1];exact cB.push M _ _
def If(f:Nat)(b:List Value)(d:I)(l:List Int):Prop:=aN bY f b d λv a=>∃s,v=O.v s/\ar a s l/\J d a
def JB{f:O}(j:cV d f h)(l:Ew w):dm bY 162 [O.v f,vi w] d (oL h w):=by
 apply DR;refine(aU _ _ _ _).then λb n e c=>⟨b,rfl,λa=>iN (Or.inl (e.1 a)) c,λa=>?_⟩;refine(gS (cV.ext c j) l).then λg o i m=>⟨g,rfl,fA ?_ (c.trans m)⟩;rw[i];exact⟨λh=>Or.inr h,λh=>h.resolve_left λk=>fb e a k⟩
def Ec{G f:O}(K:cV d G h)(A:ar d f c.aK)(L:∀w∈c.aK,Ew w):dm bY 117 [O.v G,.agg #[vi c.aQ,vi c.lp,O.v f]] d (mI h c):=by
 apply yP;simp -zeta only[aE,aD];intro q;have e:J d q:=(J.aC d).aM _;have T:q.size=d.size+1:=by simp[q]
 clear_value q;have F:=A.len;refine⟨λx=>bX (λa=>by have:=a.fl;simp at x;omega) e,λx=>?_⟩;have B:c.aK.length<=3:=by simp at x;omega
 have s:∀b∈[d.size],b<q.size:=bK;refine(aU _ _ _ _).aG (J.aC _) s λb S D i _=>⟨b,rfl,λy=>bX (λa=>nb D y ⟨a.lo,a.hi⟩) (e.trans i),λy=>?_⟩;have p:=yb D y;refine⟨λz=>?_,λz=>?_⟩
 ·have m:c.aQ<1:=by simpa using z
  refine⟨λo=>?_,λo=>bX (λa=>by simp at o;exact o (a.uH m).1) (e.trans i)⟩;have u:c.lp=0:=by simpa using o
  refine(kJ (A.ext (e.trans i))).aG i s λH M v j _=>⟨H,rfl,λg=>?_,λg=>bX (λa=>fb v g (a.uH m).2.1) ((e.trans i).trans j)⟩;have C:=v.1 g;refine⟨λt=>iN ⟨B,p.1,p.2,λ_=>⟨u,C,λr=>by simp at t;omega⟩,λr=>V⟩ ((e.trans i).trans j),λt=>fA ?_ ((e.trans i).trans j)⟩;have I:c.aQ=0:=by simp at t;omega
  constructor
  ·intro r;have:c.aK=[]:=by simp at r;exact List.length_eq_zero_iff.1 V
   exact⟨B,p.1,p.2,λ_=>⟨u,C,λ_=>this⟩,λr=>V⟩
  ·intro a;have:=(a.uH m).2.2 I;rw[this]at F;simp[F]
 ·have m:0<c.aQ:=by simp at z;omega
  refine dO (n:=c.aK.length) V (λC r=>J q r/\∀w∈c.aK.take C,oL h w) ⟨i,E⟩ ?_;rintro C M Q μ R ⟨j,H⟩ N
  refine dit (λo=>?_) λo=>?_
  ·obtain⟨w,t⟩:=ag (l:=c.aK) (k:=C) V;refine⟨V,V,w,by simpa using(A.ext (e.trans j)).u t,(JB (cV.ext (e.trans j) K) (L w (au t))).aG j s λv I r P u=>⟨v,rfl,λg=>bX (λa=>nb r g ((a.oC m).1 w (au t))) (e.trans u),λg=>N V I ⟨u,bD t H (yb r g)⟩⟩⟩
  ·refine(aU _ _ _ _).aG j s λv I r P u=>⟨v,rfl,fA ?_ (e.trans u)⟩;rw[r];exact⟨λt=>⟨B,p.1,p.2,λg=>V,λ_=>⟨cF V H,t⟩⟩,λa=>(a.oC m).2⟩
def K4{i:Nat}(b:h[i]? =some c)(a:Nat):dq (h.take (i+1)) a=dq (h.take i) a+dS c.aK a:=by
 rw[bH b,sL];simp[dq]
def pw{l:List Int}{k:Nat}(b:l[k]? =some w)(a:Nat):dS (l.take (k+1)) a=dS (l.take k) a+(if w=1000+(a:Int)then 1 else 0):=by
 rw[bH b,mS];simp[dS]
def zn:∀(h:List bM)(a:Nat),(∀c∈h,c.aK.length<=3)->dq h a<=3*h.length
 |[],a,_=>by simp[dq]
 |c::h,a,b=>by
  have f:=zn h a λd e=>b d (by simp[e]);have g:=jM c.aK a;have i:=b c E;simp only[dq,bg];omega
def Gh(b:∀c∈h,mI h c)(d:c∈h)(e:w∈c.aK):jc h w\/w<1000:=by
 by_cases f:0<c.aQ
 ·rcases((b c d).oC f).1 w e with a|a
  ·have:=a.2;exact Or.inr V
  ·exact Or.inl a
 ·have:=((b c d).uH V).2.1 w e;exact Or.inr V
def yH{D:O}(B:cV d D h)(x:∀c∈h,mI h c)(U:ME h)(ai:h.length<=1000000000):If 118 [O.v D] d (qJ h.length (dq h)):=by
 apply DU;have hl:=B.len;have Q:Int.toNat (D.len:Int)=h.length:=V;rw[Q];refine⟨V,V,V,V,?_⟩;intro E;have x1:J d E:=(J.aC d).aM _;have M:cB E d.size aB ((qJ h.length (λ_=>0)).map Ce.i):=JN d _;clear_value E;have T:∀i,∀c∈h.take i,c.aK.length<=3:=λi c W=>(x c (cT W)).fl;refine dO (n:=h.length) V (λi j=>J d j/\cB j d.size aB ((qJ h.length (λa=>dq (h.take i) a)).map Ce.i)) ⟨x1,by simpa[dq]using M⟩ ?_;rintro i m2 ab μ hi ⟨L,r⟩ aa
 refine dit (λR=>?_) λR=>?_
 ·obtain⟨c,y⟩:=ag (l:=h) (k:=i) V;have z:=au y;have af:=(x c z).fl;refine dO (n:=c.aK.length) V (λe j=>J d j/\cB j d.size aB ((qJ h.length (λa=>dq (h.take i) a+dS (c.aK.take e) a)).map Ce.i)) ⟨L,by simpa[dS]using r⟩ ?_;rintro e Y ac ν hk ⟨p,q⟩ K;obtain⟨f,A,_,_,u⟩:=(cV.ext p B).u y;have ah:=A.len;refine⟨V,V,f,by simpa using u,dit (λS=>?_) λS=>?_⟩
  ·obtain⟨w,o⟩:=ag (l:=c.aK) (k:=e) V;have I:=au o;have H:=U c z w I;refine⟨V,V,f,by simpa using u,V,V,w,by simpa using A.u o,(gS (cV.ext p B) H).then λb Z m j=>⟨b,rfl,λv=>?_,λv=>?_⟩⟩
   ·have C:=m.1 v;have G:=ax (cp C).1;have N:cK (w -1000)=(ix w:Nat):=by have:=C.1;have:=H.2;unfold ix;rw[aP V V];omega
    have P:Int.toNat ((ix w:Nat):Int)=ix w:=V;have s:=q.ext j;have q1:=zn (h.take i) (ix w) (T i);have q2:=jM (c.aK.take e) (ix w);have q3:=nV (h.take i) (ix w);have q4:=gL (c.aK.take e) (ix w);have q5:(h.take i).length<=h.length:=bK;have q6:(c.aK.take e).length<=3:=bK;refine⟨V,V,f,by simpa using j.D u,V,V,w,by simpa using(A.ext j).u o,?_⟩;rw[N,P];simp only[O.fj,O.iT,O.lY,bN,dG];refine⟨V,V,_,pY s G,V,V,Lc s G,?_⟩;rw[show cK (dq (h.take i) (ix w)+dS (c.aK.take e) (ix w)+1)=dq (h.take i) (ix w)+dS (c.aK.take e) (ix w)+1 from aP V V];refine K V _ ⟨(p.trans j).aj (ad _) _ _,?_⟩;have F:=FY s (ix w) (dq (h.take i) (ix w)+dS (c.aK.take e) (ix w)+1);rw[eG (g:=λa=>dq (h.take i) a+dS (c.aK.take (e+1)) a)]at F
    ·exact F
    ·intro b m;rw[pw o];by_cases t:b=ix w
     ·subst t;rw[aq rfl,aq (gP C.1).symm];omega
     ·rw[ae t,ae (λX=>t (by rw[X,jL]))];omega
   ·refine K V Z ⟨p.trans j,?_⟩;have s:w<1000:=(Gh x z I).resolve_left (fb m v);rw[eG (g:=λa=>dq (h.take i) a+dS (c.aK.take e) a)]
    ·exact q.ext j
    ·intro b m;rw[pw o,ae V];omega
  ·refine aa V Y ⟨p,?_⟩
   have j:c.aK.take e=c.aK:=bZ V;rw[j]at q;rw[eG (g:=λa=>dq (h.take i) a+dS c.aK a)]
   ·exact q
   ·intro b m;exact K4 y b
 ·rw[bZ V]at r;exact⟨_,rfl,Mo r V,L⟩
end
section
variable{a b c:Nat}{h:List bM}{M g:I}{e:Nat->Bool}
def kW(mk:Nat->Bool):Nat->Nat
 |0=>0
 |c+1=>kW mk c+(if mk c=true then 1 else 0)
def CS(mk:Nat->Bool):∀c,kW mk c<=c
 |0=>ad _
 |c+1=>by have:=CS mk c;simp only[kW];split<;>omega
def Io{mk:Nat->Bool}:∀{c:Nat},(kW mk c=c<->∀i,i<c->mk i=true)
 |0=>by simp[kW]
 |c+1=>by
  have g:=CS mk c;have a:=Io (mk:=mk) (c:=c);simp only[kW];constructor
  ·intro h i f;have b:mk c=true:=by by_cases e:mk c=true;exact e;rw[ae e]at h;omega
   rw[aq b]at h;rcases aV i c with d|d
   ·exact a.1 V i d
   ·have:i=c:=V;rw[this];exact b
  ·intro h;rw[aq (h c V),a.2 λi f=>h i V]
def Ip{mk a:Nat->Bool}:∀{c:Nat},(∀i,i<c->mk i=a i)->kW mk c=kW a c
 |0,_=>rfl
 |c+1,h=>by simp only[kW];rw[Ip λi b=>h i V,h c V]
def kX(mk:Nat->Bool)(a:Nat):Nat->Bool:=λx=>if x=a then true else mk x
def tV(mk:Nat->Bool)(a:Nat):kX mk a a=true:=aq rfl
def mE{mk:Nat->Bool}(h:b≠a):kX mk a b=mk b:=ae h
def zq{mk:Nat->Bool}(h:mk b=true):kX mk a b=true:=by unfold kX;split;rfl;exact h
def xg{mk:Nat->Bool}{a:Nat}(h:mk a=false):∀{c:Nat},a<c->kW (kX mk a) c=kW mk c+1
 |0,d=>absurd d (fy _)
 |c+1,d=>by
  simp only[kW];rcases aV a c with b|b
  ·rw[xg h b,mE V];omega
  ·have e:a=c:=V;subst e;rw[tV,aq rfl,h,ae E,Ip (a:=mk) λi f=>mE V]
def Kz(h:List bM)(mk:Nat->Bool):Prop:=
 ∃t:Nat->Nat,(∀j,mk j=true->t j<=kW mk h.length)/\∀(i:Nat)(c:bM),h[i]? =some c->mk i=true->∀w∈c.aK,1000<=w->mk (ix w)=true/\t (ix w)<t i
def MB(mk:Nat->Bool)(a:List Int):Prop:=∀w∈a,1000<=w->mk (ix w)=true
def Kz.set{mk:Nat->Bool}(v:Kz h mk){k:bM}(m:h[a]? =some k)(f:mk a=false)(t:MB mk k.aK):Kz h (kX mk a):=by
 obtain⟨A,l,s⟩:=v;have u:=ax m;have r:=xg f u;refine⟨λx=>if x=a then kW mk h.length+1 else A x,λy o=>?_,λj d b n w q p=>?_⟩
 ·simp only[r];split
  ·omega
  ·rename_i c;rw[mE c]at o;have:=l y o;omega
 ·by_cases g:j=a
  ·subst g;rw[m]at b;simp at b;subst b;have c:=t w q p;have i:ix w≠j:=λe=>by rw[e,f]at c;cases c
   simp only[aq,ae i];exact⟨zq c,by have:=l _ c;omega⟩
  ·rw[mE g]at n;obtain⟨c,z⟩:=s j d b n w q p;have i:ix w≠a:=λe=>by rw[e,f]at c;cases c
   simp only[ae g,ae i];exact⟨zq c,z⟩
def PQ{mk:Nat->Bool}(n:Kz h mk)(m:∀a∈h,∀w∈a.aK,1000<=w->ix w<h.length)(k:∀(i:Nat)(a:bM),h[i]? =some a->mk i=true\/¬MB mk a.aK):
 kW mk h.length=h.length<->Qb h:=by
 rw[Io]
 constructor
 ·intro g
  obtain⟨t,_,f⟩:=n
  exact⟨t,λi a b w e d=>(f i a b (g i (ax b)) w e d).2⟩
 ·rintro⟨j,o⟩
  have q:∀(c i:Nat),j i<c->i<h.length->mk i=true:=by
   intro c;induction c with
   |zero=>intro i g;omega
   |succ c p=>
    intro i g l;obtain⟨a,b⟩:=ag l;rcases k i a b with f|f
    ·exact f
    ·refine absurd (λw e d=>?_) f;exact p (ix w) (by have:=o i a b w e d;omega) (m a (au b) w e d)
  exactλi g=>q (j i+1) i V g
def sZ(c:Nat)(e:Nat->Bool):List Ce:=(List.range c).map λa=>Ce.t (e a)
def xc(c:Nat)(e:Nat->Bool):(sZ c e).length=c:=by simp[sZ]
def LC(B:cB M b lT (sZ c e))(h:a<c):D M b a=some (vb (e a)):=by
 rw[B.cy a];unfold sZ;rw[bW,Ku h];rfl
def OW(B:cB M b lT (sZ c e))(a:Nat):cB (aj M b a [.t true]) b lT (sZ c (kX e a)):=by
 have j:=B.aj (m:=M) (o:=a) (r:=[.t true]);have d:iE (sZ c e) a [.t true]=sZ c (kX e a):=by
  apply fI;intro i;simp only[iE];by_cases k:i<c
  ·have f:∀g:Nat->Bool,(sZ c g)[i]? =some (.t (g i)):=λg=>by unfold sZ;rw[bW,Ku k];rfl
   rw[f];by_cases d:a=i
   ·subst d;rw[dA (by rw[xc];exact k),tV]
   ·rw[dQ d,f,mE (λh=>d h.symm)]
  ·rw[cb (by rw[gW,xc];omega),cb (by rw[xc];omega)]
 rw[d]at j;exact j
def OV(M:I)(c:Nat):cB (M.push (.cells (br (lU [.t false] c)) lT)) M.size lT (sZ c (λ_=>false)):=by
 have e:lU [.t false] c=sZ c (λ_=>false):=by
  unfold lU sZ;rw[Zb];simp
 rw[e];exact cB.push M _ _
def Dy{mk:Nat->Bool}{e:O}{d:List Int}(B:cB g b lT (sZ c mk))(m:ar g e d)(r:∀w∈d,Ew w)(G:∀w∈d,1000<=w->ix w<c):
 dm bY 164 [O.v (.mk b 0 c c),O.v e] g (MB mk d):=by
 apply xN
 have L:=m.len
 have M:=m.fL
 refine dO (n:=d.length) V (λt a=>J g a/\MB mk (d.take t)) ⟨J.aC _,λw r=>by simp at r⟩ ?_
 rintro t N I μ K ⟨f,o⟩ z
 refine dit (λD=>?_) λD=>?_
 ·obtain⟨w,h⟩:=ag (l:=d) (k:=t) V
  have s:=au h
  have E:=r w s
  refine⟨V,V,w,by simpa using(m.ext f).u h,(dw _ _).then λH y x i=>⟨H,rfl,λq=>?_,λq=>?_⟩⟩
  ·have u:=x.1 q
   have F:=G w s u
   have A:cK (w -1000)=(ix w:Nat):=by have:=E.2;unfold ix;rw[aP V V];omega
   have C:Int.toNat ((ix w:Nat):Int)=ix w:=V
   refine⟨V,V,w,by simpa using(m.ext (f.trans i)).u h,?_⟩
   rw[A,C]
   simp only[O.fj,O.iT,O.lY,bN,dG]
   refine⟨V,V,mk (ix w),LC (B.ext (f.trans i)) F,λj=>?_,λj=>z V y ⟨f.trans i,?_⟩⟩
   ·exact bX (λa=>by rw[a w s u]at j;cases j) (f.trans i)
   ·rw[MB,bH h]
    intro v a p
    rcases List.mem_append.1 a with a|a
    ·exact o v a p
    ·simp at a;subst a;simpa using j
  ·refine z V y ⟨f.trans i,?_⟩
   rw[MB,bH h]
   intro v a p
   rcases List.mem_append.1 a with a|a
   ·exact o v a p
   ·simp at a;subst a;exact absurd p (fb x q)
 ·rw[bZ V]at o
  exact iN o f
def DN{z:O}(Q:cV g z h)(hc:∀d∈h,mI h d)(aa:ME h)(ae:h.length<=1000000000):dm bY 119 [O.v z] g (Qb h):=by
 apply yo;have hl:=Q.len;have en:Int.toNat (z.len:Int)=h.length:=V;rw[en];have S:∀d∈h,∀K∈d.aK,1000<=K->ix K<h.length:=λd hm K hw z=>by
  rcases Gh hc hm hw with p|p
  ·exact ax (cp p).1
  ·omega
 refine⟨V,V,V,V,?_⟩;intro I;have x1:J g I:=(J.aC g).aM _;have Z:cB I g.size lT (sZ h.length (λ_=>false)):=OV g _;clear_value I;have c0:kW (λ_=>false) h.length=0:=by
  generalize h.length=c;induction c with
  |zero=>rfl
  |succ c a=>simp[kW,a]
 refine Pz (γ:=(Nat->Bool)×Bool) (λf U fw v=>fw=f.2/\U=(kW f.1 h.length:Nat)/\J g v/\cB v g.size lT (sZ h.length f.1)/\Kz h f.1/\(fw=false->∀(i:Nat)(d:bM),h[i]? =some d->f.1 i=true\/¬MB f.1 d.aK))
  (λf=>if f.2=true then h.length -kW f.1 h.length+1 else 0) (λ_=>false,true) ⟨rfl,by rw[c0];rfl,x1,Z,⟨λ_=>0,E,E⟩,E⟩ ?_
 rintro⟨mk,fw⟩ U af m2 ab μ ⟨rfl,rfl,Y,L,D,M⟩ X
 simp only at L D M X⊢
 refine⟨λp=>?_,λp=>?_⟩
 ·refine⟨λW A i v=>∃(k:Nat)(a:Nat->Bool),i=k/\k<=h.length/\W=(kW a h.length:Nat)/\J g v/\cB v g.size lT (sZ h.length a)/\Kz h a/\kW mk h.length<=kW a h.length/\(A=true->kW mk h.length<kW a h.length)/\
   (A=false->∀(i:Nat)(d:bM),i<k->h[i]? =some d->a i=true\/¬MB a d.aK),λ_ _ i _=>((h.length:Int) -i).toNat,⟨0,mk,rfl,dH _,rfl,Y,L,D,ad _,E,λ_ i d j=>absurd j (fy _)⟩,?_⟩
  rintro W A i m3 ⟨k,a,rfl,hk,rfl,w,o,x,T,H,C⟩;have ac:=CS a h.length;have rG:∀{P:Prop},k<h.length->(cK ((k:Int)+1)=((k+1:Nat):Int)->((h.length:Int) -((k+1:Nat):Int)).toNat<((h.length:Int) -(k:Int)).toNat->P)->P:=λR hP=>hP (jJ R V) (AM R);refine dit (λh2=>?_) λh2=>?_
  ·have q:k<h.length:=V;obtain⟨d,t⟩:=ag q;have e2:Int.toNat (k:Int)=k:=V;simp only[O.fj,O.iT,O.lY,bN,dG,e2];refine⟨V,V,a k,LC o q,λF=>?_,λF=>?_⟩
   ·have y:a k=false:=by simpa using F
    obtain⟨e,hf,_,_,g3⟩:=(cV.ext w Q).u t;refine⟨V,V,e,g3,(Dy o hf (aa d (au t)) (S d (au t))).then λb m4 N B=>⟨b,rfl,λG=>?_,λG=>?_⟩⟩
    ·have j:=o.ext B;have l:=xg y q;refine⟨V,V,j.fm (by rw[xc];omega),?_⟩;refine rG q λs u=>?_;rw[s,show cK ((kW a h.length:Nat)+1:Int)=((kW (kX a k) h.length:Nat):Int)by rw[l,aP V V];omega];exact⟨⟨k+1,kX a k,rfl,V,rfl,(w.trans B).aj (ad _) _ _,OW j k,x.set t y (N.1 G),V,λ_=>V,λm=>by cases m⟩,u⟩
    ·refine rG q λs u=>?_;rw[s];refine⟨⟨k+1,a,rfl,V,rfl,w.trans B,o.ext B,x,T,H,λm l r hj j=>?_⟩,u⟩;rcases aV l k with n|n
     ·exact C m l r n j
     ·have:l=k:=V;subst this;rw[t]at j;simp at j;subst j;exact Or.inr (fb N G)
   ·have y:a k=true:=by simpa using F
    refine rG q λs u=>?_;rw[s];refine⟨⟨k+1,a,rfl,V,rfl,w,o,x,T,H,λm l r hj j=>?_⟩,u⟩;rcases aV l k with n|n
    ·exact C m l r n j
    ·have:l=k:=V;subst this;exact Or.inl y
  ·refine X (a,A) _ _ m3 ⟨rfl,rfl,w,o,x,λm l r j=>C m l r (by have:=ax j;omega) j⟩ ?_
   simp only[p,JV];split
   ·rename_i n;have:=H n;omega
   ·omega
 ·refine fA ?_ Y;rw[<-PQ D S (M p)];simp;omega
def Ee{u:O}(p:cV g u h)(G:ME h)(Q:h.length<=1000000000):dm bY 63 [O.v u] g (Ev h):=by
 apply yR;have hl:=p.len;refine⟨λv=>v=g/\mC h,⟨λt=>?_,λt=>⟨rfl,λc d=>?_⟩⟩,?_⟩
 ·simp at t;rw[aP V V];obtain⟨c,d⟩:=ag (l:=h) (k:=h.length -1) V;obtain⟨e,F,r,_,_⟩:=p.u d;have i:Int.toNat ((u.len:Int) -1)=h.length -1:=V;rw[i];refine⟨V,V,c.aQ,r,λj=>bX (λo=>?_) (J.aC _),λj=>⟨rfl,λq m=>?_⟩⟩
  ·exact o.iA c d (by simpa using j)
  ·rw[d]at m;simp at m;subst m;simpa using j
 ·have:=ax d;simp at t;omega
 rintro Y ⟨rfl,X⟩;refine dO (n:=h.length) V (λi v=>J Y v/\∀c∈h.take i,mI h c) ⟨J.aC _,E⟩ ?_;rintro i m2 ab μ o ⟨s,M⟩ Z
 refine dit (λt=>?_) λt=>?_
 ·obtain⟨c,d⟩:=ag (l:=h) (k:=i) V;obtain⟨e,F,r,I,K⟩:=(cV.ext s p).u d;refine⟨V,V,c.aQ,by simpa using r,c.lp,by simpa using I,e,by simpa using K,(Ec (cV.ext s p) F (G c (au d))).then λb H x z=>⟨b,rfl,λj=>bX (λo=>nb x j (o.cells c (au d))) (s.trans z),λj=>Z V H ⟨s.trans z,bD d M (yb x j)⟩⟩⟩
 have D:=cF V M;refine(yH (cV.ext s p) D G Q).mono ?_;rintro _ H ⟨aa,rfl,P,z⟩;have W:=P.len;rw[lR]at W;refine⟨aa,rfl,dO (n:=h.length) V (λi v=>J H v/\∀(a:Nat)(c:bM),a<i->h[a]? =some c->0<c.aQ->dq h a<=c.aQ) ⟨J.aC _,λa c w=>absurd w (fy _)⟩ ?_⟩;rintro i R ac ν ad ⟨A,N⟩ S;have y:=(s.trans z).trans A;refine dit (λj=>?_) λj=>?_
 ·obtain⟨c,d⟩:=ag (l:=h) (k:=i) V;obtain⟨e,F,r,I,K⟩:=(cV.ext y p).u d;have fw:(0<c.aQ->dq h i<=c.aQ)->∀(a:Nat)(q:bM),a<i+1->h[a]? =some q->0<q.aQ->dq h a<=q.aQ:=λU a q w m=>by
   rcases aV a i with L|L
   ·exact N a q L m
   ·have:a=i:=V;subst this;rw[d]at m;simp at m;subst m;exact U
  refine⟨V,V,c.aQ,by simpa using r,λB=>?_,λB=>S V R ⟨A,fw λC=>by simp at B;omega⟩⟩;have T:=(P.ext A).u (k:=i) (qK (f:=dq h) (show i<h.length by omega));refine⟨V,V,c.aQ,by simpa using r,V,V,dq h i,by simpa using T,λC=>bX (λo=>?_) y,λC=>S V R ⟨A,fw λ_=>by simp at C;omega⟩⟩;have:=o.dq i c d (by simpa using B);simp at C;omega
 ·refine(DN (cV.ext y p) D G Q).then λb q x m=>⟨b,rfl,fA ?_ (y.trans m)⟩;rw[x];exact⟨λw=>⟨X,D,λa c d u=>N a c (by have:=ax d;omega) d u,w⟩,λo=>o.JX⟩
end
section
variable{m:I}{f:aZ}
structure ft(m:I)(bo hp fr:O)(s:St):Prop where
 bo:ar m bo s.bo
 heap:cV m hp s.heap
 ak:k8 m fr s.ak
def ft.ext{m d:I}{bo c b:O}{s:St}(h:ft m bo c b s)(a:J m d):ft d bo c b s:=⟨h.bo.ext a,cV.ext a h.heap,k8.ext a h.ak⟩
def PC(f:aZ):Prop:=(∀w∈f.av,Ew w)/\(∀w∈f.aW,Ew w)/\(∀w∈f.bn,Ew w)
structure zw(s:St):Prop where
 bI:Ew s.bI
 heap:ME s.heap
 ak:∀f∈s.ak,PC f
 lh:s.heap.length<=10000000
 lf:s.ak.length<=10000000
 lr:∀f∈s.ak,f.av.length<=10000000/\f.aW.length<=10000000/\f.bn.length<=10000000
def OJ(s:St)(bo b a:O):Value:=.agg #[vi s.cL,vi s.value,vi s.bI,vi s.dK,O.v bo,O.v b,O.v a]
def BD{f:O}{a:List Int}(d:ar m f a):dm bY 62 [O.v f] m (∀b∈a,gA b):=by
 apply we;have u:=d.len;have v:=d.fL;refine dO (n:=a.length) V (λg c=>J m c/\∀b∈a.take g,gA b) ⟨J.aC _,E⟩ ?_;rintro g x I μ t ⟨b,i⟩ s
 refine dit (λp=>?_) λp=>?_
 ·obtain⟨w,e⟩:=ag (l:=a) (k:=g) V;exact⟨V,V,w,by simpa using(d.ext b).u e,(aU _ _ _ _).then λo r h j=>⟨o,rfl,λc=>bX (λq=>nb h c (q w (au e))) (b.trans j),λc=>s V r ⟨b.trans j,bD e i (yb h c)⟩⟩⟩
 ·exact iN (cF V i) b
def OR(h:List bM)(w o:Int):Prop:=(gA w\/1000<=w)/\(0<=o/\o<=999999)/\(0<o->jc h w)
def Eg{z B o ae:O}{h:List bM}(hh:cV m z h)(H:ar m B f.av)(X:ar m o f.aW)(ai:f.aW.length=f.av.length)(af:PC f)(ac C ad:Int):
 dm bY 120 [O.v z,.agg #[vi ac,vi C,vi ad,O.v B,O.v o,O.v ae]] m (EC h f):=by
 apply yV
 simp -zeta only[aE,aD]
 intro c
 have r:J m c:=(J.aC m).aM _
 have s1:c.size=m.size+1:=by simp[c]
 clear_value c
 have y:∀C∈[m.size],C<c.size:=bK
 have al:=H.len
 have ak:=X.len
 have aj:=H.fL
 refine dO (n:=f.av.length) V (λa m'=>J c m'/\∀(j:Nat)(w o:Int),j<a->f.av[j]? =some w->f.aW[j]? =some o->OR h w o) ⟨J.aC _,λj w o U=>absurd U (fy _)⟩ ?_
 rintro a m2 R μ W ⟨Q,Y⟩ aa
 refine dit (λh1=>?_) λh1=>?_
 ·obtain⟨w,p⟩:=ag (l:=f.av) (k:=a) V
  obtain⟨t,G⟩:=ag (l:=f.aW) (k:=a) V
  have gw:∀{M:I},J c M->D M B.F (B.off+Int.toNat (a:Int)*1)=some (vi w):=λK=>by simpa using(H.ext (r.trans K)).u p
  have S:∀{M:I},J c M->D M o.F (o.off+Int.toNat (a:Int)*1)=some (vi t):=λK=>by simpa using(X.ext (r.trans K)).u G
  have fw:OR h w t->∀(j:Nat)(w o:Int),j<a+1->f.av[j]? =some w->f.aW[j]? =some o->OR h w o:=λb j w' N U A s=>by
   rcases aV j a with T|T
   ·exact Y j w' N T A s
   ·have:j=a:=V;subst this;rw[p]at A;rw[G]at s;simp at A s;subst A;subst s;exact b
  have L:¬OR h w t->¬EC h f:=λb W=>b (W.df a w t p G)
  have jG:∀{M:I},J c M->(gA w\/1000<=w)->(0:Int)<=(a:Int)/\(a:Int)<(o.len:Int)/\∃ab:Int,D M o.F (o.off+Int.toNat (a:Int)*1)=some (vi ab)/\
   aN bY 33 [vi ab,vi (0:Int),vi (999999:Int)] M λah q=>dV [m.size] M q/\∃P:Bool,ah=vb P/\
   ((!P)=true->∃d:Bool,vb false=.bool d/\(d=true<->EC h f)/\J m q)/\
   ((!P)=false->(0:Int)<=(a:Int)/\(a:Int)<(o.len:Int)/\∃i:Int,D q o.F (o.off+Int.toNat (a:Int)*1)=some (vi i)/\
   ((decide (i>(0:Int)))=true->aN bY 163 [O.v z,vi w] q λu e=>dV [m.size] q e/\∃g:Bool,u=vb g/\
    ((!g)=true->∃d:Bool,vb false=.bool d/\(d=true<->EC h f)/\J m e)/\((!g)=false->R (cK ((a:Int)+(1:Int))) e/\μ (cK ((a:Int)+(1:Int))) e<μ a m2))/\
   ((decide (i>(0:Int)))=false->R (cK ((a:Int)+(1:Int))) q/\μ (cK ((a:Int)+(1:Int))) q<μ a m2)):=λ{M} xM hi=>by
   refine⟨V,V,t,S xM,(aU _ _ _ _).aG xM y λE m3 u x3 d=>⟨E,rfl,λe=>bX (L λb=>nb u e b.2.1) (r.trans d),λe=>?_⟩⟩
   have Z:=yb u e
   refine⟨V,V,t,S d,λg=>?_,λg=>aa V _ ⟨d,fw ⟨hi,Z,λz=>by simp at g;omega⟩⟩⟩
   refine(gS (cV.ext (r.trans d) hh) (af.1 w (au p))).aG d y λF m4 v x4 x=>⟨F,rfl,λi=>bX (L λb=>nb v i (b.2.2 (by simpa using g))) (r.trans x),λi=>aa V _ ⟨x,fw ⟨hi,Z,λ_=>yb v i⟩⟩⟩
  refine⟨V,V,w,gw Q,(aU _ _ _ _).aG Q y λE m3 u x3 d=>⟨E,rfl,λe=>?_,λe=>jG d (Or.inl (yb u e))⟩⟩
  refine(dw _ _).aG d y λF m4 v x4 x=>⟨F,rfl,λg=>bX (L λb=>?_) (r.trans x),λg=>jG x (Or.inr (yb v g))⟩
  rcases b.1 with i|i
  ·exact nb u e i
  ·exact nb v g i
 ·exact iN ⟨λj w N p s=>Y j w N (by have:=ax p;omega) p s⟩ (r.trans Q)
def Cq{T p bo d W:O}{o:cD}{s:St}(M:eV m T p o)(n:ft m bo d W s)(aj:zw s){b:Nat}(L:s.ak[b]? =some f):
 dm bY 64 [.agg #[O.v T,O.v p],OJ s bo d W,vi b] m (HY o s.heap (lZ s.ak b) f):=by
 apply wI
 simp -zeta only[aE,aD]
 intro w c
 have x2:J m c:=((J.aC m).aM _).aM _
 have s1:w.size=m.size+1:=by simp[w]
 have s2:c.size=m.size+2:=by simp[c,s1]
 clear_value c
 have aw:=n.ak.len
 have ay:=n.ak.fL
 have aB:=ax L
 have aK:=M.cA.len
 have aM:=M.cA.fL
 obtain⟨ap,ao,ah,hr,ho,he,g0,g1,g2,g3,g4,g5⟩:=(n.ext x2).ak.u L
 have ek:Int.toNat (b:Int)=b:=V
 rw[ek]
 refine⟨V,V,_,g0,_,g1,_,g2,ap,g3,ao,g4,ah,g5,?_⟩
 intro m3 q
 have x4:J c q:=((J.aC c).aM _).aj (ad _) _ _
 have s4:q.size=c.size+1:=by simp[q,m3,az]
 clear_value q
 have hl:∀C∈[c.size,w.size,m.size],C<q.size:=bK
 have Q:=x2.trans x4
 rw[aP V V]
 refine(aU _ _ _ _).aG (J.aC _) hl λb5 x Y A _=>⟨b5,rfl,λD=>bX (λa=>nb Y D ⟨a.eS.1,by have:=a.eS.2;omega⟩) (Q.trans A),λD=>?_⟩
 have al:=yb Y D
 have R:=Q.trans A
 obtain⟨y,hq⟩:=ag (l:=o.cA) (k:=f.eS.toNat) V
 have e:dF o f.eS=y:=by unfold dF;rw[hq];rfl
 obtain⟨pa,pl,pc,aH,aL,ab,k0,k1,k2,k3,k4⟩:=(M.ext R).cA.u hq
 have aI:=ab.len
 have aJ:=ab.fL
 refine⟨V,V,pa,k0,pl,k1,_,k2,_,k3,pc,k4,?_⟩
 intro m6 r
 have x7:J x r:=((J.aC x).aM _).aj (ad _) _ _
 have s7:r.size=x.size+1:=by simp[r,m6,az]
 have z5:=A.size
 clear_value r
 have N:∀C∈[x.size,c.size,w.size,m.size],C<r.size:=bK
 have S:=R.trans x7
 rw[aP V V]
 refine(aU _ _ _ _).aG (J.aC _) N λb8 m8 Z B _=>⟨b8,rfl,λE=>bX (λa=>nb Z E ⟨a.pc.1,by have:=a.pc.2;rw[e]at this;omega⟩) (S.trans B),λE=>?_⟩
 have am:=yb Z E
 have g:=S.trans B
 have aO:=hr.len
 have aC:=ho.len
 have av:=he.len
 refine⟨λF=>bX (λa=>by have:=a.lr;rw[e]at this;simp at F;omega) g,λF=>?_⟩
 have q1:(f.av.length:Int)=y.av:=by simp at F;omega
 refine⟨λG=>bX (λa=>by have:=a.lo;rw[e]at this;simp at G;omega) g,λG=>?_⟩
 have q2:(f.aW.length:Int)=y.av:=by simp at G;omega
 refine⟨λH=>bX (λa=>by have:=a.lh;rw[e]at this;simp at H;omega) g,λH=>?_⟩
 have q3:(f.bn.length:Int)=y.av:=by simp at H;omega
 have ak:=aj.ak f (au L)
 have ae:=((x4.trans A).trans x7).trans B
 refine(Eg (n.ext g).heap (hr.ext ae) (ho.ext ae) V ak _ _ _).aG B N λb9 m9 aa x9 aq=>⟨b9,rfl,λI=>bX (λa=>nb aa I a.av) (g.trans x9),λI=>?_⟩
 have an:=yb aa I
 have t:=g.trans x9
 have mk:(lZ s.ak b=none->f.dst=0)->(∀p,lZ s.ak b=some p->0<=f.dst/\f.dst<p.aW.length/\u p.aW f.dst=0)->HY o s.heap (lZ s.ak b) f:=λha hb=>
  ⟨⟨al.1,V⟩,⟨am.1,by rw[e];omega⟩,by rw[e];exact q1,by rw[e];exact q2,by rw[e];exact q3,an,ha,hb⟩
 refine⟨λK=>fA ?_ t,λK=>?_⟩
 ·have h:b=0:=by simp at K;omega
  subst h
  refine⟨λi=>mk (λ_=>by simpa using i) (λp d=>by simp[lZ]at d),λa=>by simpa using a.first rfl⟩
 ·have aA:b≠0:=by simp at K;omega
  obtain⟨j,rfl⟩:∃j,b=j+1:=⟨b -1,V⟩
  have ej:cK (((j+1:Nat):Int) -1)=(j:Int):=by rw[aP V V];omega
  have ai:Int.toNat (j:Int)=j:=V
  rw[ej,ai]
  obtain⟨h,hg⟩:=ag (l:=s.ak) (k:=j) V
  have v:lZ s.ak (j+1)=some h:=hg
  obtain⟨r',o',e',aN,P,ar,_,_,_,_,y4,_⟩:=(n.ext t).ak.u hg
  have aF:=P.len
  have aG:=P.fL
  refine⟨V,V,o',y4,?_⟩
  rw[aP V V]
  refine(aU _ _ _ _).aG aq N λaf aQ X z _=>⟨af,rfl,λi=>?_,λi=>bX (λa=>?_) (t.trans z)⟩
  ·have hd:=X.1 i
   obtain⟨ac,hv⟩:=ag (l:=h.aW) (k:=f.dst.toNat) V
   have U:u h.aW f.dst=ac:=LA hv
   refine⟨V,V,o',z.D y4,V,V,ac,(P.ext z).u hv,fA ?_ (t.trans z)⟩
   refine⟨λh9=>mk (λhn=>by rw[v]at hn;cases hn) (λp d=>by rw[v]at d;simp at d;subst d;exact⟨hd.1,V,by rw[U];simpa using h9⟩),λa=>?_⟩
   have:=(a.next h v).2.2
   rw[U]at this;simpa using this
  ·have:=a.next h v
   exact fb X i ⟨this.1,V⟩
end
section
variable{i:Nat}{f:aZ}
def IJ{b:List aZ}(c:b[i]? =some f)(a:Nat):holds (b.take (i+1)) a=holds (b.take i) a+dS f.bn a:=by
 rw[bH c,dI,gT]
def EY{b:List aZ}(c:b[i]? =some f)(a:Nat):dD (b.take (i+1)) a=dD (b.take i) a+cz f.av f.aW a:=by
 rw[bH c,eU,jF]
def mT:∀{av aW:List Int}{a:Nat}{w o:Int},av[a]? =some w->aW[a]? =some o->∀b,cz (av.take (a+1)) (aW.take (a+1)) b=cz (av.take a) (aW.take a) b+(if w=1000+(b:Int)then o else 0)
 |[],_,_,_,_,h,_,_=>by simp at h
 |_::_,[],_,_,_,_,h,_=>by simp at h
 |r::f,p::e,0,w,o,c,d,b=>by simp at c d;subst c;subst d;simp[cz]
 |r::f,p::e,a+1,w,o,c,d,b=>by
  have:=mT (av:=f) (aW:=e) (a:=a) (by simpa using c) (by simpa using d) b;simp only[Kw,cz]at this⊢;omega
def II:∀{a:List aZ}{n:Nat},(∀f∈a,f.bn.length<=n)->∀b,holds a b<=a.length*n
 |[],n,_,b=>by simp[holds]
 |f::a,n,h,b=>by
  have c:=II (a:=a) λg d=>h g (by simp[d]);have e:=c b;have i:=jM f.bn b;have j:=h f E;simp only[holds,bg];have:((a.length+1:Nat):Int)*n=a.length*n+n:=by push_cast;rw[Wm];omega
  omega
def Dp:∀{av aW:List Int}{n:Int},0<=n->(∀o∈aW,0<=o/\o<=n)->∀a,0<=cz av aW a/\cz av aW a<=aW.length*n
 |[],aW,n,b,h,a=>by simp[cz];exact Int.mul_nonneg V b
 |_::_,[],n,b,h,a=>by simp[cz]
 |r::e,o::c,n,b,h,a=>by
  have f:=Dp (av:=e) (aW:=c) b (λx d=>h x (by simp[d])) a;have d:=h o E;have:((c.length+1:Nat):Int)*n=c.length*n+n:=by push_cast;rw[Wm];omega
  simp only[cz,bg];split<;>omega
def HU:∀{a:List aZ}{n:Nat}{k:Int},0<=k->(∀f∈a,f.aW.length<=n/\∀o∈f.aW,0<=o/\o<=k)->∀b,0<=dD a b/\dD a b<=a.length*(n*k)
 |[],n,k,_,_,b=>by simp[dD]
 |f::a,n,k,c,h,b=>by
  have e:=HU (a:=a) c (λg d=>h g (by simp[d])) b;obtain⟨j,d⟩:=h f E;have g:=Dp (av:=f.av) c d b;have i:(f.aW.length:Int)*k<=n*k:=Int.mul_le_mul_of_nonneg_right V c;have:((a.length+1:Nat):Int)*(n*k)=a.length*(n*k)+n*k:=by push_cast;rw[Wm];omega
  simp only[dD,bg];omega
section
variable{m:I}{d p bo a b:O}{c:cD}{s:St}
def Fu(N:ft m bo a b s)(W:zw s)(G:s.ak.length<=41):dm bY 65 [OJ s bo a b] m (Ln s.heap s.ak):=by
 apply Ac;simp -zeta only[aE,aD];intro o;have A:J m o:=(J.aC m).aM _;have s1:o.size=m.size+1:=by simp[o]
 clear_value o;have hl:=N.heap.len;have ay:=W.lh;have av:=N.ak.len;have en:Int.toNat (a.len:Int)=s.heap.length:=V;rw[en];refine⟨V,V,V,V,?_⟩;intro m2;have x2:J o m2:=(J.aC o).aM _;have B2:cB m2 o.size aB ((qJ s.heap.length (λ_=>0)).map Ce.i):=JN o _;clear_value m2;have u:∀{T M':I},J o T->J T M'->dV [m.size] T M':=λU x=>x.da λB u=>U.lt (by simp at u;omega);have ah:=λf C=>(W.lr f C).2.2;refine dO (n:=s.ak.length) V (λi z=>J o z/\cB z o.size aB ((qJ s.heap.length (λe=>holds (s.ak.take i) e)).map Ce.i)/\∀f∈s.ak.take i,∀w∈f.bn,w=0\/(1000<=w/\ix w<s.heap.length)) ⟨x2,by simpa[holds]using B2,E⟩ ?_;rintro i m3 ao μ hi ⟨K,Q,Z⟩ an
 refine dit (λU=>?_) λU=>?_
 ·obtain⟨f,C⟩:=ag (l:=s.ak) (k:=i) V;have X:=au C;have aw:=ah f X;have ai:(∃w∈f.bn,¬(w=0\/(1000<=w/\ix w<s.heap.length)))->¬Ln s.heap s.ak:=λ⟨w,j,h⟩ y=>h (y.dh f X w j);refine dO (n:=f.bn.length) V (λc z=>J o z/\cB z o.size aB ((qJ s.heap.length (λe=>holds (s.ak.take i) e+dS (f.bn.take c) e)).map Ce.i)/\∀w∈f.bn.take c,w=0\/(1000<=w/\ix w<s.heap.length)) ⟨K,by simpa[dS]using Q,E⟩ ?_;rintro c q S ν y ⟨L,M,v⟩ H;obtain⟨aC,aA,t,_,_,he,_,_,_,_,_,g5⟩:=(N.ext (A.trans L)).ak.u C;have ar:=he.len;refine⟨V,V,t,by simpa using g5,dit (λx=>?_) λx=>?_⟩
  ·obtain⟨w,j⟩:=ag (l:=f.bn) (k:=c) V;have aa:=au j;have am:=(W.ak f X).2.2 w aa;refine⟨V,V,t,by simpa using g5,V,V,w,by simpa using he.u j,λr=>?_,λr=>?_⟩
   ·have P:w≠0:=by simpa using r
    refine(dw _ _).mono ?_;rintro _ m5 ⟨b5,rfl,ac,x5⟩;have ab:=L.trans x5;refine⟨u L x5,b5,rfl,λp=>bX (ai ⟨w,aa,λh=>?_⟩) (A.trans ab),λp=>?_⟩
    ·rcases h with h|h
     ·exact P h
     ·exact nb ac p h.1
    have aj:=yb ac p;have ap:=am.2;have e1:cK (w -1000)=(ix w:Nat):=by unfold ix;rw[aP V V];omega
    have e2:Int.toNat ((ix w:Nat):Int)=ix w:=V;rw[e1,e2,show cK ((a.len:Int) -1)=(a.len:Int) -1 from aP V V];refine(aU _ _ _ _).mono ?_;rintro _ m6 ⟨b6,rfl,af,x6⟩;have ak:=ab.trans x6;refine⟨u ab x6,b6,rfl,λF=>bX (ai ⟨w,aa,λh=>?_⟩) (A.trans ak),λF=>?_⟩
    ·rcases h with h|h
     ·exact P h
     ·exact nb af F ⟨V,V⟩
    have az:=yb af F;have Y:ix w<s.heap.length:=V;have R:=M.ext (x5.trans x6);simp only[O.fj,O.iT,O.lY,bN,dG];have q1:=II (a:=s.ak.take i) (n:=10000000) (λal hg=>ah al (cT hg)) (ix w);have q2:=jM (f.bn.take c) (ix w);have q3:=tJ (s.ak.take i) (ix w);have q4:=gL (f.bn.take c) (ix w);have q5:(s.ak.take i).length<=41:=bK;have q6:(f.bn.take c).length<=10000000:=bK;refine⟨V,V,_,pY R Y,V,V,Lc R Y,?_⟩;rw[show cK (holds (s.ak.take i) (ix w)+dS (f.bn.take c) (ix w)+1)=holds (s.ak.take i) (ix w)+dS (f.bn.take c) (ix w)+1 from aP V V];have B7:=FY R (ix w) (holds (s.ak.take i) (ix w)+dS (f.bn.take c) (ix w)+1);rw[eG (g:=λe=>holds (s.ak.take i) e+dS (f.bn.take (c+1)) e)]at B7
    ·refine⟨λB u=>bh _ _ _ _ (by simp at u;omega),H V _ ⟨ak.aj (ad _) _ _,B7,bD j v (Or.inr ⟨aj,Y⟩)⟩⟩
    ·intro B u;rw[pw j];by_cases t:B=ix w
     ·subst t;rw[aq rfl,aq (gP aj).symm];omega
     ·rw[ae t,ae (λal=>t (by rw[al,jL]))];omega
   ·have P:w=0:=by simpa using r
    refine H V q ⟨L,?_,bD j v (Or.inl P)⟩;rw[eG (g:=λe=>holds (s.ak.take i) e+dS (f.bn.take c) e)]
    ·exact M
    ·intro B u;rw[pw j,ae V];omega
  ·have P:f.bn.take c=f.bn:=bZ V;rw[P]at M v;refine an V q ⟨L,?_,bD C Z v⟩
   rw[eG (g:=λe=>holds (s.ak.take i) e+dS f.bn e)]
   ·exact M
   ·intro B u;exact IJ C B
 ·have P:s.ak.take i=s.ak:=bZ V;rw[P]at Q Z;simp only[O.fj,O.iT,O.lY,bN,dG];refine dO (n:=s.heap.length) V (λc z=>z=m3/\∀(e:Nat)(j:bM),e<c->s.heap[e]? =some j->(j.aQ<0->holds s.ak e=1)/\(0<=j.aQ->holds s.ak e=0)) ⟨rfl,λe j ha=>absurd ha (fy _)⟩ ?_;rintro c q S ν y ⟨rfl,v⟩ H;refine⟨λx=>?_,λx=>?_⟩
  ·have aa:c<s.heap.length:=by first|omega|(simp at x;omega)
   obtain⟨j,t⟩:=ag aa;obtain⟨f,_,R,_,_⟩:=(N.ext (A.trans K)).heap.u t;have ek:Int.toNat (c:Int)=c:=V;rw[ek];have X:=pY Q aa;have fw:(j.aQ<0->holds s.ak c=1)/\(0<=j.aQ->holds s.ak c=0)->∀(e:Nat)(j:bM),e<c+1->s.heap[e]? =some j->(j.aQ<0->holds s.ak e=1)/\(0<=j.aQ->holds s.ak e=0):=λh e d ha G=>by
    rcases aV e c with Y|Y
    ·exact v e d Y G
    ·have:e=c:=V;subst this;rw[t]at G;simp at G;subst G;exact h
   have J8:(j.aQ<0->holds s.ak c=1)->(0:Int)<=(c:Int)/\(c:Int)<(a.len:Int)/\∃w:Int,D q a.F (a.off+c*3)=some (vi w)/\
    ((decide (w>=(0:Int)))=true->(0:Int)<=(c:Int)/\(c:Int)<(s.heap.length:Int)/\∃L:Int,D q o.size c=some (vi L)/\
    ((L !=(0:Int))=true->∃M:Bool,vb false=.bool M/\(M=true<->Ln s.heap s.ak)/\J m q)/\((L !=(0:Int))=false->S (cK ((c:Int)+1)) q/\ν (cK ((c:Int)+1)) q<ν c q))/\
    ((decide (w>=(0:Int)))=false->S (cK ((c:Int)+1)) q/\ν (cK ((c:Int)+1)) q<ν c q):=λh=>by
    refine⟨V,V,_,R,λr=>⟨V,V,_,X,λp=>bX (λy=>?_) (A.trans K),λp=>H V _ ⟨rfl,fw ⟨h,λ_=>by simpa using p⟩⟩⟩,λr=>H V _ ⟨rfl,fw ⟨h,λF=>by simp at r;omega⟩⟩⟩
    have:=y.lL c j t (by simpa using r)
    simp at p;exact p this
   refine⟨V,V,_,R,λr=>⟨V,V,_,X,λp=>bX (λy=>?_) (A.trans K),λp=>J8 λ_=>by simpa using p⟩,λr=>J8 λF=>by simp at r;omega⟩;have:=y.jy c j t (by simpa using r);simp at p;exact p this
  ·have p:s.heap.length<=c:=by first|omega|(simp at x;omega)
   exact iN ⟨Z,λe j t h=>(v e j (by have:=ax t;omega) t).1 h,λe j t h=>(v e j (by have:=ax t;omega) t).2 h⟩ (A.trans K)
end
end
section
def MQ(a:Int):(a==(0:Int))=decide (a=0):=by by_cases h:a=0<;>simp[h]
def CO(a b:Int):(!((a==(0:Int))==(b==(0:Int))))=false<->(a=0<->b=0):=by
 rw[MQ,MQ];by_cases c:a=0<;>by_cases d:b=0<;>simp[c,d]
section
variable{m:I}{d p bo c b:O}{a:cD}{s:St}
structure PD(h:List bM)(fs:List aZ):Prop where
 len:∀f∈fs,f.aW.length=f.av.length
 av:∀f∈fs,EC h f
def PD.aW{h:List bM}{a:List aZ}(H:PD h a){f:aZ}(b:f∈a):∀o∈f.aW,0<=o/\o<=999999:=λo e=>by
 obtain⟨d,c⟩:=List.mem_iff_getElem?.1 e;obtain⟨w,g⟩:=ag (l:=f.av) (k:=d) (by have:=ax c;have:=H.len f b;omega);exact((H.av f b).df d w o g c).2.1
def ur(z:ft m bo c b s)(E:zw s)(hd:s.ak.length<=41)(H:PD s.heap s.ak):If 40 [OJ s bo c b] m (qJ s.heap.length (dD s.ak)):=by
 apply An;simp -zeta only[aE,aD];intro d;have p:J m d:=(J.aC m).aM _;have s1:d.size=m.size+1:=by simp[d]
 clear_value d;have hl:=z.heap.len;have aC:=E.lh;have ay:=z.ak.len;have en:Int.toNat (c.len:Int)=s.heap.length:=V;rw[en];refine⟨V,V,V,V,?_⟩;intro B;have x2:J d B:=(J.aC d).aM _;have B2:cB B d.size aB ((qJ s.heap.length (λ_=>0)).map Ce.i):=JN d _;have s2:B.size=d.size+1:=by simp[B]
 clear_value B;refine dO (n:=s.ak.length) V (λi j=>J d j/\d.size<j.size/\cB j d.size aB ((qJ s.heap.length (λe=>dD (s.ak.take i) e)).map Ce.i)) ⟨x2,V,by simpa[dD]using B2⟩ ?_;rintro i U ao μ hi ⟨C,z3,L⟩ am
 refine dit (λh1=>?_) λh1=>?_
 ·obtain⟨f,x⟩:=ag (l:=s.ak) (k:=i) V;have y:=au x;have aF:=E.lr f y;obtain⟨af,K,v,hr,S,he,g0,g1,g2,g3,g4,g5⟩:=(z.ext (p.trans C)).ak.u x;have aJ:=hr.len;have aH:=S.len;have aA:=H.len f y;have ei:Int.toNat (i:Int)=i:=V;rw[ei];refine⟨V,V,_,g0,_,g1,_,g2,af,g3,K,g4,v,g5,?_⟩;intro m4 o;have x5:J U o:=((J.aC U).aM _).aj (ad _) _ _;have s5:o.size=U.size+1:=by simp[o,m4,az]
  clear_value o;have B5:=L.ext x5;have an:=C.trans x5;refine dO (n:=f.aW.length) V (λa j=>J d j/\o.size<=j.size/\(∀h,h<o.size->h≠d.size->j[h]? =o[h]?)/\cB j d.size aB ((qJ s.heap.length (λe=>dD (s.ak.take i) e+cz (f.av.take a) (f.aW.take a) e)).map Ce.i)) ⟨an,ad _,λ_ _ _=>rfl,by simpa[cz]using B5⟩ ?_;rintro a I ap ν hk ⟨u,z6,Z,r⟩ ac;refine dit (λh2=>?_) λh2=>?_
  ·obtain⟨w,A⟩:=ag (l:=f.av) (k:=a) V;obtain⟨q,G⟩:=ag (l:=f.aW) (k:=a) V;have R:=(H.av f y).df a w q A G;obtain⟨r',o',e',aI,aG,aw,_,_,_,_,y4,_⟩:=(z.ext (p.trans u)).ak.u x;have lb:∀{sl:O}{ab:List Int},ar m sl ab->ab≠[]->sl.F<m.size:=λah F=>nD ah F;obtain⟨X,W,e0,ak,aj,_,_,_,_,w3,w4,_⟩:=z.ak.u x;have er:X=af:=by have:=(p.trans C).D w3;rw[g3]at this;exact(O.GM.1 (mB this)).symm
   have eo:W=K:=by have:=(p.trans C).D w4;rw[g4]at this;exact(O.GM.1 (mB this)).symm
   subst er;subst eo;have gq:D I W.F (W.off+Int.toNat (a:Int)*1)=some (vi q):=by simpa using(aj.ext (p.trans u)).u G
   have gw:D I X.F (X.off+Int.toNat (a:Int)*1)=some (vi w):=by simpa using(ak.ext (p.trans u)).u A
   refine⟨V,V,q,gq,λP=>?_,λP=>?_⟩
   ·have T:0<q:=by simpa using P
    have Q:=R.2.2 T;have aa:=ax (cp Q).1;have ai:=(E.ak f y).1 w (au A);have M:cK (w -1000)=(ix w:Nat):=by have:=Q.1;have:=ai.2;unfold ix;rw[aP V V];omega
    have N:Int.toNat ((ix w:Nat):Int)=ix w:=V;refine⟨V,V,w,gw,V,V,w,gw,?_⟩;rw[M,N];simp only[O.fj,O.iT,O.lY,bN,dG];have q1:=HU (a:=s.ak.take i) (n:=10000000) (k:=999999) V (λY t=>⟨(E.lr Y (cT t)).2.1,H.aW (cT t)⟩) (ix w);have q2:=Dp (av:=f.av.take a) (aW:=f.aW.take a) (n:=999999) V (λK S=>H.aW y K (cT S)) (ix w);have q5:(s.ak.take i).length<=41:=bK;have q6:(f.aW.take a).length<=10000000:=bK;have q7:=R.2.1;refine⟨V,V,_,pY r aa,V,V,q,by simpa using gq,V,V,Lc r aa,?_⟩;rw[show cK (dD (s.ak.take i) (ix w)+cz (f.av.take a) (f.aW.take a) (ix w)+q)=dD (s.ak.take i) (ix w)+cz (f.av.take a) (f.aW.take a) (ix w)+q from aP V V];have Y:=FY r (ix w) (dD (s.ak.take i) (ix w)+cz (f.av.take a) (f.aW.take a) (ix w)+q);rw[eG (g:=λe=>dD (s.ak.take i) e+cz (f.av.take (a+1)) (f.aW.take (a+1)) e)]at Y
    ·refine⟨λh t=>bh _ _ _ _ (by simp at t;omega),ac V _ ⟨u.aj (ad _) _ _,by rw[az];exact z6,λh t F=>by rw[bh _ _ _ _ F];exact Z h t F,Y⟩⟩
    ·intro h t;rw[mT A G];by_cases v:h=ix w
     ·subst v;rw[aq rfl,aq (gP Q.1).symm];omega
     ·rw[ae v,ae (λal=>v (by rw[al,jL]))];omega
   ·have T:q=0:=by have:=R.2.1.1;simp at P;omega
    refine ac V I ⟨u,z6,Z,?_⟩;rw[eG (g:=λe=>dD (s.ak.take i) e+cz (f.av.take a) (f.aW.take a) e)]
    ·exact r
    ·intro h t;rw[mT A G,T];split<;>omega
  ·have M:f.av.take a=f.av:=bZ V;have N:f.aW.take a=f.aW:=bZ V;rw[M,N]at r;refine am V I ⟨u,V,?_⟩
   rw[eG (g:=λe=>dD (s.ak.take i) e+cz f.av f.aW e)]
   ·exact r
   ·intro h t;exact EY x h
 ·have a:s.ak.take i=s.ak:=bZ V;rw[a]at L;exact⟨_,rfl,Mo L V,p.trans C⟩
def zX(l:ft m bo c b s)(j:zw s)(g:s.ak.length<=41)(H:PD s.heap s.ak)(i:∀a∈s.heap,mI s.heap a):
 dm bY 66 [OJ s bo c b] m (∀(e:Nat)(a:bM),s.heap[e]? =some a->0<a.aQ->a.aQ=dq s.heap e+dD s.ak e):=by
 apply uY
 simp -zeta only[aE,aD]
 intro o
 have w:J m o:=(J.aC m).aM _
 have s1:o.size=m.size+1:=by simp[o]
 clear_value o
 have T:=l.heap.len
 have U:=j.lh
 refine(yH (l.ext w).heap i j.heap V).mono ?_
 rintro _ W ⟨Q,rfl,E,p⟩
 have z2:=p.size
 refine⟨p.da bK,Q,rfl,(ur (l.ext (w.trans p)) j g H).mono ?_⟩
 rintro _ O ⟨P,rfl,C,x⟩
 have M:=E.len
 have L:=C.len
 rw[lR]at M L
 have q:=(w.trans p).trans x
 refine⟨x.da bK,P,rfl,?_⟩
 refine dO (n:=s.heap.length) V (λf N=>N=O/\∀(e:Nat)(a:bM),e<f->s.heap[e]? =some a->0<a.aQ->a.aQ=dq s.heap e+dD s.ak e) ⟨rfl,λe a A=>absurd A (fy _)⟩ ?_
 rintro f X R μ B ⟨rfl,D⟩ F
 refine dit (λI=>?_) λI=>?_
 ·have u:f<s.heap.length:=V
  obtain⟨a,t⟩:=ag u
  obtain⟨S,_,y,_,_⟩:=(l.ext q).heap.u t
  have G:Int.toNat (f:Int)=f:=V
  rw[G]
  have fw:(0<a.aQ->a.aQ=dq s.heap f+dD s.ak f)->∀(e:Nat)(a:bM),e<f+1->s.heap[e]? =some a->0<a.aQ->a.aQ=dq s.heap e+dD s.ak e:=λv e d A g=>by
   rcases aV e f with z|z
   ·exact D e d z g
   ·have:e=f:=V;subst this;rw[t]at g;simp at g;subst g;exact v
  have Y:=zn s.heap f λa K=>(i a K).fl
  have Z:=nV s.heap f
  have q3:=HU (a:=s.ak) (n:=10000000) (k:=999999) V (λr h=>⟨(j.lr r h).2.1,H.aW h⟩) f
  refine⟨V,V,_,y,λr=>?_,λr=>F V _ ⟨rfl,fw λh=>by simp at r;omega⟩⟩
  refine⟨V,V,_,y,V,V,_,(E.ext x).u (qK u),V,V,_,C.u (qK u),?_⟩
  rw[show cK (dq s.heap f+dD s.ak f)=dq s.heap f+dD s.ak f from aP V V]
  refine⟨λh=>bX (λB=>?_) q,λh=>F V _ ⟨rfl,fw λ_=>by simpa using h⟩⟩
  have:=B f a t (by simpa using r)
  simp at h;exact h this
 ·exact iN (λe a i v=>D e a (by have:=ax i;omega) i v) q
def Cu(ah:eV m d p a)(z:ft m bo c b s)(H:zw s):dm bY 39 [.agg #[O.v d,O.v p],OJ s bo c b] m (cN a s):=by
 apply wM;simp -zeta only[aE,aD];intro K q;have r:J m q:=((J.aC m).aM _).aM _;have s1:K.size=m.size+1:=by simp[K]
 have s2:q.size=m.size+2:=by simp[q,s1]
 clear_value q;have o:∀ai∈[K.size,m.size],ai<q.size:=bK;have an:=z.ak.len;have h:∀{N:I},J q N->¬KA a s->∃t:Bool,vb false=.bool t/\(t=true<->cN a s)/\J m N:=λZ hn=>bX (λe=>hn (EI e)) (r.trans Z);refine(rD (ah.ext r)).aG (J.aC _) o λb3 m3 ab x3 _=>⟨b3,rfl,λP=>h x3 λe=>nb ab P e.fK,λP=>?_⟩;have hi:=yb ab P;refine(aU _ _ _ _).aG x3 o λb4 m4 ac aA x4=>⟨b4,rfl,λQ=>h x4 λe=>nb ac Q e.cL,λQ=>?_⟩;have aq:=yb ac Q;have ae:(s.ak=[])<->((b.len:Int)=0):=by rw[an];simp
 refine⟨λR=>h x4 λe=>?_,λR=>?_⟩
 ·have:=e.done;rw[ae,<-CO]at this;rw[this]at R;cases R
 have am:s.cL=0<->s.ak=[]:=by rw[ae];exact(CO _ _).1 R
 refine⟨λN=>J q N/\gA s.value/\(s.value≠0->s.cL=0)/\(0<=s.dK/\s.dK<=40)/\(0<=s.bI/\s.bI<=s.dK),?_,?_⟩
 ·refine(aU _ _ _ _).aG x4 o λx m5 w C y=>⟨x,rfl,λu=>h y λe=>nb w u e.value,λu=>?_⟩;have X:=yb w u;have tail:(s.value≠0->s.cL=0)->aN bY 33 [vi s.dK,vi (0:Int),vi (40:Int)] m5 λA f=>dV [K.size,m.size] m5 f/\∃i:Bool,A=vb i/\
   ((!i)=true->∃t:Bool,vb false=.bool t/\(t=true<->cN a s)/\J m f)/\((!i)=false->aN bY 33 [vi s.bI,vi (0:Int),vi s.dK] f λv g=>
   dV [K.size,m.size] f g/\∃j:Bool,v=vb j/\((!j)=true->∃t:Bool,vb false=.bool t/\(t=true<->cN a s)/\J m g)/\
   ((!j)=false->J q g/\gA s.value/\(s.value≠0->s.cL=0)/\(0<=s.dK/\s.dK<=40)/\(0<=s.bI/\s.bI<=s.dK))):=λY=>
   (aU _ _ _ _).aG y o λT m6 E au B=>⟨T,rfl,λg=>h B λe=>nb E g e.dK,λg=>
    (aU _ _ _ _).aG B o λU m7 F av L=>⟨U,rfl,λD=>h L λe=>nb F D e.bI,λD=>⟨L,X,Y,yb E g,yb F D⟩⟩⟩
  refine⟨λv=>⟨λg=>h y λe=>?_,λg=>tail λ_=>by simpa using g⟩,λv=>tail λg=>absurd (by simpa using v) g⟩;have:=e.rL (by simpa using v);simp at g;exact g this
 ·rintro m5 ⟨y,X,Y,ao,ak⟩;rw[aP V V];refine⟨λu=>h y λe=>by have:=e.depth;simp at u;omega,λu=>?_⟩;have al:(s.ak.length:Int)<=s.bI+1:=by simp at u;omega
  have ad:s.ak.length<=41:=V;refine(BD (z.ext (r.trans y)).bo).aG y o λT m6 E au B=>⟨T,rfl,λv=>h B λe=>nb E v e.bo,λv=>?_⟩;have ap:=yb E v;refine(Ee (z.ext (r.trans B)).heap H.heap (by have:=H.lh;omega)).aG B o λU m7 F av L=>⟨U,rfl,λg=>h L λe=>nb F g e.heap,λg=>?_⟩;have af:=yb F g;refine dO (n:=s.ak.length) V (λA m'=>J q m'/\∀(j:Nat)(f:aZ),j<A->s.ak[j]? =some f->HY a s.heap (lZ s.ak j) f) ⟨L,λj f x=>absurd x (fy _)⟩ ?_;rintro A m8 ay μ e ⟨M,hq⟩ ar
  refine dit (λD=>?_) λD=>?_
  ·obtain⟨f,i⟩:=ag (l:=s.ak) (k:=A) V;refine(Cq (ah.ext (r.trans M)) (z.ext (r.trans M)) H i).aG M o λW m9 G aw C=>⟨W,rfl,λw=>h C λe=>nb G w (e.ak A f i),λw=>ar V _ ⟨C,λj aj x S=>?_⟩⟩;rcases aV j A with aa|aa
   ·exact hq j aj aa S
   ·have:j=A:=V;subst this;rw[i]at S;simp at S;subst S;exact yb G w
  ·have S:∀(j:Nat)(f:aZ),s.ak[j]? =some f->HY a s.heap (lZ s.ak j) f:=λj f i=>hq j f (by have:=ax i;omega) i;have HF:PD s.heap s.ak:=⟨λf i=>by
    obtain⟨j,x⟩:=oN i;have P:=(S j f x).lr;have Q:=(S j f x).lo;omega,λf i=>let⟨j,x⟩:=oN i;(S j f x).av⟩
   refine(Fu (z.ext (r.trans M)) H ad).aG M o λW m9 G aw C=>⟨W,rfl,λw=>?_,λw=>h C λe=>fb G w e.bn⟩;refine(zX (z.ext (r.trans C)) H ad HF af.cells).aG C o λx az aa aB aj=>⟨x,rfl,fA ?_ (r.trans aj)⟩;rw[aa];exact⟨λZ=>JJ ⟨hi,aq,am,X,Y,ao,ak,al,ap,af,S,G.1 w,Z⟩,λe=>(EI e).Oc⟩
end
end
end Go.Proofs.YtgnjacfobdjeeaaGreat
