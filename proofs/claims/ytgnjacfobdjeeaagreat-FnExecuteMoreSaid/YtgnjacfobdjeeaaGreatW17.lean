/- Part of a proof, joined by a program. -/
import Derived.Test.YtgnjacfobdjeeaaGreatW11
import Derived.Test.YtgnjacfobdjeeaaGreatW16
set_option linter.unusedVariables false
set_option linter.unusedSimpArgs false
set_option linter.defProp false
set_option linter.constructorNameAsVariable false
set_option maxHeartbeats 8000000
set_option maxRecDepth 100000
namespace Go.Proofs.YtgnjacfobdjeeaaGreat
open Go.Vc
section
variable{b:cH}{a:Instr}
def yZ.HE{s:St}{d:List aX}{f:aX}(C:yZ b s d f a){aR:List Int}(j:aR=bC f.u f.aR (bS b a))(i:∀o∈aR,0<=o):
 fE s.heap (λc=>gN d c+dj f.u aR c+eL ((bS b a).map (E f.u)) c)/\∀c,0<=gN d c+dj f.u aR c:=by
 have e:=xD (u:=f.u) (bS b a) f.aR C.JI C.LP.1
 rw[<-j]at e
 refine⟨C.ok.heap.congr λc=>?_,λc=>?_⟩
 ·rw[C.fr,fL,kG,e];omega
 ·have:=JF (b:=d) (λg h=>C.ok.az g (by rw[C.fr];exact bL _ h)) c
  have:=td (u:=f.u) i c
  omega
def PR{a:List bB}{t jQ:Int}(h:jQ∈cq a t):1<=t/\t<=a.length/\(qU (cq a t) jQ:Int)=jQ -fc a (t.toNat -1)/\(fc a (t.toNat -1):Int)<=jQ:=by
 unfold cq at h⊢;by_cases b:1<=t/\t<=a.length
 ·rw[ao b]at h⊢;obtain⟨d,e⟩:=ag (l:=a) (k:=t.toNat -1) V;rw[e]at h⊢;simp only[nR,vh]at h⊢;obtain⟨i,c,f⟩:=List.mem_map.1 h;rw[List.mem_range]at c;have g:qU ((List.range d.cons.length).map λi=>((fc a (t.toNat -1)+i:Nat):Int)) jQ=i:=by
   unfold qU;rw[List.findIdx_eq (by simpa using c)];refine⟨by simp[<-f],λm j=>?_⟩;simp;omega
  rw[g];exact⟨b.1,b.2,V,V⟩
 ·rw[ae b]at h;simp at h
def NR{k d e:Int}(l:iu d)(o:iu e)(m:I):EH cw 177 [vi k,vi d,vi e] m (vi (NJ k d e)):=by
 have i:∀n:Int,-2000000<=n/\n<=2000000->EH cw 210 [vi (cW n)] m (vi (EQ n)):=λn q=>by
  apply Hs;rw[aQ V V];refine⟨?_,J.aB _⟩;unfold EQ;congr 1;repeat' split;all_goals omega
 unfold iu at l o;have p: -2000000<=d*e/\d*e<=2000000:=by
  have a:(d*e).natAbs<=999*999:=by rw[Int.natAbs_mul];exact Lq V V
  omega
 apply Jr;unfold NJ;refine⟨λa=>?_,λa=>⟨λb=>?_,λb=>⟨λc=>?_,λc=>⟨λf=>⟨λh=>?_,λh=>?_⟩,λf=>?_⟩⟩⟩⟩
 ·simp at a;rw[ao a];exact(i _ V).then λj g=>⟨_,rfl,rfl,g⟩
 ·simp at a b;rw[ae a,ao b];exact(i _ V).then λj g=>⟨_,rfl,rfl,g⟩
 ·simp at a b c;rw[ae a,ae b,ao c];exact(i _ p).then λj g=>⟨_,rfl,rfl,g⟩
 ·simp at a b c f h;rw[ae a,ae b,ae c,ao ⟨f,h⟩];exact⟨rfl,J.aB _⟩
 ·simp at a b c f h;rw[ae a,ae b,ae c,ae V];exact⟨rfl,J.aB _⟩
 ·simp at a b c f;rw[ae a,ae b,ae c,ae V];exact⟨rfl,J.aB _⟩
section
variable{q:I}{j:Nat->Nat}{m:I}{t:Nat}{d p aW n k:O}{c:St}{g:List aX}{f:aX}{r o h:O}{u:List (List Ce)}
def Jq(C:yZ b c g f a){aR:List Int}(aB:aR=bC f.u f.aR (bS b a))(hM:jD b c f a aR)
 (ag:ST q j m t bQ (SB d p c aW n k) aW n k c.aW c.heap g {f with aR:=aR} r o h u)(aY:eu q d p b){aw a4:O}(ha:ap q aw a.args)(hj:ap q a4 a.ez)(bq:c.heap.length<=900000000)(bB:c.aW.length<=900000000):
 aO cw 129 [vp t 0,fv f r o h,xv a aw a4] m λ_ W=>ye q j m t d p (eC b c g f a aR) W:=by
 apply tw (t,0)
 simp -zeta only[aD,aC]
 intro m1 B
 have bl:J m B:=((J.aB m).aK _).aK _
 have s1:m1.size=m.size+1:=by simp[m1]
 have s2:B.size=m.size+2:=by simp[B,s1]
 have G:=xZ.JA ag.cO.new s1 s2
 have Z:cF B m1.size dQ [.i a.op,.i a.dst,.i a.bN,.i a.bW,.s aw,.s a4]:=cF.push m1 _ _
 have kF:cF B m.size dB [.i f.eP,.i f.pc,.i f.dst,.s r,.s o,.s h]:=(cF.push m _ _).ext (J.push m1 _)
 obtain⟨y,t2⟩:=ag.ext bl
 clear_value B
 have bA:aR.length=f.aR.length:=by rw[aB];exact jV _ _ _
 have br:=C.LP
 have H:=C.kY
 have hd:=C.dst
 have bi:=C.F.pc
 obtain⟨pq,_,bj,hP,bo,hI⟩:=C.I
 rw[bj]at bi
 have bD:=hP.len
 have aq:0<=f.pc/\f.pc<=100000:=V
 have a8:=C.ok.depth
 have bn:=C.ok.bq
 have bt:=C.ok.bA
 rw[C.fr]at a8
 have bp:g.length<=1000:=by simp at a8;omega
 have aZ:f.u.length=aR.length/\f.bo.length=aR.length/\aR.length<=2000:=V
 have bF:r.len=f.u.length:=by have:=ag.fP.u.len;simp at this;omega
 have bv:o.len=aR.length:=by have:=ag.fP.aR.len;simp at this;omega
 have bm:=ha.len
 have e4:cW (f.pc+1)=f.pc+1:=aQ V V
 have ac:1<=a.args.length->0<=E a.args 0/\E a.args 0<f.u.length:=λN=>C.arg _ (eW V V)
 have R:∀{W},J q W->1<=a.args.length->af W aw.F (aw.off+Int.toNat (0:Int)*1)=some (vi (E a.args 0)):=λhx N=>(ha.ext hx).pu V V
 have Y:∀{j m bx aW n k lo lh o h u own'},ST q j m t bQ bx aW n k lo lh g {f with aR:=own'} r o h u->∀{aH:Int},0<=aH->aH<f.u.length->af m r.F (r.off+Int.toNat aH*1)=some (vi (E f.u aH)):=λag aH h0 N=>(ag.zQ (by simp only[];omega)).pu h0 N
 have a7:=C.HE aB hM.nn
 have bg:∀{j m n lh bx},ST q j m t bQ bx aW n k c.aW lh g {f with aR:=aR} r o h u->lF m k (g++[{f with aR:=aR}]):=λag=>ag.cO.az.Fv bJ (λab K=>by
  rcases List.mem_append.1 K with K|K
  ·have hF:=C.ok.az ab (by rw[C.fr];exact bL _ K);obtain⟨pg,_,ay,au,_⟩:=hF.Im C.ok.fe;have N:=hF.lr;have S:=hF.lo;have h3:=hF.lh;rw[ay]at N S h3;have:=au.u;omega
  ·simp at K;subst K;simp only[];omega)
 have a_:∀r',r'∈a.args->E f.u r'<1000->iu (E f.u r'):=λr' bk bs=>by
  have aA:=C.arg r' bk;rcases C.F.MM _ (eW aA.1 aA.2)with T|T
  ·exact T
  ·omega
 have a5:∀{ah:I}(hx:J B ah)(aa:Int)(s':St),s'={c with az:=g++[aX.put {f with aR:=aR,pc:=f.pc+1} a.dst aa 0]}->
  aO cw 176 [vp t 0,vi a.dst,vi aa] ah λ_ W=>eE [m1.size,m.size] ah W/\ye q j m t d p s' W:=λhx aa s' v=>by
  obtain⟨SM,tM⟩:=y.ext hx
  refine(AL SM V hd.1 (by simp only[];omega) (by simp only[];omega) aa aq).mono ?_
  rintro _ W ⟨S',t'⟩
  exact⟨t'.dF (G.to tM),j,aW,n,k,by rw[v];exact S'.cO,(t2.trans tM).trans t'⟩
 have aV:∀{ah:I}(hx:J B ah)(a1:Int)(s':St),s'={c with az:=g++[{f with aR:=aR,pc:=a1}]}->
  aO cw 183 [vp t 0,vi a1] ah λ_ W=>eE [m1.size,m.size] ah W/\ye q j m t d p s' W:=λhx a1 s' v=>by
  obtain⟨SM,tM⟩:=y.ext hx
  refine(jP SM V a1).mono ?_
  rintro _ W ⟨S',t'⟩
  exact⟨t'.dF (G.to tM),j,aW,n,k,by rw[v];exact S'.cO,(t2.trans tM).trans t'⟩
 refine⟨λv=>?_,λe0=>?_⟩
 ·simp at v
  exact a5 (J.aB _) _ _ (by unfold eC;simp only[];rw[ao v])
 simp only[ak]at e0
 refine⟨λv=>?_,λe1=>?_⟩
 ·simp only[bT,aF]at v
  have S:=H.2.2.1 V
  have w:=ac V
  have A:0<=E a.args 1/\E a.args 1<f.u.length:=C.arg _ (eW V V)
  have L:=hM.mZ V
  refine⟨V,V,_,R y.cO.bY V,w.1,V,_,Y y w.1 w.2,V,V,_,(ha.ext y.cO.bY).pu (i:=1) V V,A.1,V,_,Y y A.1 A.2,?_⟩
  refine(NR (a_ _ (eW V V) (L _ (eW V V))) (a_ _ (eW V V) (L _ (eW V V))) B).mono ?_
  rintro _ F ⟨rfl,z⟩
  refine⟨z.dm (λX hb=>(G X hb).1),_,rfl,z.cV (Z.cp 1),a5 z _ _ ?_⟩
  unfold eC;simp only[];rw[ae e0,ao v]
 simp only[bz,ak]at e1
 have an:¬(a.op=1\/a.op=2\/a.op=3\/a.op=4):=V
 refine⟨λv=>?_,λe5=>?_⟩
 ·simp only[aF]at v
  have S:=H.2.1 V
  have w:=ac V
  have ai:(O.len aW)=c.aW.length:=by have:=y.cO.aW.len;simp at this;omega
  refine⟨aW,y.cO.box.cp 6,V,V,_,R y.cO.bY V,w.1,V,_,Y y w.1 w.2,?_⟩
  intro F
  have z:J B F:=(J.aB B).aK _
  have jg:fN F B.size 0 [.i (E f.u (E a.args 0))]:=(cF.push B _ _).iP
  obtain⟨M,A⟩:=y.ext z
  have Q:=G.to A
  clear_value F
  refine⟨z.cV (y.cO.box.cp 6),gY.append (c:=[.i 0]) (x:=.mk B.size 0 1 1) (d:=[.i (E f.u (E a.args 0))]) M.cO.aW M.cO.new rfl jg (by simp only[O.iE];omega) λav aI m4 q1 q2=>?_⟩
  have U:gY av m4 aE 1 2 aI ((c.aW++[E f.u (E a.args 0)]).map Ce.i):=by simpa using q1
  obtain⟨P,L⟩:=M.KI q2 U
  have B4:=Q.to L
  refine⟨L.dF Q,P.cO.mg (i:=6) D,?_⟩
  intro m5
  obtain⟨S5,t5⟩:=P.je 6 [.s aI]
  have B5:=B4.to t5
  refine⟨t5.dF B4,V,V,_,R S5.cO.bY V,w.1,V,_,Y S5 w.1 w.2,?_⟩
  refine(AL (a:={c with aW:=c.aW++[E f.u (E a.args 0)]}) S5 V hd.1 (by simp only[];omega) (by simp only[];omega) _ aq).mono ?_
  rintro _ m6 ⟨S6,t6⟩
  refine⟨t6.dF B5,av,aI,n,k,?_,(((t2.trans A).trans L).trans t5).trans t6⟩
  unfold eC;simp only[];rw[ae e0,ae an,ao v];exact S6.cO
 simp only[ak]at e5
 have ba:∀aa∈f.bo,aa≠0->1000<=aa/\ix aa<c.heap.length:=λaa hw a0=>by
  obtain⟨N,dd,bf,_⟩:=C.Kk aa hw a0;exact⟨N,ax bf⟩
 refine⟨λv=>?_,λe6=>?_⟩
 ·simp only[aF]at v
  have h6:=H.2.2.2.2.1 v
  refine(uw y ha C.arg H.1 a.bN aZ (by simp only[];omega) ⟨h6.1,h6.2.1⟩ aq V V ba).mono ?_
  rintro _ F ⟨am,al,aj,ai,L3,A⟩
  refine⟨A.dF G,am,al,aj,ai,?_,t2.trans A⟩
  have:eC b c g f a aR=nm c g {f with aR:=aR} a a.bN:=by
   unfold eC nm;simp only[];rw[ae e0,ae an,ae e5,ao v];rfl
  rw[this];exact L3
 simp only[ak]at e6
 refine⟨λv=>?_,λaU=>?_⟩
 ·simp only[aF]at v
  have aM:=H.2.2.2.2.2.1 v
  have aA:a.bW=0:=by rcases hI.bW with T|T;exact T;omega
  have aN:(eK b.aT).length<=12:=by
   have:=qS C.ok.fe.mw.types b.aT.length;rw[mL _ _ (ad _)]at this;exact this
  refine⟨d,y.cO.box.cp 0,(qu (aY.ext y.cO.bY).aT C.ok.fe.mw.types).mono ?_⟩
  rintro _ F ⟨rfl,z⟩
  obtain⟨M,A⟩:=y.ext z
  have Q:=G.to A
  have e3:cW (((eK b.aT).length:Int)+a.bN)=bI b+a.bN:=aQ V V
  refine⟨A.dF G,_,rfl,z.cV (Z.cp 2),z.cV (Z.cp 0),z.cV (Z.cp 1),z.cV (Z.cp 2),z.cV (Z.cp 3),z.cV (Z.cp 4),z.cV (Z.cp 5),z.cV (kF.cp 0),z.cV (kF.cp 1),z.cV (kF.cp 2),z.cV (kF.cp 3),z.cV (kF.cp 4),z.cV (kF.cp 5),?_⟩
  rw[e3]
  refine(uw M ha C.arg H.1 (bI b+a.bN) aZ (by simp only[];omega) (by rw[aA];omega) aq V V ba).mono ?_
  rintro _ m4 ⟨av,aL,aG,aK,U,L⟩
  refine⟨L.dF Q,av,aL,aG,aK,?_,(t2.trans A).trans L⟩
  have:eC b c g f a aR=nm c g {f with aR:=aR} a (bI b+a.bN):=by
   unfold eC nm;simp only[];rw[ae e0,ae an,ae e5,ae e6,ao v,ae (λhh=>hh.1 aA)];rfl
  rw[this];exact U
 simp only[ak]at aU
 refine⟨λv=>?_,λe9=>?_⟩
 ·simp only[bT,aF]at v
  have U:=hI.op
  unfold lG at U
  refine(LZ y aY C.ok.fe ha C.arg H.1 V (λe'=>?_) (λe'=>⟨H.2.2.1 V,hM.apply e'⟩) aZ (λab K=>?_) aq V V V V C.ok.heap).mono ?_
  ·rw[ae V,ae V,ae V,ae V,ao e']at U;exact U
  ·have hF:=C.ok.az ab (by rw[C.fr];exact bL _ K)
   obtain⟨pg,_,ay,au,_⟩:=hF.Im C.ok.fe
   have N:=hF.lr
   have S:=hF.lo
   have h3:=hF.lh
   rw[ay]at N S h3
   have:=au.u
   omega
  rintro _ F ⟨am,al,aj,ai,L3,A⟩
  refine⟨A.dF G,am,al,aj,ai,?_,t2.trans A⟩
  have:eC b c g f a aR=qG b c g {f with aR:=aR} a:=by
   unfold eC qG;simp only[];rw[ae e0,ae an,ae e5,ae e6,ae aU,ae V,ae V,ae V,ae V,ae V,ae V,ae V,ae V];by_cases e9:a.op=9
   ·rw[ao e9,ao e9];rfl
   ·rw[ae e9,ae e9];by_cases au:a.op=24
    ·rw[ao au,ao au];rfl
    ·rw[ae au,ae au,ao V]
  rw[this];exact L3
 simp only[bz,ak]at e9
 refine⟨λv=>?_,λbc=>?_⟩
 ·simp only[aF]at v
  have S:=H.2.1 V
  have w:=ac V
  refine⟨V,V,_,R y.cO.bY V,w.1,V,_,Y y w.1 w.2,(Md y V (E f.u (E a.args 0)) (λab K=>?_)).mono ?_⟩
  ·have a0:g≠[]:=λv=>by rw[v]at K;simp at K
   have au:g=g.dropLast++[ab]:=by
    rw[eT a0]at K;simp at K;rw[<-K];exact(dX a0).symm
   have aK:g.length=g.dropLast.length+1:=by
    have:=ry List.length au;simpa using this
   obtain⟨q1,q2,q3⟩:=C.ok.chain g.dropLast.length ab f (by rw[C.fr,au];simp) (by rw[C.fr,<-aK];simp)
   have ay:=C.ok.az ab (by rw[C.fr,au];simp)
   have:=ay.lr
   have:=ay.lo
   exact⟨q1,by show f.dst<_;omega,by show f.dst<_;omega⟩
  rintro _ F ⟨am,al,aj,ai,L3,A⟩
  refine⟨A.dF G,am,al,aj,ai,?_,t2.trans A⟩
  unfold eC
  simp only[]
  rw[ae e0,ae an,ae e5,ae e6,ae aU,ae V,ae V,ae V,ae V,ae V,ae V,ae V,ae V,ae V,ae V,ae V]
  exact L3
 simp only[ak]at bc
 have bh:∀(au:St),(if a.op=0 then au else au)=au:=λau=>by split<;>rfl
 have Lr:eC b c g f a aR=(
  if a.op=14 then{c with heap:=nl c.heap (E f.u (E a.args 0)),az:=g++[{f with aR:=gF aR (E a.args 0) (E aR (E a.args 0)+1),pc:=f.pc+1}]}
  else if a.op=15 then{c with heap:=oX (iD c.heap [E f.u (E a.args 0)]),az:=g++[{f with aR:=aR,pc:=f.pc+1}]}
  else if a.op=16\/a.op=17 then tc c g {f with aR:=aR} a
  else if a.op=18 then{c with az:=g++[aX.put {f with aR:=aR,pc:=f.pc+1} a.dst (E f.u (E a.args 0)) (fW (E f.u (E a.args 0)))]}
  else if a.op=19 then{c with az:=g++[aX.put {f with aR:=aR,pc:=f.pc+1} a.dst (E (aJ c.heap (E f.u (E a.args 0))).aL a.bN) 0]}
  else if a.op=20 then{c with az:=g++[{f with aR:=aR,pc:=if E f.u (E a.args 0)=0 then a.bN else f.pc+1}]}
  else if a.op=21 then{c with az:=g++[{f with aR:=aR,pc:=E a.ez (qU (cq b.aT a.bN) (aJ c.heap (E f.u (E a.args 0))).jQ)}]}
  else{c with az:=g++[{f with aR:=aR,pc:=a.bN}]}):=by
  unfold eC
  simp only[]
  rw[ae e0,ae an,ae e5,ae e6,ae aU]
  by_cases aK:a.op=14
  ·rw[ao aK,ao aK]
  rw[ae aK,ae aK]
  by_cases aL:a.op=15
  ·rw[ao aL,ao aL]
  rw[ae aL,ae aL]
  by_cases aM:a.op=16\/a.op=17
  ·rw[ao aM,ao aM];rfl
  rw[ae aM,ae aM]
  by_cases aN:a.op=18
  ·rw[ao aN,ao aN]
  rw[ae aN,ae aN]
  by_cases aP:a.op=19
  ·rw[ao aP,ao aP]
  rw[ae aP,ae aP]
  by_cases aS:a.op=20
  ·rw[ao aS,ao aS]
  rw[ae aS,ae aS]
  by_cases aT:a.op=21
  ·rw[ao aT,ao aT]
  rw[ae aT,ae aT]
  have:=C.YN
  rw[ao V]
 rw[Lr]
 clear Lr bh
 refine⟨λv=>?_,λa6=>?_⟩
 ·simp only[aF]at v
  rw[ao v]
  have S:=H.2.1 V
  have w:=ac V
  obtain⟨ab,bu⟩:=hM.UK v
  obtain⟨be,bE⟩:=bZ ab
  refine⟨V,V,_,R y.cO.bY V,w.1,V,_,Y y w.1 w.2,?_⟩
  intro F
  have z:J B F:=(J.aB B).aK _
  have ow:gG B F aE 1 (.mk B.size 0 1 1) ([E f.u (E a.args 0)].map Ce.i):=gG.new (J.aB B) aE 1 _ 1 D
  obtain⟨M,A⟩:=y.ext z
  have Q:=G.to A
  have hz:j B.size=0:=y.cO.new _ (ad _)
  clear_value F
  refine(CT M.cO (ap.fV ow D) (λ_=>hz) (λaa hw=>?_) (λbb hc=>?_) D V).mono ?_
  ·simp at hw;subst hw;exact⟨ab.1,ax be⟩
  ·have:=C.ok.heap.cell bb hc;have T:=this.lo;have h6:=this.hi;omega
  rintro _ m4 ⟨a2,c4⟩
  obtain⟨P,L⟩:=M.fU (c4.mono λau hk=>Or.inl hk) a2
  have B4:=Q.to L
  have ay:E a.args 0<aR.length:=V
  have bw:0<=E aR (E a.args 0)/\E aR (E a.args 0)<=999999:=by
   have hm:=eW (c:=aR) w.1 ay;refine⟨hM.nn _ hm,?_⟩;have K:=og (c:=aR) w.1 ay;rw[aB]at K;obtain⟨qq,a3,a9⟩:=kQ _ _ _ _ K;have:=(C.NG qq (ar a3)).2;rw[<-aB]at a9;omega
  have bd:cW (E aR (E a.args 0)+1)=E aR (E a.args 0)+1:=aQ V V
  refine⟨L.dF Q,V,V,_,R P.cO.bY V,V,V,_,R P.cO.bY V,w.1,V,E aR (E a.args 0),(P.Ix (by simp only[];omega)).pu w.1 ay,w.1,V,P.fP.aR.Og w.1 ay,?_⟩
  rw[bd,e4]
  intro m5
  obtain⟨S5,t5⟩:=P.pJ w.1 ay (E aR (E a.args 0)+1)
  have B5:=B4.to t5
  refine⟨t5.dF B4,(jP (a:={c with heap:=jy c.heap [E f.u (E a.args 0)]}) S5 V (f.pc+1)).mono ?_⟩
  rintro _ m6 ⟨S6,t6⟩
  exact⟨t6.dF B5,j,aW,n,k,S6.cO,(((t2.trans A).trans L).trans t5).trans t6⟩
 simp only[ak]at a6
 rw[ae a6]
 have bb:a.args.length=1->a.args=[E a.args 0]:=λN=>by
  cases hx:a.args with
  |nil=>rw[hx]at N;simp at N
  |cons ay K=>cases K with
   |nil=>rfl
   |cons bd K=>rw[hx]at N;simp at N
 refine⟨λv=>?_,λay=>?_⟩
 ·simp only[aF]at v
  rw[ao v]
  have S:=H.2.1 V
  have w:=ac V
  have ht:bS b a=[E a.args 0]:=by unfold bS;rw[ao V];exact bb V
  have K:=a7.1
  rw[ht]at K
  refine⟨n,y.cO.box.cp 7,V,V,_,R y.cO.bY V,w.1,V,_,Y y w.1 w.2,?_⟩
  intro F
  have z:J B F:=(J.aB B).aK _
  have ow:gG B F aE 1 (.mk B.size 0 1 1) ([E f.u (E a.args 0)].map Ce.i):=gG.new (J.aB B) aE 1 _ 1 D
  obtain⟨M,A⟩:=y.ext z
  have Q:=G.to A
  clear_value F
  refine⟨z.cV (y.cO.box.cp 7),(FH M.cO.heap M.cO.new (ap.fV ow D) (e:=λX=>gN g X+dj f.u aR X) (K.congr λX=>rfl) a7.2 V).mono ?_⟩
  rintro _ m4 ⟨av,aG,rfl,a2,c4⟩
  obtain⟨P,L⟩:=M.fU c4 a2
  have B4:=Q.to L
  refine⟨L.dF Q,aG,rfl,P.cO.mg (i:=7) D,?_⟩
  intro m5
  obtain⟨S5,t5⟩:=P.je 7 [.s aG]
  have B5:=B4.to t5
  rw[e4]
  refine⟨t5.dF B4,(jP (a:={c with heap:=oX (iD c.heap [E f.u (E a.args 0)])}) S5 V (f.pc+1)).mono ?_⟩
  rintro _ m6 ⟨S6,t6⟩
  exact⟨t6.dF B5,av,aW,aG,k,S6.cO,(((t2.trans A).trans L).trans t5).trans t6⟩
 simp only[ak]at ay
 rw[ae ay]
 refine⟨λv=>?_,λav=>?_⟩
 ·simp only[bT,aF]at v
  rw[ao v]
  refine(HL y ha C.arg ⟨H.2.2.2.1 v,H.1⟩ v aZ aq V V (λaI K=>?_) (hM.Kv v).1 C.ok.heap).mono ?_
  ·refine⟨hM.nn aI K,?_⟩
   obtain⟨au,hk⟩:=List.mem_iff_getElem?.1 K
   simp only[]at hk
   rw[aB]at hk
   obtain⟨qq,a3,a9⟩:=kQ _ _ _ _ hk
   have:=(C.NG qq (ar a3)).2
   omega
  rintro _ F ⟨am,al,aj,ai,L3,A⟩
  exact⟨A.dF G,am,al,aj,ai,L3,t2.trans A⟩
 simp only[bz,ak]at av
 rw[ae V]
 refine⟨λv=>?_,λai=>?_⟩
 ·simp only[aF]at v
  rw[ao v]
  have S:=H.2.1 V
  have w:=ac V
  refine⟨V,V,_,R y.cO.bY V,w.1,V,_,Y y w.1 w.2,(tx y V hd.1 (by simp only[];omega) (by simp only[];omega) _).mono ?_⟩
  rintro _ F ⟨M,A⟩
  have Q:=G.to A
  rw[e4]
  refine⟨A.dF G,(jP M V (f.pc+1)).mono ?_⟩
  rintro _ m4 ⟨P,L⟩
  exact⟨L.dF Q,j,aW,n,k,P.cO,(t2.trans A).trans L⟩
 simp only[ak]at ai
 rw[ae ai]
 have Q:=y.rv aY V V (bg y)
 refine⟨λv=>?_,λL=>?_⟩
 ·simp only[aF]at v
  rw[ao v]
  have S:=H.2.1 V
  have w:=ac V
  obtain⟨ab,A⟩:=hM.load v
  have U:=hI.op
  unfold lG at U
  rw[ae V,ae V,ae V,ae V,ae V,ae V,ae V,ao v]at U
  refine⟨V,V,_,R y.cO.bY V,w.1,V,_,Y y w.1 w.2,(fG Q ab.1 (bZ ab).1).mono ?_⟩
  rintro _ F ⟨fl,rfl,K,z⟩
  have M:=K.len
  refine⟨z.dm (λX hb=>(G X hb).1),_,_,_,rfl,z.cV (Z.cp 2),z.cV (Z.cp 1),U.2.1,V,_,K.pu U.2.1 A,a5 z _ _ rfl⟩
 simp only[ak]at L
 rw[ae L]
 refine⟨λv=>?_,λM=>?_⟩
 ·simp only[aF]at v
  rw[ao v]
  have S:=H.2.1 V
  have w:=ac V
  refine⟨V,V,_,R y.cO.bY V,w.1,V,_,Y y w.1 w.2,λT=>?_,λT=>?_⟩
  ·simp at T;exact aV (J.aB _) _ _ (by rw[ao T])
  ·simp at T;rw[e4];exact aV (J.aB _) _ _ (by rw[ae T])
 simp only[ak]at M
 rw[ae M]
 refine⟨λv=>?_,λP=>?_⟩
 ·simp only[aF]at v
  rw[ao v]
  have S:=H.2.1 V
  have w:=ac V
  obtain⟨ab,aj⟩:=hM.xC v
  obtain⟨be,bu,a2,aI⟩:=PR aj
  have U:=hI.op
  unfold lG at U
  rw[ae V,ae V,ae V,ae V,ae V,ae V,ae V,ae V,ae V,ae V,ao v]at U
  have a3:qU (cq b.aT a.bN) (aJ c.heap (E f.u (E a.args 0))).jQ<(cq b.aT a.bN).length:=mh ⟨_,aj,D⟩
  have bd:=hj.len
  have a9:=U.2.2.1
  have aG:=(C.ok.heap.cell _ (ar (bZ ab).1)).qQ (bZ ab).2
  have bw:=C.ok.fe.mw.types.len
  refine⟨V,V,_,R y.cO.bY V,w.1,V,_,Y y w.1 w.2,(fG Q ab.1 (bZ ab).1).mono ?_⟩
  rintro _ F ⟨fl,rfl,K,z⟩
  have e7:cW (a.bN -1)=((a.bN.toNat -1:Nat):Int):=by rw[aQ V V];omega
  rw[e7]
  have al:=y.cO.bY.trans z
  refine⟨z.dm (λX hb=>(G X hb).1),_,_,_,rfl,d,z.af (y.cO.box.cp 0),(jX (aY.ext al).aT C.ok.fe.mw.types V).mono ?_⟩
  rintro _ m4 ⟨rfl,A⟩
  have am:=z.trans A
  have e8:cW ((aJ c.heap (E f.u (E a.args 0))).jQ -((fc b.aT (a.bN.toNat -1):Nat):Int))=((qU (cq b.aT a.bN) (aJ c.heap (E f.u (E a.args 0))).jQ:Nat):Int):=by
   rw[aQ V V];omega
  refine⟨A.dm (λX hb=>z.lt (G X hb).1),_,rfl,A.cV ((Z.ext z).cp 5),?_⟩
  rw[e8]
  refine⟨V,V,_,(hj.ext (al.trans A)).pu V V,aV am _ _ rfl⟩
 simp only[ak]at P
 rw[ae P]
 refine⟨λv=>aV (J.aB _) _ _ rfl,λw=>?_⟩
 simp only[ak]at w
 have:=C.YN
 omega
end
end
section
def S0(l a:List Int)(h:a.length=l.length):iX (l.map Ce.i) 0 (a.map Ce.i)=a.map Ce.i:=by
 have:=Bp [] (a.map Ce.i) (l.map Ce.i) bJ;simp only[dS,dY]at this;rw[this,Ig bJ,dI]
section
variable{p:I}{b:Nat->Nat}{m:I}{q e:Nat}{i:List Ce}{aW j g:O}{l:List Int}{k:List bX}{c:List aX}{f:aX}{r a h:O}{d:List (List Ce)}
def ST.TZ(S:ST p b m q e i aW j g l k c f r a h d){aR:List Int}(t:aR.length=f.aR.length)(w:0<aR.length):fH m a.F a.off (aR.map Ce.i).length/\ST p b (ai m a.F a.off (aR.map Ce.i)) q e i aW j g l k c {f with aR:=aR} r a h d/\To b m b (ai m a.F a.off (aR.map Ce.i)):=by
 have T:=S.fP;have B:a.cap≠0:=λe=>by have:=(T.aR.uf e).1;simp at this;rw[this]at t;simp at t;rw[t]at w;simp at w
 have A:=T.aR.F B;have s:dv (λu=>u=11+3*c.length) b m b (ai m a.F a.off (aR.map Ce.i)):=dv.ai S.cO.new A.2 _ _;have x:=T.aR.set (o:=0) (new:=aR.map Ce.i) bJ;rw[S0 _ _ t,ju]at x;have v:sL b (ai m a.F a.off (aR.map Ce.i)) g c {f with aR:=aR} r a h d:=⟨T.pS.eV s V,T.len,T.size,T.xL s λu _ y=>V,T.u.eV s V,x,T.bo.eV s V⟩;obtain⟨y,z⟩:=S.cO.jz (s.mono λu C=>V) v.ug;refine⟨?_,⟨y,v⟩,z⟩;have:=T.aR.wr (o:=0) (n:=(aR.map Ce.i).length) bJ;rw[ju]at this;exact this
end
section
variable{h:I}{e:Nat->Nat}{b:I}{g:Nat}{d p aW c a:O}{s:St}
def NS{k:cH}(N:tJ h e b g bQ (SB d p s aW c a) aW c a s.aW s.heap s.az)(K:eu h d p k)(z:dh k s)(aM:∀Q∈s.az,∀A∈Q.u,A<=9223372036854775807)(aP:s.heap.length<=900000000)(aV:s.aW.length<=900000000):
 aO cw 75 [vp g 0] b λ_ m'=>ye h e b g d p (mB k s) m':=by
 apply wh (g,0)
 simp -zeta only[aD,aC]
 refine⟨s.bU,N.box.cp 2,λU=>?_,λU=>?_⟩
 ·simp at U
  rw[lT U]
  exact⟨e,aW,c,a,N,dv.aB _ N.new⟩
 have ac:s.bU=3:=by simpa using U
 obtain⟨n,j,u⟩:=z.split ac
 have aS:s.az.getLast?=some j:=by rw[u];simp
 have aK:s.az.dropLast=n:=by rw[u];simp
 have C:yZ k s n j (dk k j):=⟨z,ac,u,rfl,aM⟩
 have a1:mB k s=(open Classical in if lK (dk k j).op/\s.bq=s.bA then{s with bU:=1}else if jD k s j (dk k j) (bC j.u j.aR (bS k (dk k j)))then eC k s n j (dk k j) (bC j.u j.aR (bS k (dk k j)))else{s with bU:=2}):=by
  unfold mB;rw[ae (by simpa using ac),aS,aK]
 rw[a1]
 generalize dk k j=x at*
 have L':tJ h e b g bQ (SB d p s aW c a) aW c a s.aW s.heap (n++[j]):=by rw[<-u];exact N
 obtain⟨W,M,T,aB,aa⟩:=L'.az.fP
 have S:ST h e b g bQ (SB d p s aW c a) aW c a s.aW s.heap n j W M T aB:=⟨L',aa⟩
 have a9:=aa.xH
 have an:=z.depth
 have a8:=z.bq
 have ba:=z.bA
 rw[u]at an
 have a_:n.length<=1000:=by simp at an;omega
 have e1:cW ((a.len:Int) -1)=(n.length:Int):=by rw[aQ V V];omega
 have e2:Int.toNat (n.length:Int)=n.length:=V
 have R:af b g 8=some (O.v a):=S.cO.box.cp 8
 obtain⟨g0,g1,g2,g3,g4,g5⟩:=aa.iP
 refine⟨a,R,a,R,?_⟩
 rw[e1,e2]
 refine⟨V,V,_,g0,_,g1,_,g2,W,g3,M,g4,T,g5,?_⟩
 intro m1
 have v:J b m1:=(J.aB b).aK _
 refine⟨v.cV g0,v.cV g1,v.cV g2,v.cV g3,v.cV g4,v.cV g5,v.cV R,v.cV R,?_⟩
 intro t
 have a2:J b t:=v.ai (ad _) _ _
 have s2:t.size=b.size+1:=by simp[t,m1,av]
 have kF:cF t b.size dB [.i j.eP,.i j.pc,.i j.dst,.s W,.s M,.s T]:=cF.ai (m:=m1) (o:=0) (r:=[.i j.eP,.i j.pc,.i j.dst,.s W,.s M,.s T]) (cF.push b _ _)
 obtain⟨P,t2⟩:=S.ext a2
 clear_value t
 obtain⟨bh,hq,aZ,hP,aJ,hI⟩:=C.I
 obtain⟨pa,pl,pc,bb,bd,ar,k0,k1,k2,k3,k4⟩:=K.cA.E hq
 obtain⟨aA,a3,ha,hj,i0,i1,i2,i3,i4,i5⟩:=ar.E aJ
 have be:=K.cA.len
 have bc:=ar.len
 have hF:=C.F
 have aY:=hF.eP
 have aq:=hF.pc
 rw[aZ]at aq
 have l:=P.cO.bY
 refine⟨p,P.cO.box.cp 1,aY.1,V,pc,l.af k4,aq.1,V,_,l.af i0,_,l.af i1,_,l.af i2,_,l.af i3,aA,l.af i4,a3,l.af i5,?_⟩
 intro m3
 have q:J t m3:=(J.aB t).aK _
 refine⟨q.cV (l.af i0),q.cV (l.af i1),q.cV (l.af i2),q.cV (l.af i3),q.cV (l.af i4),q.cV (l.af i5),q.cV (kF.cp 1),q.cV (l.af k4),q.cV (kF.cp 0),q.cV (P.cO.box.cp 1),?_⟩
 intro L
 have ah:J t L:=q.ai (ad _) _ _
 have s4:L.size=t.size+1:=by simp[L,m3,av]
 obtain⟨S4,t4⟩:=P.ext ah
 have a4:=kF.ext ah
 have B4:xZ e L [t.size,b.size]:=λag I=>by
  simp at I;rcases I with rfl|rfl
  ·exact⟨V,S.cO.new _ V⟩
  ·exact⟨V,S.cO.new _ (ad _)⟩
 clear_value L
 have a7:=t2.trans t4
 refine(KW _ _).mono ?_
 rintro _ m5 ⟨ag,rfl,I,ai⟩
 obtain⟨w,t5⟩:=S4.ext ai
 have X:=B4.to t5
 have B:=a4.ext ai
 have au:=a7.trans t5
 have aR:=C.LP
 have h4:=C.kY
 have ab:(bC j.u j.aR (bS k x)).length=j.aR.length:=jV _ _ _
 refine⟨t5.dF B4,ag,rfl,λaH=>⟨s.bq,w.cO.box.cp 4,s.bA,w.cO.box.cp 5,λH=>?_,λH=>?_⟩,λaG=>?_⟩
 ·simp at H
  refine⟨w.cO.mg (i:=2) D,?_⟩
  intro m6
  obtain⟨G,E⟩:=w.je 2 [.i 1]
  refine⟨E.dF X,e,aW,c,a,?_,au.trans E⟩
  rw[ao ⟨I.1 aH,H⟩]
  have:=G.cO
  rw[<-u]at this
  exact this
 all_goals
  have aI:¬(lK x.op/\s.bq=s.bA):=by
   first
   |exactλy=>by simp at H;exact H y.2
   |exactλy=>fb I aG y.1
  rw[ae aI]
  have am:=w.cO.bY
  refine⟨d,w.cO.box.cp 0,p,w.cO.box.cp 1,(Jy (K.ext am) C.call (ha.ext am) V h4.2.2.2.1).mono ?_⟩
  rintro _ m6 ⟨ts,rfl,ot,y⟩
  obtain⟨G,E⟩:=w.ext y
  have B6:=X.to E
  have bf:=Ia k x
  have it:ap m6 ts (bS k x):=ap.fV ot V
  refine⟨E.dF X,ts,rfl,y.cV (B.cp 0),y.cV (B.cp 1),y.cV (B.cp 2),y.cV (B.cp 3),y.cV (B.cp 4),y.cV (B.cp 5),?_⟩
  refine(HM (b:=j) (G.zQ V) (G.Ix V) it C.JI aR.1 V V (λA F=>by have:=C.NG A F;omega)).mono ?_
  rintro _ m7 ⟨os,rfl,oo,aF⟩
  obtain⟨A,t7⟩:=G.ext aF
  have B7:=B6.to t7
  have io:ap m7 os (bC j.u j.aR (bS k x)):=ap.fV oo V
  have aN:lF m7 a (n++[j]):=A.cO.az.Fv bJ (λQ Z=>by
   have F:=z.az Q (by rw[u];exact Z);obtain⟨pg,_,aj,Y,_⟩:=F.Im z.fe;have q1:=F.lr;have q2:=F.lo;have q3:=F.lh;rw[aj]at q1 q2 q3;have:=Y.u;omega)
  have ak:=A.rv K V V aN
  have a0:({s with az:=n++[j]}:St)=s:=by rw[<-u]
  rw[a0]at ak
  refine⟨t7.dF B6,os,rfl,(KY ak C (A.zQ V) (A.Qc V) (ha.ext A.cO.bY) io ab).mono ?_⟩
  rintro _ m8 ⟨b2,rfl,al,aj⟩
  obtain⟨Q,t8⟩:=A.ext aj
  have Y:=B7.to t8
  have aw:=((au.trans E).trans t7).trans t8
  refine⟨t8.dF B7,b2,rfl,λh9=>?_,λh9=>?_⟩
  ·rw[ae (nb al h9)]
   refine⟨Q.cO.mg (i:=2) D,?_⟩
   intro m9
   obtain⟨Z,F⟩:=Q.je 2 [.i 2]
   refine⟨F.dF Y,e,aW,c,a,?_,aw.trans F⟩
   have:=Z.cO
   rw[<-u]at this
   exact this
  ·have hM:=yb al h9
   rw[ao hM]
   have aU:=io.len
   have aT:M.len=j.aR.length:=by have:=Q.fP.aR.len;simp at this;omega
   obtain⟨w1,Z,F⟩:=Q.TZ ab V
   refine⟨(bC j.u j.aR (bS k x)).map Ce.i,by rw[aU,aT,ab];simp[Nat.min_def];omega,(io.ext aj).Hk,w1,?_⟩
   intro m9
   have B9:=Y.to F
   refine⟨F.dF Y,(Jq C rfl hM Z K ha hj aP aV).mono ?_⟩
   rintro _ bg aL
   obtain⟨a6,a5,aX,aE,ay,ax⟩:=aL
   exact⟨ax.dF B9,a6,a5,aX,aE,ay,(aw.trans F).trans ax⟩
end
end
section
variable{a:cH}{s:St}{n:Nat}
structure Sm(n:Nat)(s:St):Prop where
 heap:s.heap.length<=n
 aW:s.aW.length<=n
 Dj:∀g∈s.az,∀w∈g.u,w<=9223372036854775807
def Bf:∀(n:Nat)(h:List bX)(g:List Int),Df h+g.length<=n->(iD h g).length=h.length
 |n,h,[],_=>by rw[vu]
 |0,h,w::r,b=>by simp at b
 |n+1,h,w::r,b=>by
  simp only[aY]at b;rcases dL (gE h w)with a|a
  ·obtain⟨e,f⟩:=bZ a;by_cases c:(aJ h w).aS=1
   ·have d:=k8 (d:=jc) e;simp only[ao f,jc]at d;simp at d;rw[vv a c,Bf n _ _ (by simp[jc];omega)];simp
   ·have d:=k8 (d:={aJ h w with aS:=(aJ h w).aS -1}) e;simp only[ao f]at d;rw[ao V]at d;rw[sS a c,Bf n _ _ (by simp only[fg];omega)];simp[fg]
  ·rw[sT a,Bf n _ _ V]
def Pt(h:List bX):(oX h).length<=h.length:=by unfold oX;simp;omega
def KA:∀(a:List Int)(g:List bX),(jy g a).length=g.length
 |[],g=>rfl
 |w::a,g=>by rw[jy,KA a];simp[nl]
def Mr(h:List bX)(w:Int):(apart h w).length<=h.length:=by
 unfold apart;split
 ·exact cg (Pt _) D
 ·rw[KA];simp[fg]
def MI(h:List bX)(a:Nat)(c:bX):(iH h a c).length<=h.length+1:=by
 unfold iH;split<;>simp
def Ql{k:List aX}{f:aX}{x:Instr}(C:yZ a s k f x)(B:Sm n s)(hn:n<=900000000)(aR:List Int)(hM:jD a s f x aR):Sm (n+1) (eC a s k f x aR):=by
 have hh:=B.heap;have ho:=B.aW;have v:=B.Dj;rw[C.fr]at v;have hF:=C.F;have h4:=C.kY;have hd:=C.dst;have af:=C.LP;have t:∀r,E f.u r<=9223372036854775807:=λr=>by
  rcases be r.toNat f.u.length with m|m
  ·obtain⟨y,b⟩:=ag m;rw[JS b];exact v f D y (ar b)
  ·rw[E,fI,cY m];simp
 have xL:∀g∈k,∀w∈g.u,w<=9223372036854775807:=λg p=>v g (by simp[p]);have c:∀{g:aX},(∀w∈g.u,w<=9223372036854775807)->∀q∈k++[g],∀w∈q.u,w<=9223372036854775807:=λp q d=>by
  rcases List.mem_append.1 d with d|d
  ·exact xL q d
  ·simp at d;subst d;exact p
 have e:∀w∈f.u,w<=9223372036854775807:=v f D;have j:∀(J:Int),J<=9223372036854775807->∀w∈gF f.u x.dst J,w<=9223372036854775807:=λJ hv w b=>by
  rcases pD b with rfl|b
  ·exact hv
  ·exact e w b
 have ab:∀{w},iu w\/gE s.heap w->w<=9223372036854775807:=λh=>by
  rcases h with h|h
  ·have:=h.2;omega
  ·have m:=ax (bZ h).1;unfold ix at m;omega
 have I:∀(g M:Int)(K:List Int),(∀w∈K,w<=9223372036854775807)->∀w∈(br a g M K).u,w<=9223372036854775807:=λg M K b w h=>by
  simp only[br]at h;rcases List.mem_append.1 h with h|h
  ·exact b w h
  ·rw[qj h];omega
 have JA:∀{g q:aX},(∀w∈g.u,w<=9223372036854775807)->(∀w∈q.u,w<=9223372036854775807)->∀L∈k++[g,q],∀w∈L.u,w<=9223372036854775807:=λp d L o=>by
  rcases List.mem_append.1 o with o|o
  ·exact xL L o
  ·simp at o;rcases o with rfl|rfl
   ·exact p
   ·exact d
 have aa:∀w∈cv f x.args,w<=9223372036854775807:=λw b=>by
  obtain⟨r,_,rfl⟩:=List.mem_map.1 b;exact t r
 have ac:=qb s.heap;unfold eC;simp only[];by_cases y:x.op=0
 ·rw[ao y];exact⟨by simp only[];omega,by simp only[];omega,c (j _ (by have:=h4.2.2.2.2.2.2 y;omega))⟩
 rw[ae y];by_cases N:x.op=1\/x.op=2\/x.op=3\/x.op=4
 ·rw[ao N];exact⟨by simp only[];omega,by simp only[];omega,c (j _ (by have:=(Pa x.op (E f.u (E x.args 0)) (E f.u (E x.args 1))).2;omega))⟩
 rw[ae N];by_cases Y:x.op=5
 ·rw[ao Y];exact⟨by simp only[];omega,bJ,c (j _ (t _))⟩
 rw[ae Y];by_cases A:x.op=6
 ·rw[ao A];split
  ·refine⟨bJ,by simp only[];omega,c (j _ ?_)⟩;rename_i u;have G:=h4.2.2.2.2.1 A;obtain⟨H,F,z,_⟩:=C.Kk _ (eW (c:=f.bo) (i:=x.bW -1) V V) u.2;have:=ax z;unfold ix at this;omega
  ·refine⟨?_,by simp only[];omega,c (j _ V)⟩;have:=MI s.heap (dA s.heap) ⟨1,x.bN,cv f x.args⟩;simp only[];omega
 rw[ae A];by_cases O:x.op=10
 ·rw[ao O];refine⟨?_,by simp only[];omega,c (j _ V)⟩;have:=MI s.heap (dA s.heap) ⟨1,bI a+x.bN,cv f x.args⟩;simp only[];omega
 rw[ae O];by_cases P:x.op=14
 ·rw[ao P];exact⟨by simp[nl];omega,by simp only[];omega,c e⟩
 rw[ae P];by_cases Q:x.op=15
 ·rw[ao Q];refine⟨?_,by simp only[];omega,c e⟩;have m:=Pt (iD s.heap [E f.u (E x.args 0)]);rw[Bf _ _ _ (ad _)]at m;simp only[];omega
 rw[ae Q];by_cases R:x.op=16\/x.op=17
 ·rw[ao R];split
  ·exact⟨bJ,by simp only[];omega,c e⟩
  ·refine⟨?_,by simp only[];omega,c e⟩;have:=Mr s.heap (E f.u (E x.args 0));simp only[];omega
 rw[ae R];by_cases S:x.op=18
 ·rw[ao S];exact⟨by simp only[];omega,by simp only[];omega,c (j _ (t _))⟩
 rw[ae S];by_cases u:x.op=19
 ·rw[ao u];refine⟨by simp only[];omega,by simp only[];omega,c (j _ ?_)⟩;obtain⟨G,U⟩:=hM.load u;obtain⟨W,_,_,_,_,T⟩:=C.I;have z:=T.op;unfold lG at z;rw[ae V,ae V,ae V,ae V,ae V,ae V,ae V,ao u]at z;obtain⟨F,H⟩:=bZ G;exact ab (((C.ok.heap.cell _ (ar F)).qQ H).1 _ (eW z.2.1 U))
 rw[ae u];by_cases T:x.op=20
 ·rw[ao T];exact⟨by simp only[];omega,by simp only[];omega,c e⟩
 rw[ae T];by_cases U:x.op=21
 ·rw[ao U];exact⟨by simp only[];omega,by simp only[];omega,c e⟩
 rw[ae U];by_cases W:x.op=22
 ·rw[ao W];exact⟨by simp only[];omega,by simp only[];omega,c e⟩
 rw[ae W];by_cases Z:x.op=9
 ·rw[ao Z];exact⟨by simp only[];omega,by simp only[];omega,JA e (I _ _ _ aa)⟩
 rw[ae Z];by_cases X:x.op=24
 ·rw[ao X];exact⟨by simp only[];omega,by simp only[];omega,c (I _ _ _ aa)⟩
 rw[ae X];by_cases z:x.op=11
 ·rw[ao z];refine⟨?_,by simp only[];omega,JA e (I _ _ _ λw b=>?_)⟩
  ·have:=Mr s.heap (E f.u (E x.args 0));simp only[];omega
  ·rcases List.mem_append.1 b with b|b
   ·obtain⟨G,_⟩:=hM.apply z;obtain⟨F,H⟩:=bZ G;exact ab (((C.ok.heap.cell _ (ar F)).qQ H).1 _ b)
   ·simp at b;subst b;exact t _
 rw[ae z];split
 ·exact⟨by simp only[];omega,by simp only[];omega,D⟩
 ·rename_i F G;refine⟨by simp only[];omega,by simp only[];omega,λq d=>?_⟩;have H:F∈k:=List.mem_of_getLast? G;rcases List.mem_append.1 d with d|d
  ·exact xL q ((List.dropLast_sublist k).subset d)
  ·simp at d;subst d;intro w b;rcases pD b with rfl|b
   ·exact t _
   ·exact xL F H w b
def Ur(h:dh a s)(c:Sm n s)(l:n<=900000000):Sm (n+1) (mB a s):=by
 have b:Sm (n+1) s:=⟨by have:=c.heap;omega,by have:=c.aW;omega,c.Dj⟩;by_cases d:s.bU=3
 ·obtain⟨g,f,e⟩:=h.split d;have k:s.az.getLast?=some f:=by rw[e];simp
  have j:s.az.dropLast=g:=by rw[e];simp
  have C:yZ a s g f (dk a f):=⟨h,d,e,rfl,c.Dj⟩;unfold mB;rw[ae (by simpa using d),k,j];simp only[];split
  ·exact⟨b.heap,b.aW,b.Dj⟩
  split
  ·rename_i i;exact Ql C c l _ i
  ·exact⟨b.heap,b.aW,b.Dj⟩
 ·rw[lT d];exact b
def AY{a:cH}:∀(k:Nat){s:St}{n:Nat},dh a s->Sm n s->n+k<=900000000->Sm (n+k) (aA a k s)
 |0,s,n,_,b,_=>b
 |k+1,s,n,h,b,c=>by
  have:=AY k (NV h) (Ur h b V) V;rw[aA];have e:n+(k+1)=n+1+k:=V;rw[e];exact this
def wy(a:cH)(bA:Int):Sm 0 (fj a bA):=⟨by simp[fj],by simp[fj],λg b w c=>by
 simp[fj]at b;subst b;simp only[br,dS]at c;rw[qj c];omega⟩
end
section
variable{a:cH}
section
variable{c:I}{e:Nat->Nat}{m:I}{b:Nat}{d p aW g f:O}{s:St}
def Po(L:tJ c e m b bQ (SB d p s aW g f) aW g f s.aW s.heap s.az)(G:eu c d p a)(x:dh a s){z:Nat}(F:Sm z s)(h:Nat)(M:h<=100000)(N:z<=500000000):
 aO cw 59 [vp b 0,vi h] m λJ u=>(∃i:Int,J=vi i)/\ye c e m b d p (aA a h s) u:=by
 apply xk (b,0)
 refine⟨λo u=>∃k:Nat,o=k/\k<=h/\ye c e m b d p (aA a k s) u,λo _=>((h:Int) -o).toNat,⟨0,rfl,eJ _,e,aW,g,f,L,dv.aB _ L.new⟩,?_⟩
 rintro o O ⟨k,rfl,K,B,A,y,w,l,v⟩
 have H:=rp k x
 have t:=AY k x F V
 refine dit (λD=>?_) λD=>?_
 ·refine⟨_,l.box.cp 2,λr=>?_,λr=>?_⟩
  ·refine(NS l G H t.Dj (by have:=t.heap;omega) (by have:=t.aW;omega)).mono ?_
   rintro _ j i
   have q:cW ((k:Int)+1)=((k+1:Nat):Int):=ka (n:=h) V V
   rw[q]
   refine⟨⟨k+1,rfl,V,by rw[oF];exact i.from v⟩,?_⟩
   show((h:Int) -((k+1:Nat):Int)).toNat<((h:Int) -(k:Int)).toNat
   omega
  ·simp at r
   have q:aA a h s=aA a k s:=by
    have E:h=k+(h -k):=V;have C:∀(i j:Nat)(s:St),aA a (i+j) s=aA a j (aA a i s):=by
     intro i;induction i with
     |zero=>intro j s;simp[aA]
     |succ i I=>intro j s;rw[Nat.succ_add];simp only[aA];exact I j _
    rw[E,C,ms _ r]
   rw[q]
   exact⟨⟨_,rfl⟩,B,A,y,w,l,v⟩
 ·have:k=h:=V
  subst this
  exact⟨⟨_,rfl⟩,B,A,y,w,l,v⟩
end
def En{m:I}{z L:O}(S:eu m z L a)(E:gP a)(bA:Int):
 aO cw 58 [.agg #[O.v z,O.v L],vi bA] m λaa n=>∃aW t A,aa=.agg #[vi 3,vi 0,vi 0,vi bA,O.v aW,O.v t,O.v A]/\J m n/\∃e f g c d,aW.cap=0/\aW.len=0/\t.cap=0/\t.len=0/\A=.mk c 0 1 1/\
  o8 m n e f g d (br a 0 0 []).u (br a 0 0 []).aR (br a 0 0 []).bo/\(c≠e/\c≠f/\c≠g/\m.size<=c/\c<n.size)/\cF n c dB [.i 0,.i 0,.i 0,.s (.mk e 0 d d),.s (.mk f 0 d d),.s (.mk g 0 d d)]:=by
 apply yQ
 simp -zeta only[aD,aC]
 intro o G H w x j
 have B:J m j:=((((((J.aB m).aK _).aK _).aK _).aK _).aK _).aK _
 have U:o.size=m.size+1:=by simp[o]
 have W:G.size=m.size+2:=by simp[G,U]
 have X:H.size=m.size+3:=by simp[H,W]
 have Y:w.size=m.size+4:=by simp[w,X]
 have Z:x.size=m.size+5:=by simp[x,Y]
 have s6:j.size=m.size+6:=by simp[j,Z]
 clear_value j
 have hl:=E.mw.len
 obtain⟨q,u⟩:=ag (l:=a.cA) (k:=0) V
 have ac:=(E.dt q (ar u)).u
 have v:dx a 0=q:=by simp[dx,u]
 have K:∀b,ap j (.mk b 0 0 0) []:=λb=>⟨rfl,D,D,D⟩
 refine(xS (S.ext B) (cE 0) u V 0 (K w.size) (K x.size) bJ rfl).mono ?_
 rintro _ h ⟨e,f,g,rfl,N⟩
 have s:=N.ext
 have ab:=N.lo
 refine⟨s.dm bJ,_,_,_,_,_,_,rfl,?_⟩
 intro i y
 have C:J h i:=(J.aB h).aK _
 have s8:i.size=h.size+1:=by simp[i]
 have s9:y.size=i.size:=av _ _ _ _
 have ad:=s.size
 have T:cF i h.size dB [.i 0,.i 0,.i 0,.s (.mk e 0 q.u.toNat q.u.toNat),.s (.mk f 0 q.u.toNat q.u.toNat),.s (.mk g 0 q.u.toNat q.u.toNat)]:=cF.push h _ _
 have r:=N.OO C
 have F:J m y:=(B.trans (s.trans C)).ai (show m.size<=o.size by omega) _ _
 have p:∀b,b≠o.size->y[b]? =i[b]? :=λb R=>bd _ _ _ _ R
 have Q:(br a 0 0 []).u=[]++cZ (q.u.toNat -([]:List Int).length):=by simp[br,v]
 have P:(br a 0 0 []).aR=[]++cZ (q.u.toNat -([]:List Int).length):=by simp[br,v,dD]
 have M:(br a 0 0 []).bo=cZ q.u.toNat:=by simp[br,v]
 refine⟨_,_,_,rfl,F,e,f,g,h.size,q.u.toNat,rfl,rfl,rfl,rfl,rfl,?_,V,T.congr (p _ V)⟩
 rw[Q,P,M]
 exact⟨F,V,r.kr.congr (p _ V),r.ko.congr (p _ V),r.kh.congr (p _ V),N.len⟩
def Tb{t q m:I}{y:Nat}{Lr:List Ce}{aW p s:O}{bA:Int}{d e g b k l:Nat}(i:aW.cap=0/\aW.len=0/\p.cap=0/\p.len=0/\s=.mk b 0 1 1)
 (N:o8 t q d e g k (br a 0 0 []).u (br a 0 0 []).aR (br a 0 0 []).bo)(P:b≠d/\b≠e/\b≠g/\t.size<=b/\b<q.size)(M:cF q b dB [.i 0,.i 0,.i 0,.s (.mk d 0 k k),.s (.mk e 0 k k),.s (.mk g 0 k k)])
 (j:J q m)(R:q.size<=l)(A:cF m l y (Lr++[.i 3,.i 0,.i 0,.i bA,.s aW,.s p,.s s])):
 tJ t (pT (pT (mF (λ_=>0) d e g 0) b 4) l 1) m l y (Lr++[.i 3,.i 0,.i 0,.i bA,.s aW,.s p,.s s]) aW p s [] [] [br a 0 0 []]:=by
 have Q:=N.lo
 have L:J t m:=N.ext.trans j
 have S:=A.lt
 have T:=N.ext.size
 have x:∀c,c≠l->c≠b->(pT (pT (mF (λ_=>0) d e g 0) b 4) l 1) c=mF (λ_=>0) d e g 0 c:=λc v w=>by rw[eM v,eM w]
 have C:=N.OO j
 obtain⟨F,G,H⟩:=C.pS (a:=λ_=>0) (v:=0)
 have conv:∀{z:Nat}{u:O}{B:List Ce},gY (mF (λ_=>0) d e g 0) m aE 1 z u B->u.F≠l->u.F≠b->gY (pT (pT (mF (λ_=>0) d e g 0) b 4) l 1) m aE 1 z u B:=λE v w=>E.dW (λ_=>rfl) (λ_=>x _ v w)
 refine⟨L,λc K=>?_,λc K=>?_,A,gJ _ _ _,⟨by simp[i.2.1],by rw[i.1,i.2.1];exact ad _,Or.inl i.1⟩,⟨[],⟨by simp[i.2.2.2.1],by rw[i.2.2.1,i.2.2.2.1];exact ad _,Or.inl i.2.2.1⟩,gD.nil _ _,WA.nil⟩,?_⟩
 ·rw[x c V V];unfold mF;rw[eM V,eM V,eM V]
 ·rw[x c (by have:=j.size;omega) (by have:=j.size;omega)];unfold mF;rw[eM (by have:=j.size;omega),eM (by have:=j.size;omega),eM (by have:=j.size;omega)]
 ·refine sL.ug (a:=[]) (f:=br a 0 0 []) (r:=.mk d 0 k k) (j:=.mk e 0 k k) (h:=.mk g 0 k k) (k:=[]) ⟨?_,rfl,D,D,conv F (by simp only[O.jm];omega) (by simp only[O.jm];omega),conv G (by simp only[O.jm];omega) (by simp only[O.jm];omega),conv H (by simp only[O.jm];omega) (by simp only[O.jm];omega)⟩
  rw[i.2.2.2.2]
  refine⟨rfl,ad _,Or.inr ⟨b,1,[],rfl,?_,?_,rfl⟩⟩
  ·rw[eM V,gJ]
  ·rw[dI];exact M.ext j
end
section
variable{a:cH}{b:I}{d p:O}
def Q4(a:cH)(bA:Int):∃s,s=aA a 100000 (fj a bA):=⟨_,rfl⟩
noncomputable def gV (a:cH) (bA:Int):St:=Classical.choose (Q4 a bA)
def qy(a:cH)(bA:Int):gV a bA=aA a 100000 (fj a bA):=eS (Q4 a bA)
def Br{bA:Int}(h:gP a)(c:0<=bA/\bA<=40):dh a (gV a bA)/\Sm 100000 (gV a bA)/\(gV a bA).bU≠3:=by
 have b:=nP h c;rw[qy];refine⟨rp _ b,?_,Lc _ b (by have:=Qw h c;omega)⟩;have:=AY 100000 b (wy a bA) V;rw[cC]at this;exact this
def I8(x:eu b d p a)(q:gP a){bA:Int}(y:0<=bA/\bA<=40):
 aO cw 35 [.agg #[O.v d,O.v p],vi bA] b λY B=>∃aW r k,Y=.agg #[vi (gV a bA).bU,vi (gV a bA).value,vi (gV a bA).bq,vi (gV a bA).bA,O.v aW,O.v r,O.v k]/\ap B aW (gV a bA).aW/\J b B:=by
 apply DU
 simp -zeta only[aD,aC]
 intro f e
 have t:J b e:=((J.aB b).aK _).aK _
 have W:f.size=b.size+1:=by simp[f]
 have s2:e.size=b.size+2:=by simp[e,W]
 have A:cF e b.size qP [.s d,.s p]:=(cF.push b _ _).ext (J.push f _)
 clear_value e
 have o:∀g∈[f.size,b.size],g<e.size:=bJ
 refine(En (x.ext t) q bA).mono ?_
 rintro _ h ⟨aW,r,k,rfl,l,Z,b2,b3,b4,ab,P,Q,R,S,T,N,U,K⟩
 refine⟨l.dm o,_,_,_,_,_,_,_,rfl,l.cV (A.cp 0),l.cV (A.cp 1),?_⟩
 intro i
 have F:J h i:=(J.aB h).aK _
 have L:cF i h.size bQ ([.s d,.s p]++[.i 3,.i 0,.i 0,.i bA,.s aW,.s r,.s k]):=cF.push h _ _
 have j:=Tb (t:=e) ⟨P,Q,R,S,T⟩ N U K F (ad _) L
 clear_value i
 have G:xZ _ i [f.size,b.size]:=λg w=>⟨j.bY.lt (o g w),j.jK g (o g w)⟩
 refine(Po (s:=fj a bA) j (x.ext t) (nP q y) (wy a bA) 100000 (ad _) V).mono ?_
 rintro _ m5 ⟨⟨M,rfl⟩,ac,u,z,v,c,X⟩
 rw[<-qy]at c
 have aa:=(Br q y).2.1.aW
 refine⟨X.dF G,M,rfl,_,c.box.cp 2,_,c.box.cp 3,_,c.box.cp 4,_,c.box.cp 5,u,c.box.cp 6,z,c.box.cp 7,v,c.box.cp 8,?_⟩
 intro m6
 have I:=t.trans c.bY
 refine⟨u,z,v,rfl,gL (c.aW.mZ V) λH=>bd _ _ _ _ λC=>?_,I.ai V _ _⟩
 have n:u.cap≠0:=λn=>by have:=(c.aW.uf n).1;simp at this;exact H this
 have D:=(c.aW.F n).2
 have E:=c.jK f.size V
 rw[C,E]at D
 omega
structure YC where
 bU:Int
 value:Int
 bq:Int
 aW:List Int
 ok:Bool
open Classical in
noncomputable def fB (a:cH) (bA:Int):YC:=
 if gP a/\0<=bA/\bA<=40 then⟨(gV a bA).bU,(gV a bA).value,(gV a bA).bq,(gV a bA).aW,true⟩else⟨0,0,0,[],false⟩
def TE(b a:I)(x:YC)(v:Value):Prop:=∃aW,v=.tuple #[.agg #[vi x.bU,vi x.value,vi x.bq,O.v aW],vb x.ok]/\gG b a aE 1 aW (x.aW.map Ce.i)/\J b a
def FW{d f g e:Int}{aW m k:O}{l:List Int}(r:ap b aW l)(p:l.length<=1000000000):
 aO cw 34 [.agg #[vi d,vi f,vi g,vi e,O.v aW,O.v m,O.v k]] b λv o=>∃q,v=.agg #[vi d,vi f,vi g,O.v q]/\gG b o aE 1 q (l.map Ce.i)/\J b o:=by
 apply AF
 simp -zeta only[aD,aC]
 intro i c
 have n:J b c:=((J.aB b).aK _).aK _
 have s:i.size=b.size+1:=by simp[i]
 have w:c.size=b.size+2:=by simp[c,s]
 have h:cF c b.size iz [.i d,.i f,.i g,.i e,.s aW,.s m,.s k]:=(cF.push b _ _).ext (J.push i _)
 clear_value c
 refine(lp (r.ext n) p).mono ?_
 rintro _ t ⟨q,rfl,j,a⟩
 refine⟨a.dm bJ,q,rfl,a.cV (h.cp 2),a.cV (h.cp 1),a.cV (h.cp 0),?_⟩
 intro u
 refine⟨q,rfl,?_,(n.trans a).ai V _ _⟩
 rcases j.F with e|e
 ·subst e;exact⟨j.len,Or.inl rfl⟩
 ·exact(j.congr (bd _ _ _ _ V)).bY V
def IV(x:eu b d p a)(bA:Int):aO cw 10 [.agg #[O.v d,O.v p],vi bA] b λK F=>TE b F (fB a bA) K:=by
 apply DG;simp -zeta only[aD,aC];intro g f;have k:J b f:=((J.aB b).aK _).aK _;have H:g.size=b.size+1:=by simp[g]
 have U:f.size=b.size+2:=by simp[f,H]
 clear_value f;have j:∀c∈[g.size,b.size],c<f.size:=bJ;have y:∀{r:I},J f r->¬(gP a/\0<=bA/\bA<=40)->TE b (ai r g.size 0 [.i (0:Int),.i (0:Int),.i (0:Int),.s O.nil]) (fB a bA) (.tuple #[.agg #[vi (0:Int),vi (0:Int),vi (0:Int),O.v O.nil],vb false]):=λi B=>by
  rw[fB,ae B];exact⟨.nil,rfl,gG.nil _ _ _ _,(k.trans i).ai V _ _⟩
 refine(Er (x.ext k)).aI (J.aB _) j λc r e i _=>⟨c,rfl,λm=>y i (λl=>nb e m l.1),λm=>?_⟩;have q:=yb e m;refine(bF _ _ _ _).aI i j λz Q w M h=>⟨z,rfl,λn=>y h (λl=>nb w n l.2),λn=>?_⟩;have o:=yb w n;have D:=k.trans h;refine(I8 (x.ext D) q o).mono ?_;rintro _ R ⟨aW,N,L,rfl,E,u⟩;have l:=h.trans u;have P:=(Br q o).2.1.aW;refine⟨u.dm (λc e=>h.lt (j c e)),_,_,_,_,_,_,_,rfl,(FW E V).mono ?_⟩;rintro _ S ⟨G,rfl,s,v⟩;have A:=l.trans v;refine⟨v.dm (λc e=>l.lt (j c e)),_,_,_,_,rfl,?_⟩;intro T;rw[fB,ao ⟨q,o⟩];have C:b.size<=g.size:=V;generalize gV a bA=st at*;refine⟨G,rfl,?_,(k.trans A).ai C _ _⟩;have:=l.size;rcases s.F with t|t
 ·subst t;exact⟨s.len,Or.inl rfl⟩
 ·exact(s.congr (bd _ _ _ _ V)).bY V
end
section
variable{m:I}{s:O}{a:List Int}{h:List bX}{w:Int}{b:Nat}
def eF(d:ap m s a)(n:a.length<=1000000000):nY 77 [O.v s] m a:=by
 apply tm;have c:=d.len;refine⟨λh=>?_,λh=>?_⟩
 ·cases s with
  |nil=>simp at c;have:a=[]:=List.length_eq_zero_iff.1 c.symm;subst this;exact⟨.nil,rfl,gG.nil _ _ _ _,J.aB _⟩
  |mk b o f e=>simp at h
  |zn b o e=>simp at h
 ·intro e;have b:J m e:=(J.aB m).aK _;have g:gG m e aE 1 (.mk m.size 0 0 0) []:=gG.new (J.aB m) aE 1 [] 0 D;refine gG.append (c:=[.i 0]) (i:=a.map Ce.i) g b (by simp[c]) (d.ext b).Hk bJ λr o b f i j k l=>⟨r,rfl,by simpa using b,f⟩
def rV(j:ap m s a)(c:Int):aO cw 105 [O.v s,vi c] m λv o=>∃r:Int,v=vi r/\J m o/\((r= -1/\c∉a)\/(c∈a/\r=qU a c)):=by
 apply tp;have p:=j.len;refine eU (n:=a.length) (p▸j.fS) (λi o=>J m o/\c∉a.take i) ⟨J.aB _,D⟩ ?_;rintro i y I μ w ⟨g,f⟩ t
 refine dit (λh=>?_) λh=>?_
 ·obtain⟨x,e⟩:=ag (l:=a) (k:=i) V;refine⟨V,V,x,by simpa using g.af (j.E e),λd=>?_,λd=>t V _ ⟨g,?_⟩⟩
  ·simp at d;subst d;refine⟨_,rfl,g,Or.inr ⟨ar e,?_⟩⟩;have:qU a c=i:=by
    unfold qU;rw[List.findIdx_eq (ax e)];refine⟨by have:=(List.getElem?_eq_some_iff.1 e).2;simp[this],λq u=>?_⟩;simp;intro b;apply f;rw[<-b];exact List.mem_take_iff_getElem.2 ⟨q,V,rfl⟩
   rw[this]
  ·rw[bn e];simp at d;intro b;rcases List.mem_append.1 b with b|b
   ·exact f b
   ·simp at b;exact d b
 ·rw[cN V]at f;exact⟨_,rfl,g,Or.inl ⟨rfl,f⟩⟩
def lQ(d:ap m s a)(n:Int):dJ cw 144 [O.v s,vi n] m (n∈a):=by
 apply rc;refine(rV d n).mono ?_;rintro _ g ⟨r,rfl,e,h⟩;refine⟨_,rfl,ft ?_ e⟩;simp only[Gu,au];rcases h with⟨rfl,h⟩|⟨c,f⟩
 ·exact⟨λb=>V,λb=>absurd b h⟩
 ·exact⟨λ_=>c,λ_=>V⟩
def BJ{t:O}{r:List Int}(g:ap m s a)(o:ap m t r):dJ cw 147 [O.v s,O.v t] m (a=r):=by
 apply tn;have p:=g.len;have v:=o.len;refine⟨λh=>cK (λf=>by subst f;simp at h;omega) (J.aB _),λh=>?_⟩;simp at h;refine eU (n:=a.length) (p▸g.fS) (λe b=>J m b/\a.take e=r.take e) ⟨J.aB _,D⟩ ?_;rintro e w I μ u ⟨c,j⟩ q
 refine⟨λh=>?_,λh=>jG (by simp at h;rwa[cN V,cN V]at j) c⟩;simp only[au]at h;obtain⟨x,i⟩:=ag (l:=a) (k:=e) V;obtain⟨y,d⟩:=ag (l:=r) (k:=e) V;refine⟨V,V,x,by simpa using c.af (g.E i),V,V,y,by simpa using c.af (o.E d),λb=>cK (λf=>?_) c,λb=>q V _ ⟨c,?_⟩⟩
 ·subst f;rw[i]at d;simp at d;simp at b;exact b d
 ·rw[bn i,bn d,j];simp at b;rw[b]
def gT{a:O}(i:dN m a h)(y:w<=9223372036854775807):
 aO cw 123 [O.v a,vi w] m λv r=>∃(j:Int)(e:Bool),v=.tuple #[vi j,vb e]/\(e=true<->gE h w)/\(e=true->j=ix w)/\J m r:=by
 apply Fi
 have n:=i.len
 have x:=i.fS
 refine⟨λc=>?_,λc=>?_⟩
 ·simp at c
  have o:cW (w -1000)=w -1000:=aQ V V
  have q:(ix w:Int)=w -1000:=by unfold ix;omega
  rw[o]
  refine⟨λg=>?_,λg=>?_⟩
  ·simp at g
   obtain⟨f,b⟩:=ag (l:=h) (k:=(w -1000).toNat) V
   obtain⟨t,u,p,_⟩:=i.E b
   refine⟨V,V,f.aS,p,_,_,rfl,?_,λ_=>q.symm,J.aB _⟩
   simp only[kU,au]
   refine⟨λa=>⟨c,f,b,a⟩,λ⟨_,s,d,a⟩=>?_⟩
   unfold ix at d
   rw[b]at d;simp at d;subst d;exact a
  ·simp at g
   refine⟨_,_,rfl,⟨λh=>by simp at h,λ⟨_,f,b,_⟩=>?_⟩,λh=>by simp at h,J.aB _⟩
   have:=ax b
   omega
 ·simp at c
  exact⟨_,_,rfl,⟨λh=>by simp at h,λn=>by have:=n.1;omega⟩,λh=>by simp at h,J.aB _⟩
def Kh{a:O}(f:af m b 8=some (O.v a))(g:dN m a h)(i:w<=9223372036854775807):dJ cw 92 [vp b 0,vi w] m (gE h w):=by
 apply tL (b,0);refine⟨a,f,(gT g i).mono ?_⟩;rintro _ k ⟨c,d,rfl,e,_,j⟩;exact⟨c,d,rfl,ft e j⟩
def Dv(g:ap m s a)(t:a.length<=100000000):nY 148 [O.v s] m (kL a):=by
 apply yr;have r:=g.len;refine dU (n:=a.length) V (λd s b=>J m b/\gG m b aE 1 s ((kL (a.take d)).map Ce.i)) ⟨J.aB _,by simpa[kL]using gG.nil m m aE 1⟩ ?_;rintro d s u I μ q ⟨c,b⟩ i
 refine dit (λh=>?_) λh=>?_
 ·obtain⟨x,e⟩:=ag (l:=a) (k:=d) V;refine⟨V,V,x,by simpa using c.af (g.E e),λf=>?_,λj=>?_⟩
  ·intro v;refine nK b c (by have:=nM (a.take d);simp at this;omega) λy w o p=>i V _ _ ⟨p,?_⟩
   rw[bn e,oP];have:kL [x]=[x]:=by simp at f;simp[kL,f]
   rw[this];exact o
  ·refine i V _ _ ⟨c,?_⟩
   rw[bn e,oP];have:kL [x]=[]:=by simp at j;simp[kL];omega
   rw[this,dI];exact b
 ·rw[cN V]at b;exact⟨s,rfl,b,c⟩
def xI(i:ap m s a):dJ cw 94 [O.v s] m (Rc a):=by
 apply Dp;refine(iK i 145 #[] #[] bh (λx=>x≠0) (λx _ j e=>?_)).then λb k g e=>⟨b,rfl,ft ?_ e⟩
 ·simp only[dS,dI];apply zw;exact ft D (J.aB _)
 ·have f:(!b)=true<->¬(b=true):=D;rw[f,g];unfold Rc;constructor
  ·intro h n d;exact dK λc=>h ⟨n,d,c⟩
  ·rintro h ⟨n,d,c⟩;exact c (h n d)
def vA{an aa:O}{d:cH}(ah:eu m an aa d)(g1:af m b 1=some (O.v aa)){x:Instr}(hc:y9 d x){r o:O}(H:ap m r x.args)(aQ:x.args.length<=1000000)(aq:(x.op=16\/x.op=17)->1<=x.args.length):
 aO cw 91 [vp b 0,xv x r o] m λaG m'=>∃z a,aG=.tuple #[O.v z,O.v a]/\ap m' z (bS d x)/\ap m' a (if x.op=9\/x.op=24 then fx d x 0 x.args else[])/\J m m'/\(z=.nil\/z.F=r.F\/m.size<=z.F)/\(a=.nil\/m.size<=a.F):=by
 apply sq (b,0)
 simp -zeta only[aD,aC]
 intro f
 have C:J m f:=(J.aB m).aK _
 have Y:∀s∈[m.size],s<f.size:=by simp[f]
 have s1:f.size=m.size+1:=by simp[f]
 have ac:=H.len
 have aJ:=H.cap
 have X:ap f .nil []:=⟨rfl,D,D,D⟩
 clear_value f
 refine⟨λe=>?_,λt=>⟨λe=>?_,λA=>⟨λe=>?_,λv=>?_⟩⟩⟩
 ·simp only[bT,aF]at e
  refine⟨r,.nil,rfl,?_,by rw[ae V];exact X,C,Or.inr (Or.inl rfl),Or.inl rfl⟩
  unfold bS;rw[ao V];exact H.ext C
 ·simp only[bT,aF]at e
  simp only[bz,ak]at t
  have i:=aq e
  refine⟨V,V,V,_,.nil,rfl,?_,by rw[ae V];exact X,C,Or.inr (Or.inl ?_),Or.inl rfl⟩
  ·unfold bS;rw[ae V,ao e]
   exact eH.Rl (H.ext C) i
  ·cases r with
   |nil=>simp at ac;omega
   |zn s c g=>simp at ac;omega
   |mk s c a g=>rfl
 ·simp only[bT,aF]at e
  simp only[bz,ak]at t A
  obtain⟨h0,aR,T⟩:=hc e
  have aP:=ah.cA.len
  have aN:=ax T
  have aB:∃(G:O->O->Int->I->Prop)(μ0:O->O->Int->I->Nat),G O.nil O.nil (0:Int) f/\(∀(u:O)(cJ:O)(j:Int)(g:I),G u cJ j g->∃c:Nat,j=c/\c<=x.args.length/\J f g/\gG f g aE 1 u ((iY d x c).map Ce.i)/\gG f g aE 1 cJ ((fx d x 0 (x.args.take c)).map Ce.i)/\(u≠.nil->cJ≠.nil->u.F≠cJ.F))/\
   (∀(u cJ:O)(c:Nat)(g:I),c<=x.args.length->J f g->gG f g aE 1 u ((iY d x c).map Ce.i)->gG f g aE 1 cJ ((fx d x 0 (x.args.take c)).map Ce.i)->(u≠.nil->cJ≠.nil->u.F≠cJ.F)->G u cJ c g)/\(∀r s j m,μ0 r s j m=((x.args.length:Int) -j).toNat):=
   ⟨λu cJ j g=>∃c:Nat,j=c/\c<=x.args.length/\J f g/\gG f g aE 1 u ((iY d x c).map Ce.i)/\gG f g aE 1 cJ ((fx d x 0 (x.args.take c)).map Ce.i)/\(u≠.nil->cJ≠.nil->u.F≠cJ.F),λ_ _ j _=>((x.args.length:Int) -j).toNat,
    ⟨0,rfl,eJ _,J.aB _,by simpa[iY,hO]using gG.nil f f aE 1,by simpa[fx]using gG.nil f f aE 1,λh=>absurd rfl h⟩,λ_ _ _ _ h=>h,λu cJ c g i p q w y=>⟨c,rfl,i,p,q,w,y⟩,λ_ _ _ _=>rfl⟩
  obtain⟨G,μ0,ar,az,ai,hμ⟩:=aB
  refine⟨G,μ0,ar,?_⟩
  intro u cJ j g hI
  obtain⟨c,rfl,hk,ab,q,w,S⟩:=az u cJ j g hI
  have U:=C.trans ab
  refine dit (λh=>?_) λh=>?_
  ·obtain⟨y,Z⟩:=ag (l:=x.args) (k:=c) V
   obtain⟨a',l',c',aI,aw,aK,k0,k1,_⟩:=(ah.ext U).cA.E T
   have al:(x.args.take c).length=c:=bJ
   have am:iY d x (c+1)=iY d x c++hO d x c [y]:=by
    unfold iY;rw[bn Z,vd,al,cC]
   have aj:fx d x 0 (x.args.take (c+1))=fx d x 0 (x.args.take c)++fx d x c [y]:=by
    rw[bn Z,qI,al,cC]
   have aL:(iY d x c).length<=c:=cg (tD _ _ _ _) bJ
   have aM:(fx d x 0 (x.args.take c)).length<=c:=by
    have:∀(a:List Int)(o:Nat),(fx d x o a).length<=a.length:=by
     intro a;induction a with
     |nil=>intro o;exact ad _
     |cons aH a ih=>intro o;have:=ih (o+1);simp only[fx];split<;>simp<;>omega
    have:=this (x.args.take c) 0;omega
   have es:cW ((c:Int)+1)=((c+1:Nat):Int):=ka (n:=x.args.length) V V
   refine⟨V,V,y,by simpa using U.af (H.E Z),aa,U.af g1,h0,V,l',k1,(lQ aw _).aI ab Y λs W hb B P=>⟨s,rfl,λav=>?_,λau=>?_⟩⟩
   ·have K:=(Kl T c).2 (hb.1 av)
    intro p
    have s4:p.size=W.size+1:=by simp[p]
    have E:=q.ext B
    have F:=w.ext B
    have ay:cJ.len=(fx d x 0 (x.args.take c)).length:=by have:=w.len;simp at this;omega
    refine gG.append (c:=[.i 0]) (i:=[.i y]) (F.ext (J.push _ _)) (P.aK _) rfl (cF.push W _ _).iP bJ λz m5 q1 N q3 q4 q5 q6=>⟨J.th (P.aK _) N Y,?_⟩
    rw[es]
    have aA:=B.size
    refine⟨ai _ _ _ _ V N ?_ ?_ ?_,by rw[hμ,hμ];omega⟩
    ·rw[am]
     have:hO d x c [y]=[]:=by simp only[hO];rw[ao K]
     rw[this,dI]
     rcases E.lt with e|e
     ·subst e;exact⟨E.len,Or.inl rfl⟩
     ·refine E.congr ?_
      rw[q5 _ (show _<p.size by omega) (λM=>?_),mH,ae V]
      by_cases L:u=.nil
      ·subst L
       rcases w.F with v|v
       ·exact absurd v M
       ·simp;omega
      ·exact S L M
    ·rw[aj]
     have:fx d x c [y]=[y]:=by simp only[fx];rw[ao K]
     rw[this];simpa using q1
    ·intro Q R
     rcases q6 with⟨_,e⟩|⟨t,A,_⟩|e
     ·exact absurd e R
     ·rw[A];exact S Q t
     ·rw[e]
      rcases E.lt with i|i
      ·exact absurd i Q
      ·show u.F≠p.size;omega
   ·have K:¬np d x c=true:=λhh=>fb hb au ((Kl T c).1 hh)
    intro p
    have s4:p.size=W.size+1:=by simp[p]
    have E:=q.ext B
    have F:=w.ext B
    have ay:u.len=(iY d x c).length:=by have:=q.len;simp at this;omega
    refine gG.append (c:=[.i 0]) (i:=[.i y]) (E.ext (J.push _ _)) (P.aK _) rfl (cF.push W _ _).iP bJ λz m5 q1 N q3 q4 q5 q6=>⟨J.th (P.aK _) N Y,?_⟩
    rw[es]
    have aA:=B.size
    refine⟨ai _ _ _ _ V N ?_ ?_ ?_,by rw[hμ,hμ];omega⟩
    ·rw[am]
     have:hO d x c [y]=[y]:=by simp only[hO];rw[ae K]
     rw[this];simpa using q1
    ·rw[aj]
     have:fx d x c [y]=[]:=by simp only[fx];rw[ae K]
     rw[this,dI]
     rcases F.lt with e|e
     ·subst e;exact⟨F.len,Or.inl rfl⟩
     ·refine F.congr ?_
      rw[q5 _ (show _<p.size by omega) (λM=>?_),mH,ae V]
      by_cases L:cJ=.nil
      ·subst L
       rcases q.F with v|v
       ·exact absurd v M
       ·simp;omega
      ·exactλe5=>S M L e5.symm
    ·intro Q R
     rcases q6 with⟨_,e⟩|⟨t,A,_⟩|e
     ·exact absurd e Q
     ·rw[A];exact S t R
     ·rw[e]
      rcases F.lt with i|i
      ·exact absurd i R
      ·show p.size≠cJ.F;omega
  ·have p:x.args.take c=x.args:=cN V
   rw[p]at w
   unfold iY at q
   rw[p]at q
   have E:=tD d x x.args 0
   have y:∀(a:List Int)(o:Nat),(fx d x o a).length<=a.length:=by
    intro a;induction a with
    |nil=>intro o;exact ad _
    |cons aH a ih=>intro o;have:=ih (o+1);simp only[fx];split<;>simp<;>omega
   have B:=y x.args 0
   refine⟨u,cJ,rfl,?_,?_,U,?_,?_⟩
   ·unfold bS;rw[ae V,ae V,ao e];exact ap.fV q V
   ·rw[ao e];exact ap.fV w V
   ·rcases q.F with i|i
    ·exact Or.inl i
    ·exact Or.inr (Or.inr V)
   ·rcases w.F with i|i
    ·exact Or.inl i
    ·exact Or.inr V
 ·simp only[bz,ak]at t A v
  refine⟨.nil,.nil,rfl,?_,by rw[ae V];exact X,C,Or.inl rfl,Or.inl rfl⟩
  unfold bS;rw[ae V,ae V,ae V];exact X
end
section
variable{b:I}{i e:Nat}{d p g q h a j:O}{c:cH}{s:St}{t:List aX}{f:aX}{x:Instr}
def G9:∀(l:List (Int×Int))(k v j:Int),uQ (IU l k v) j=if j=k then v else uQ l j
 |[],k,v,j=>by simp[IU,uQ]
 |(a,c)::g,k,v,j=>by
  simp only[IU];split
  ·rename_i h;subst h;simp only[uQ];split<;>simp_all
  ·rename_i h;simp only[uQ];split
   ·rename_i b;subst b;rw[ae (λe=>h e.symm)]
   ·exact G9 g k v j
def O1(l:List Int)(k:Nat)(a:Nat):eL (l.take k) a<=eL l a:=by
 have:eL l a=eL (l.take k) a+eL (l.drop k) a:=by rw[<-lM,dg]
 have:=iG (l.drop k) a;omega
def vF{p:O}{h:List bX}(hg:af b i 8=some (O.v p))(P:dN b p h){v:Nat->Int}(L:fE h v){c:bX}(Z:c∈h){f:O}(hf:ap b f c.aL)(aE:h.length<=2000000000):
 dJ cw 146 [vp i 0,.agg #[vi c.aS,vi c.jQ,O.v f]] b (c.aS=1\/kW h c.aL):=by
 apply sC (i,0)
 unfold nG
 simp -zeta only[aD,aC]
 intro g
 have B:J b g:=(J.aB b).aK _
 have s1:g.size=b.size+1:=by simp[g]
 have hl:∀m∈[b.size],m<g.size:=by simp[s1]
 have aA:=(L.cell c Z).fl
 have aB:=hf.len
 have aF:=P.len
 clear_value g
 refine⟨λx=>jG (Or.inl (by simpa using x)) B,λx=>?_⟩
 simp only[ak]at x
 intro E
 have ai:J g E:=(J.aB g).aK _
 have au:CP E g.size []:=⟨#[],0,by simp[E],rfl⟩
 clear_value E
 refine eU (n:=c.aL.length) V (λd e=>J g e/\∃j,CP e g.size j/\(∀a:Nat,uQ j a=eL (c.aL.take d) a)/\∀w∈c.aL.take d,1000<=w->(aJ h w).aS+eL (c.aL.take d) (ix w)<=999999) ⟨ai,[],au,λa=>by simp[uQ,eL],D⟩ ?_
 rintro d m3 az μ hk ⟨G,j,ab,R,z⟩ ah
 have C:=B.trans G
 refine dit (λh2=>?_) λh2=>?_
 ·obtain⟨w,q⟩:=ag (l:=c.aL) (k:=d) V
  have ac:1000<=w->gE h w:=λp=>L.field Z (ar q) p
  have ay:w<=9223372036854775807:=by
   rcases dL (1000<=w)with s|s
   ·have:=ax (bZ (ac s)).1;unfold ix at this;omega
   ·omega
  refine⟨V,V,w,by simpa using C.af (hf.E q),p,C.af hg,(gT (dN.ext C P) ay).aI G hl ?_⟩
  rintro _ m4 ⟨a,m,rfl,y,aj,I⟩
  have r:=G.trans I
  have aN:=B.trans r
  have aq:g.size<m3.size:=by obtain⟨X,W,K,_⟩:=ab;exact(Array.getElem?_eq_some_iff.1 K).1
  have S:CP m4 g.size j:=by obtain⟨X,W,K,t⟩:=ab;exact⟨X,W,by rw[I.same _ aq];exact K,t⟩
  have o:∀a:Nat,eL (c.aL.take (d+1)) a=eL (c.aL.take d) a+(if w=1000+(a:Int)then 1 else 0):=λa=>by
   rw[bn q,lM];simp[eL]
  refine⟨I,a,m,rfl,λY=>?_,λal=>?_⟩
  ·have Q:=y.1 Y
   have M:=aj Y
   subst M
   have ad:=iI Q.1
   have aL:=iG (c.aL.take d) (ix w)
   have aK:=lO (c.aL.take d) (ix w)
   have aG:(c.aL.take d).length<=3:=bJ
   have e1:cW (uQ j (ix w)+1)=eL (c.aL.take (d+1)) (ix w):=by
    rw[R,o,ao ad.symm];exact aQ V V
   refine⟨j,S,j,S,?_⟩
   rw[e1]
   intro m5 aa aw an
   have H:J g m5:=⟨by rw[aw];exact r.size,λm y=>by rw[an m V,r.same m y]⟩
   have U:=B.trans H
   obtain⟨N,aM⟩:=bZ Q
   obtain⟨f5,_,k0,_⟩:=(dN.ext U P).E N
   have aH:=ax N
   have aI:=(L.cell _ (ar N)).hi
   have am:uQ (IU j (ix w) (eL (c.aL.take (d+1)) (ix w))) (ix w)=eL (c.aL.take (d+1)) (ix w):=by rw[G9,ao rfl]
   have av:=o (ix w)
   rw[ao ad.symm]at av
   have e2:cW ((aJ h w).aS+eL (c.aL.take (d+1)) (ix w))=(aJ h w).aS+eL (c.aL.take (d+1)) (ix w):=aQ V V
   refine⟨J.th r H hl,p,U.af hg,V,V,_,by simpa using k0,_,aa,trivial,trivial,?_⟩
   rw[am,e2]
   refine⟨λt=>cK (λu=>?_) U,λt=>ah V _ ⟨H,_,aa,λa=>?_,λF e A=>?_⟩⟩
   ·rcases u with u|u
    ·exact x u
    ·have:=u w (ar q) Q.1
     have:=O1 c.aL (d+1) (ix w)
     simp at t;omega
   ·rw[G9]
    by_cases M:(a:Int)=ix w
    ·have:a=ix w:=V
     subst this;rw[ao rfl]
    ·rw[ae M,R,o,ae V];omega
   ·by_cases T:F=w
    ·subst T;simp at t;omega
    ·rw[o,ae (λv=>T (by rw[iI A]at v;exact v.symm))]
     rw[bn q]at e
     rcases List.mem_append.1 e with e|e
     ·have:=z F e A;omega
     ·simp at e;exact absurd e T
  ·have u:¬gE h w:=fb y al
   have H:w<1000:=by
    rcases dL (1000<=w)with s|s
    ·exact absurd (ac s) u
    ·omega
   refine ah V _ ⟨r,j,S,λa=>by rw[R,o,ae V];omega,λF e A=>?_⟩
   rw[o,ae V]
   rw[bn q]at e
   rcases List.mem_append.1 e with e|e
   ·have:=z F e A;omega
   ·simp at e;omega
 ·rw[cN V]at z
  exact jG (Or.inr z) C
structure FP(b:I)(fb e:Nat)(f:aX)(g q h:O):Prop where
 g3:af b fb (e+3)=some (O.v g)
 g4:af b fb (e+4)=some (O.v q)
 g5:af b fb (e+5)=some (O.v h)
 u:ap b g f.u
 aR:ap b q f.aR
 bo:ap b h f.bo
def FP.ext{b d:I}{c e:Nat}{f:aX}{g q h:O}(F:FP b c e f g q h)(a:J b d):FP d c e f g q h:=⟨a.af F.g3,a.af F.g4,a.af F.g5,F.u.ext a,F.aR.ext a,F.bo.ext a⟩
def GX{I:Nat}{aW Q fr:O}(m:RV b i 3 d p aW Q fr c s)(an:af b i 2=some (vi (bI c)))(C:yZ c s t f x)(S:FP b I e f g q h)(A:ap b a x.args)(aN:x.op=11)(ao:s.heap.length<=2000000000):
 dJ cw 95 [vp i 0,vp I e,xv x a j] b (vm c s.heap (E f.u (E x.args 0))):=by
 apply sB (i,0) (I,e)
 simp -zeta only[aD,aC]
 intro z
 have v:J b z:=(J.aB b).aK _
 have s1:z.size=b.size+1:=by simp[z]
 clear_value z
 have hl:∀G∈[b.size],G<z.size:=by simp[s1]
 have aB:=A.len
 have aR:=S.u.len
 have h2:=C.kY.2.2.1 V
 have u:0<=E x.args 0/\E x.args 0<f.u.length:=C.arg _ (eW V V)
 have ay:=C.F.pH u.1 u.2 C.LC
 have T:=S.ext v
 have Y:=C.ok.heap
 have ac:=C.ok.fe
 refine⟨Q,v.af m.qT,g,T.g3,V,V,_,(A.ext v).pu V V,u.1,V,_,T.u.pu u.1 u.2,?_⟩
 generalize E f.u (E x.args 0)=w at*
 refine(gT (dN.ext v m.heap) ay.2).aI (J.aB _) hl ?_
 rintro _ R ⟨ah,G,rfl,Z,al,K⟩
 have D:=v.trans K
 refine⟨K,ah,G,rfl,λam=>cK (λn=>nb Z am n.1) D,λaa=>?_⟩
 have ae:=yb Z aa
 have A:=al (by simpa using aa)
 subst A
 obtain⟨B,au⟩:=bZ ae
 have X:=Y.cell _ (ar B)
 have aT:=(X.qQ au).2
 have aM:=ax B
 have aK:=m.heap.len
 obtain⟨H,ab,k0,k1,k2⟩:=(dN.ext D m.heap).E B
 refine⟨Q,D.af m.qT,V,V,_,by simpa using k0,_,by simpa using k1,H,by simpa using k2,?_⟩
 intro m3 r
 have U:J R r:=((J.aB R).aK _).ai (ad _) _ _
 have s4:r.size=R.size+1:=by simp[r,m3,av]
 clear_value r
 have o:=D.trans U
 have aA:(eK c.aT).length<=12:=by
  have:=qS ac.mw.types c.aT.length;rw[mL _ _ (ad _)]at this;exact this
 have aG:(bI c)=((eK c.aT).length:Int):=rfl
 have aP:=m.fe.cA.len
 have aO:=ac.mw.len
 have e1:cW ((aJ s.heap w).jQ -bI c)=(aJ s.heap w).jQ -bI c:=aQ V V
 refine⟨bI c,o.af an,?_⟩
 rw[e1]
 refine⟨λL=>cK (λn=>by have:=n.2.1;simp at L;omega) o,λL=>⟨p,o.af m.cA,λM=>cK (λn=>by have:=n.2.2.1;simp at M;omega) o,λM=>?_⟩⟩
 simp at L M
 obtain⟨az,hq⟩:=ag (l:=c.cA) (k:=((aJ s.heap w).jQ -bI c).toNat) V
 have aw:dx c ((aJ s.heap w).jQ -bI c)=az:=by simp[dx,hq]
 obtain⟨a',l',c',aj,aq,aF,j0,j1,j2,j3,j4⟩:=(m.fe.ext o).cA.E hq
 have aE:=aj.len
 have aL:=aq.len
 have aI:=ab.len
 have aH:=X.fl
 refine⟨p,o.af m.cA,V,V,a',j0,l',j1,_,j2,_,j3,c',j4,?_⟩
 intro m5 F
 have W:J r F:=((J.aB r).aK _).ai (ad _) _ _
 have s6:F.size=r.size+1:=by simp[F,m5,av]
 clear_value F
 have y:=o.trans W
 have e3:cW ((H.len:Int)+1)=(H.len:Int)+1:=aQ V V
 rw[e3]
 unfold vm
 rw[aw]
 have aS:=K.size
 refine⟨λN=>⟨λP=>?_,λP=>cK (λn=>by have:=n.2.2.2.1;simp at P;omega) y⟩,λN=>cK (λn=>by have:=n.2.2.2.2.1;simp at N;omega) y⟩
 simp at N P
 refine(vF (y.af m.qT) (dN.ext y m.heap) Y (ar B) (ab.ext (U.trans W)) ao).aI (J.aB _) bJ λb2 m7 ak ai _=>⟨b2,rfl,ft (ak.trans ?_) (y.trans ai)⟩
 exact⟨λhs=>⟨ae,V,V,V,V,hs⟩,λn=>n.2.2.2.2.2⟩
def Du{fb:Nat}{aW hp fr:O}(D:RV b i 3 d p aW hp fr c s)(F:yZ c s t f x)(M:FP b fb e f g q h)(R:ap b a x.args)(aQ:x.op=14\/x.op=19\/x.op=21\/x.op=16\/x.op=17)(aN:s.heap.length<=2000000000):
 dJ cw 96 [vp i 0,vp fb e,xv x a j] b ((x.op=14->gE s.heap (E f.u (E x.args 0))/\(aJ s.heap (E f.u (E x.args 0))).aS<999999)/\(x.op=19->gE s.heap (E f.u (E x.args 0))/\x.bN<(aJ s.heap (E f.u (E x.args 0))).aL.length)/\
  (x.op=21->gE s.heap (E f.u (E x.args 0))/\(aJ s.heap (E f.u (E x.args 0))).jQ∈cq c.aT x.bN)/\((x.op=16\/x.op=17)->EK s.heap f x)):=by
 apply qV (i,0) (fb,e)
 simp -zeta only[aD,aC]
 intro W
 have T:J b W:=(J.aB b).aK _
 have s1:W.size=b.size+1:=by simp[W]
 clear_value W
 have hl:∀G∈[b.size],G<W.size:=by simp[s1]
 have a1:=R.len
 have a0:=R.cap
 have a_:=M.u.len
 have a4:=M.bo.len
 have h4:=F.kY
 have a7:=F.LP
 have aP:1<=x.args.length:=V
 have aX:=h4.1
 clear h4
 have H:0<=E x.args 0/\E x.args 0<f.u.length:=F.arg _ (eW V V)
 have aR:=F.F.pH H.1 H.2 F.LC
 have F1:=M.ext T
 have hI:=F.ok.heap
 have aI:EK s.heap f x<->(gE s.heap (E f.u (E x.args 0))/\kL (aJ s.heap (E f.u (E x.args 0))).aL=cv f (x.args.drop 1)/\((aJ s.heap (E f.u (E x.args 0))).aS=1\/kW s.heap (aJ s.heap (E f.u (E x.args 0))).aL)/\(x.op=17->E f.bo (E x.args 0)=0)):=RK
 rw[aI]
 refine⟨hp,T.af D.qT,g,F1.g3,V,V,_,(R.ext T).pu V V,H.1,V,_,F1.u.pu H.1 H.2,?_⟩
 generalize E f.u (E x.args 0)=w at*
 refine(gT (dN.ext T D.heap) aR.2).aI (J.aB _) hl ?_
 rintro _ I ⟨az,G,rfl,Z,aL,ac⟩
 have ab:=T.trans ac
 refine⟨ac,az,G,rfl,λaM=>cK (λz=>?_) ab,λan=>?_⟩
 ·have v:=nb Z aM
  rcases aQ with u|u|u|u
  ·exact v (z.1 u).1
  ·exact v (z.2.1 u).1
  ·exact v (z.2.2.1 u).1
  ·exact v (z.2.2.2 u).1
 have L:=yb Z an
 have aK:=aL (by simpa using an)
 subst aK
 obtain⟨hc,a9⟩:=bZ L
 have am:=hI.cell _ (ar hc)
 have a8:=ax hc
 have a5:=D.heap.len
 obtain⟨f2,aj,k0,k1,k2⟩:=(dN.ext ab D.heap).E hc
 refine⟨hp,ab.af D.qT,V,V,_,by simpa using k0,_,by simpa using k1,f2,by simpa using k2,?_⟩
 intro m3 C
 have ae:J I C:=((J.aB I).aK _).ai (ad _) _ _
 have s4:C.size=I.size+1:=by simp[C,m3,av]
 have kB:af C I.size 1=some (vi (aJ s.heap w).jQ):=(cF.ai (m:=m3) (o:=0) (r:=[.i (aJ s.heap w).aS,.i (aJ s.heap w).jQ,.s f2]) (cF.push I _ _)).cp 1
 clear_value C
 have B:=ab.trans ae
 have ba:=ac.size
 have K:∀G∈[I.size,b.size],G<C.size:=bJ
 have a3:=aj.len
 refine⟨λu=>?_,λaA=>⟨λu=>?_,λaB=>⟨λu=>?_,λaF=>?_⟩⟩⟩
 ·simp at u
  refine ft ?_ B
  simp
  exact⟨λy=>⟨λ_=>⟨L,y⟩,λv=>V,λv=>V,λv=>V⟩,λy=>(y.1 u).2⟩
 ·simp at u
  refine ft ?_ B
  simp
  exact⟨λy=>⟨λv=>V,λ_=>⟨L,V⟩,λv=>V,λv=>V⟩,λy=>by have:=(y.2.1 u).2;omega⟩
 ·simp at u
  refine⟨d,B.af D.aT,(sW (D.fe.ext B).aT F.ok.fe.mw.types _).aI (J.aB _) K ?_⟩
  rintro _ m5 ⟨N,rfl,P,A⟩
  refine⟨A,N,rfl,A.cV kB,(lQ P _).aI A K λb2 m6 aa ai ah=>⟨b2,rfl,ft (aa.trans ?_) (B.trans ah)⟩⟩
  exact⟨λy=>⟨λv=>V,λv=>V,λ_=>⟨L,y⟩,λv=>V⟩,λy=>(y.2.2.1 u).2⟩
 ·simp at aA aB aF
  have X:x.op=16\/x.op=17:=V
  have e1:(Int.toNat (1:Int))=1:=rfl
  have e2:(Int.toNat (a.len:Int))=a.len:=V
  rw[e1,e2]
  have aq:=T4 (R.ext B) aP
  have a6:=aq.len
  have a2:(x.args.drop 1).length<=4:=bJ
  refine⟨V,V,V,?_⟩
  refine dU (n:=(x.args.drop 1).length) V (λal s' N=>J C N/\gG C N aE 1 s' ((cv f ((x.args.drop 1).take al)).map Ce.i)) ⟨J.aB _,by simpa[cv]using gG.nil C C aE 1⟩ ?_
  rintro al s' m5 aV μ hk ⟨A,o5⟩ aT
  have aS:=B.trans A
  refine dit (λy=>?_) λy=>?_
  ·obtain⟨U,N⟩:=ag (l:=x.args.drop 1) (k:=al) V
   have P:=F.arg U (wC (ar N))
   have Q:=M.ext aS
   refine⟨V,V,U,by simpa using(aq.ext A).E N,g,Q.g3,P.1,V,_,Q.u.pu P.1 P.2,?_⟩
   intro m6
   refine nK o5 A (by simp[cv];omega) λak m7 Y S=>⟨J.th (A.aK _) S K,aT V _ _ ⟨S,?_⟩⟩
   rw[bn N]
   simpa[cv]using Y
  ·rw[cN V]at o5
   have i5:ap m5 s' (cv f (x.args.drop 1)):=ap.fV o5 (by simp[cv];omega)
   refine(Dv (aj.ext (ae.trans A)) (by have:=am.fl;omega)).aI (by have:=nM (aJ s.heap w).aL;have:=am.fl;omega) (λG Z=>A.lt (K G Z)) λps m6 o6 i6 ai=>⟨ps,rfl,?_⟩
   have ah:=A.trans ai
   refine(BJ i6 (i5.ext ai)).aI ah K λb2 m7 aa aY Y=>⟨b2,rfl,λh8=>cK (λz=>nb aa h8 (z.2.2.2 X).2.1) (B.trans Y),λh8=>?_⟩
   have ao:=yb aa h8
   have U:=B.trans Y
   have ay:aO cw 146 [vp i 0,.agg #[vi (aJ s.heap w).aS,vi (aJ s.heap w).jQ,O.v f2]] m7 λaU au=>eE [I.size,b.size] m7 au/\∃aw:Bool,aU=vb aw/\((aw=true<->((aJ s.heap w).aS=1\/kW s.heap (aJ s.heap w).aL))/\J b au):=
    (vF (U.af D.qT) (dN.ext U D.heap) hI (ar hc) (aj.ext (ae.trans Y)) aN).aI Y K λN m8 S aZ aH=>⟨N,rfl,S,B.trans aH⟩
   have F7:=M.ext U
   have aG:E x.args 0<f.bo.length:=V
   refine⟨λP=>⟨h,F7.g5,V,V,_,(R.ext U).pu V V,H.1,V,_,F7.bo.pu H.1 aG,λQ=>cK (λz=>?_) U,λQ=>ay.mono ?_⟩,λP=>ay.mono ?_⟩
   ·simp at P Q;exact Q ((z.2.2.2 X).2.2.2 P)
   ·rintro _ m8 ⟨hs,N,rfl,S,ak⟩
    refine⟨hs,N,rfl,ft (S.trans ?_) ak⟩
    simp at Q
    exact⟨λhf=>⟨λv=>V,λv=>V,λv=>V,λ_=>⟨L,ao,hf,λ_=>Q⟩⟩,λz=>(z.2.2.2 X).2.2.1⟩
   ·rintro _ m8 ⟨hs,N,rfl,S,ak⟩
    refine⟨hs,N,rfl,ft (S.trans ?_) ak⟩
    simp at P
    exact⟨λhf=>⟨λv=>V,λv=>V,λv=>V,λ_=>⟨L,ao,hf,λv=>absurd v P⟩⟩,λz=>(z.2.2.2 X).2.2.1⟩
end
section
variable{b:I}{c:Nat}{a:aX}{d e h:O}
def uE(u:List Int):∀(b a aR:List Int),bC u aR (b++a)=bC u (bC u aR b) a
 |[],a,aR=>rfl
 |y::b,a,aR=>by simp only[cU,bC,uE u b a]
def LJ{f g:Nat}(j:af b f 0=some (vp g c))(F:FP b g c a d e h){x:Int}(i:0<=x/\x<a.u.length):dJ cw 93 [vi x,vp f 0] b (1000<=E a.u x):=by
 apply uL x (f,0);have k:=F.u.len;exact⟨(g,c),j,d,F.g3,i.1,V,_,F.u.pu i.1 i.2,ft D (J.aB _)⟩
def OX{mb fb:Nat}{a4 bs aW v fr:O}{g:cH}{R:St}(U:RV b mb 3 a4 bs aW v fr g R)(be:af b mb 2=some (vi (bI g))){fs:List aX}{x:Instr}(C:yZ g R fs a x){aw bp:O}(T:FP b fb c a d e h)(ha:ap b aw x.args)(a1:R.heap.length<=2000000000):
 dJ cw 52 [vp mb 0,vp fb c,xv x aw bp] b (jD g R a x (bC a.u a.aR (bS g x))):=by
 apply wO (mb,0) (fb,c)
 simp -zeta only[aD,aC]
 intro m1 P
 have z:J b P:=((J.aB b).aK _).aK _
 have s1:m1.size=b.size+1:=by simp[m1]
 have s2:P.size=b.size+2:=by simp[P,s1]
 have S:∀j∈[m1.size,b.size],j<P.size:=bJ
 have kP:af P b.size 0=some (vp fb c):=((cF.push b [.p fb c] _).ext (J.push m1 _)).cp 0
 clear_value P
 have bw:=ha.len
 have bL:=T.u.len
 have bF:=T.aR.len
 have bA:=T.bo.len
 have bD:=C.LP
 have hd:=C.dst
 have bg:=C.YN
 refine⟨e,z.af T.g4,(eF (T.aR.ext z) V).aI V S λF m3 oq iq aK=>⟨F,rfl,?_⟩⟩
 have aA:=iq.len
 have aN:=z.trans aK
 refine(vA (U.fe.ext aN) (aN.af U.cA) C.call (ha.ext aN) (by have:=C.kY.1;omega) C.kY.2.2.2.1).aI aK S ?_
 rintro _ Y ⟨rs,ls,rfl,aG,aO,aL,a3,a2⟩
 have a8:=aK.trans aL
 have br:=oq.ext aL
 refine⟨aL,rs,ls,rfl,?_⟩
 have bN:=Ia g x
 have bv:=C.kY.1
 have bM:=aG.len
 have a_:=C.JI
 have bi:∀ad∈a.aR,0<=ad:=λad X=>(C.NG ad X).1
 have bH:P.size<=F.F:=by
  rcases oq.F with p|p
  ·subst p;simp at aA;omega
  ·exact p
 have bK:F.F<m3.size:=by
  rcases oq.lt with p|p
  ·subst p;simp at aA;omega
  ·exact p
 have aM:=C.arg
 have bE:=z.size
 have kr:∀{w:I},(∀j,j<Y.size->j≠F.F->w[j]? =Y[j]?)->ap w rs (bS g x):=λhk=>gL aG λK=>hk _ (iB aG K) λp=>by
  have bc:x.args≠[]:=λW=>by
   obtain⟨y,t⟩:=TB _ K;have:=Bt t;rw[W]at this;simp at this
  rcases a3 with Z|Z|Z
  ·subst Z;have:=aG.len;simp at this;exact K (List.length_eq_zero_iff.1 this.symm)
  ·rw[Z]at p;have:=iB ha bc;omega
  ·omega
 have kl:∀{w:I},(∀j,j<Y.size->j≠F.F->w[j]? =Y[j]?)->ap w ls (if x.op=9\/x.op=24 then fx g x 0 x.args else[]):=λhk=>gL aO λK=>hk _ (iB aO K) λp=>by
  rcases a2 with Z|Z
  ·subst Z;have:=aO.len;simp at this;exact K (List.length_eq_zero_iff.1 this.symm)
  ·omega
 refine eU (n:=(bS g x).length) V (λq w=>J P w/\(∀j,j<Y.size->j≠F.F->w[j]? =Y[j]?)/\gG P w aE 1 F ((bC a.u a.aR ((bS g x).take q)).map Ce.i)/\∀ad∈bC a.u a.aR ((bS g x).take q),0<=ad) ⟨a8,λ_ _ _=>rfl,br,bi⟩ ?_
 rintro q m5 bt μ hk ⟨ah,an,aH,N⟩ aT
 have bk:=z.trans ah
 have F5:=T.ext bk
 have bf:=jV a.u ((bS g x).take q) a.aR
 have aB:ap m5 F (bC a.u a.aR ((bS g x).take q)):=ap.fV aH V
 refine dit (λh6=>?_) λh6=>?_
 ·obtain⟨y,t⟩:=ag (l:=bS g x) (k:=q) V
  have s:=a_ y (ar t)
  have G:bC a.u a.aR ((bS g x).take (q+1))=if 1000<=E a.u y then gF (bC a.u a.aR ((bS g x).take q)) y (E (bC a.u a.aR ((bS g x).take q)) y -1)else bC a.u a.aR ((bS g x).take q):=by
   rw[bn t,uE];rfl
  have L:y<(bC a.u a.aR ((bS g x).take q)).length:=V
  have aU:=N _ (eW s.1 L)
  have aV:E (bC a.u a.aR ((bS g x).take q)) y<=999999:=by
   obtain⟨q',Q,am⟩:=kQ ((bS g x).take q) a.aR y.toNat _ (og s.1 L);have:=(C.NG q' (ar Q)).2;omega
  refine⟨V,V,y,by simpa using(kr an).E t,d,F5.g3,s.1,V,_,F5.u.pu s.1 s.2,λB=>?_,λB=>aT V _ ⟨ah,an,by rw[G,ae (by simpa using B)];exact aH,by rw[G,ae (by simpa using B)];exact N⟩⟩
  simp at B
  rw[ao B]at G
  refine⟨s.1,V,_,aB.pu s.1 L,s.1,V,?_⟩
  have e1:cW (E (bC a.u a.aR ((bS g x).take q)) y -1)=E (bC a.u a.aR ((bS g x).take q)) y -1:=aQ V V
  rw[e1]
  rcases aH.E with aI|⟨bb,aq,tail,z1,z2,z3,z4,z5⟩
  ·rw[aI]at aA;simp at aA;omega
  ·have a5:F.off=0:=by rw[z1];rfl
   have ab:F.F=bb:=by rw[z1];rfl
   have al:F.off+y.toNat*1=y.toNat:=V
   rw[al,ab]
   have az:y.toNat<((bC a.u a.aR ((bS g x).take q)).map Ce.i).length:=bJ
   refine⟨z3.fH (by simp only[aZ];omega),?_⟩
   intro m6
   have H:J P m6:=ah.ai V _ _
   have av:∀j,j<Y.size->j≠F.F->m6[j]? =Y[j]? :=λj u K=>by rw[bd _ _ _ _ V];exact an j u K
   have o6:gG P m6 aE 1 F ((bC a.u a.aR ((bS g x).take (q+1))).map Ce.i):=by
    rw[G];refine⟨by rw[dR,jM,<-dR (f:=Ce.i)];exact aH.len,Or.inr ⟨bb,aq,tail,z1,z2,?_,?_,z5⟩⟩
    ·have:=cF.ai (m:=m5) (o:=y.toNat) (r:=[.i (E (bC a.u a.aR ((bS g x).take q)) y -1)]) z3;have e6:iX ((bC a.u a.aR ((bS g x).take q)).map Ce.i++tail) y.toNat [.i (E (bC a.u a.aR ((bS g x).take q)) y -1)]=(gF (bC a.u a.aR ((bS g x).take q)) y (E (bC a.u a.aR ((bS g x).take q)) y -1)).map Ce.i++tail:=by
      simp only[iX,gF,tG];rw[Ln _ _ az]
     rw[e6]at this;exact this
    ·simp only[aZ,dR,jM]at z4⊢;exact z4
   have a0:=jV a.u ((bS g x).take (q+1)) a.aR
   have aS:ap m6 F (bC a.u a.aR ((bS g x).take (q+1))):=ap.fV o6 V
   have aa:E (bC a.u a.aR ((bS g x).take (q+1))) y=E (bC a.u a.aR ((bS g x).take q)) y -1:=by rw[G,TN s.1 L y s.1,ao rfl]
   have ai:=aS.pu (i:=y) s.1 V
   rw[aa,al,ab]at ai
   refine⟨J.th ah H S,s.1,V,_,ai,λh8=>cK (λA=>?_) (z.trans H),λh8=>aT V _ ⟨H,av,o6,λad X=>?_⟩⟩
   ·simp at h8
    have ac:bC a.u a.aR (bS g x)=bC a.u (bC a.u a.aR ((bS g x).take (q+1))) ((bS g x).drop (q+1)):=by rw[<-uE,dg]
    have ay:y<(bC a.u a.aR (bS g x)).length:=by rw[jV];omega
    have M:=og (c:=bC a.u a.aR (bS g x)) s.1 ay
    have aY:=A.nn _ (ar M)
    rw[ac]at M
    obtain⟨q',Q,am⟩:=kQ _ _ _ _ M
    have aP:=JS Q
    rw[aa]at aP
    rw[<-ac]at am
    omega
   ·rw[G]at X
    rcases pD X with X|X
    ·simp at h8;omega
    ·exact N ad X
 ·have bj:(bS g x).take q=bS g x:=cN V
  rw[bj]at aB N bf
  have aP:=kl an
  generalize bG:bC a.u a.aR (bS g x)=aR at*
  have bb:=aP.len
  refine⟨λw=>J m5 w/\(lH x.op->E aR x.dst<=0),?_,?_⟩
  ·refine(qX _ _ ⟨V,V⟩).aI ah S λj m6 u ai H=>⟨j,rfl,λL=>⟨hd.1,V,_,(aB.ext ai).pu hd.1 V,λB=>cK (λA=>?_) (z.trans H),λB=>⟨ai,λ_=>by simpa using B⟩⟩,λG=>⟨ai,λM=>absurd M (Go.Vc.fb u G)⟩⟩
   have:=A.dst (u.1 L);simp at B;omega
  ·rintro m6 ⟨ai,ab⟩
   have bq:∀(av:List Int)(jj:Nat)(y:Int),y∈fx g x jj av->y∈av:=by
    intro av;induction av with
    |nil=>intro jj y h;simp[fx]at h
    |cons G av B=>
     intro jj y h;simp only[fx]at h;split at h
     ·rcases List.mem_cons.1 h with rfl|h
      ·exact ba
      ·exact aj _ (B _ _ h)
     ·exact aj _ (B _ _ h)
   generalize az:(if x.op=9\/x.op=24 then fx g x 0 x.args else[])=LL at*
   have a9:∀y∈LL,0<=y/\y<a.u.length:=λy t=>by
    rw[<-az]at t;split at t
    ·exact aM y (bq _ _ _ t)
    ·simp at t
   refine eU (n:=LL.length) (bb▸aP.fS) (λq w=>J m5 w/\∀y∈LL.take q,1000<=E a.u y->gE R.heap (E a.u y)) ⟨ai,D⟩ ?_
   rintro k2 m7 I2 μ2 bB ⟨al,aq⟩ aS
   have aa:=ah.trans al
   have B:=z.trans aa
   have L:=T.ext B
   refine dit (λh8=>?_) λh8=>?_
   ·obtain⟨y,t⟩:=ag (l:=LL) (k:=k2) V
    have s:=a9 y (ar t)
    refine⟨V,V,y,by simpa using(aP.ext al).E t,d,L.g3,s.1,V,_,L.u.pu s.1 s.2,λH=>?_,λH=>aS V _ ⟨al,bV t aq λv=>by simp at H;omega⟩⟩
    simp at H
    refine(Kh (B.af U.qT) (dN.ext B U.heap) (C.F.pH s.1 s.2 C.LC).2).aI aa S λj m8 u am M=>⟨j,rfl,λG=>cK (λA=>?_) (z.trans M),λG=>aS V _ ⟨al.trans am,bV t aq λ_=>yb u G⟩⟩
    have Q:=ar t
    rw[<-az]at Q
    split at Q
    ·rename_i e9;exact nb u G (A.cJ e9 y Q H)
    ·simp at Q
   ·rw[cN V]at aq
    have ac:(x.op=9\/x.op=24)->JP g R.heap a x:=λe9=>by rw[ao e9]at az;rw[<-az]at aq;exact aq
    have bo:=aB.ext al
    have hV:=U.ext B
    have aU:1<=x.args.length->0<=E x.args 0/\E x.args 0<a.u.length:=λh1=>aM _ (eW V V)
    have ga:∀{w},J b w->1<=x.args.length->af w aw.F (aw.off+Int.toNat (0:Int)*1)=some (vi (E x.args 0)):=λhx h1=>(ha.ext hx).pu V V
    clear aT aS an kr kl bg a3 a2
    refine⟨λp=>?_,λe1=>?_⟩
    ·simp only[bT,aF]at p
     refine(iK (ha.ext B) 93 #[] #[vp b.size 0] bh (λy=>1000<=E a.u y) (λy t w ay=>?_)).aI aa (λj u=>S j (by simp at u;simp[u])) λj m8 u am M=>⟨j,rfl,ft ?_ (z.trans M)⟩
     ·simpa using LJ (ay.af (aa.af kP)) (L.ext ay) (aM y t)
     ·have aI:(!j)=true<->¬(j=true):=D
      rw[aI,u]
      constructor
      ·intro aV
       have v:∀y∈x.args,E a.u y<1000:=λy t=>by
        rcases dL (1000<=E a.u y)with h1|h1
        ·exact absurd ⟨y,t,h1⟩ aV
        ·omega
       have Q:x.op≠6/\x.op≠24/\x.op≠23/\x.op≠11/\x.op≠14/\x.op≠15/\x.op≠16/\x.op≠17/\x.op≠19/\x.op≠21:=by rcases p with p|p|p|p|p|p<;>rw[p]<;>decide
       exact⟨N,ab,λ_=>v,λs=>absurd s Q.1,ac,λs=>s.elim (λh=>absurd h Q.2.1) (λh=>absurd h Q.2.2.1),λs=>absurd s Q.2.2.1,λs=>absurd s Q.2.2.2.1,λs=>absurd s Q.2.2.2.2.1,λs=>absurd s Q.2.2.2.2.2.1,λs=>s.elim (λh=>absurd h Q.2.2.2.2.2.2.1) (λh=>absurd h Q.2.2.2.2.2.2.2.1),λs=>absurd s Q.2.2.2.2.2.2.2.2.1,λs=>absurd s Q.2.2.2.2.2.2.2.2.2⟩
      ·rintro A ⟨y,t,h1⟩
       have:=A.mZ V y t;omega
    simp only[bz,ak]at e1
    refine⟨λp=>?_,λe6=>?_⟩
    ·simp only[aF]at p
     have bu:=C.kY.2.2.2.2.1 p
     have ic:EL R.heap a x->jD g R a x aR:=λv=>by
      refine⟨N,ab,?_,?_,ac,?_,?_,?_,?_,?_,?_,?_,?_⟩<;>intro s<;>first|(exfalso;omega)|exact v
     refine⟨λH=>?_,λH=>jG (ic λK=>absurd (by simpa using H) K) B⟩
     simp at H
     have aY:cW (x.bW -1)=x.bW -1:=aQ V V
     rw[aY]
     have Q:0<=x.bW -1/\x.bW -1<a.bo.length:=V
     refine⟨h,L.g5,V,V,_,L.bo.pu Q.1 Q.2,λG=>?_,λG=>jG (ic λ_ K=>absurd (by simpa using G) K) B⟩
     simp at G
     obtain⟨X,dd,aI,_⟩:=C.Kk _ (eW Q.1 Q.2) G
     have bx:=ax aI
     have a6:ix (E a.bo (x.bW -1))=(E a.bo (x.bW -1) -1000).toNat:=rfl
     have a0:cW (E a.bo (x.bW -1) -1000)=E a.bo (x.bW -1) -1000:=aQ V V
     have bm:=U.heap.len
     obtain⟨f9,a5,k0,k1,a7⟩:=(dN.ext B U.heap).E aI
     have bl:=a5.len
     have aV:aJ R.heap (E a.bo (x.bW -1))=dd:=by simp[aJ,aI]
     refine⟨v,hV.qT,h,L.g5,V,V,_,L.bo.pu Q.1 Q.2,?_⟩
     rw[a0,<-a6]
     refine⟨V,V,f9,a7,ft ?_ B⟩
     simp only[aF]
     refine⟨λay=>ic λ_ _=>by rw[aV];omega,λA=>?_⟩
     have:=A.iH p H G
     rw[aV]at this;omega
    simp only[ak]at e6
    refine⟨λp=>?_,λa6=>?_⟩
    ·simp only[bT,aF]at p
     refine(xI bo).aI aa S λj m8 u am M=>⟨j,rfl,λH=>cK (λA=>nb u H (A.zero p).1) (z.trans M),λH=>?_⟩
     have bl:=yb u H
     have F8:=T.ext (z.trans M)
     refine⟨h,F8.g5,(xI F8.bo).aI M S λb2 m9 a0 bu aY=>⟨b2,rfl,λG=>cK (λA=>nb a0 G (A.zero p).2) (z.trans aY),λG=>?_⟩⟩
     have bm:=yb a0 G
     have Q:=z.trans aY
     have F9:=T.ext Q
     have ic:(x.op=23->1<R.az.length\/E a.u (E x.args 0)<1000)->jD g R a x aR:=λv=>by
      refine⟨N,ab,?_,?_,ac,?_,?_,?_,?_,?_,?_,?_,?_⟩<;>intro s<;>first|exact v s|(exfalso;omega)|exact⟨bl,bm⟩
     have bx:=U.az.len
     refine⟨λay=>jG (ic λs=>by simp at ay;omega) Q,λay=>⟨fr,Q.af U.Nu,λaI=>jG (ic λ_=>Or.inl (by simp at aI;omega)) Q,λaI=>?_⟩⟩
     simp at ay aI
     have a5:x.op=23:=V
     have h1:=C.kY.2.1 V
     have W:=aU V
     refine⟨d,F9.g3,V,V,_,ga Q V,W.1,V,_,F9.u.pu W.1 W.2,ft ?_ Q⟩
     simp
     refine⟨λa7=>ic λ_=>Or.inr a7,λA=>?_⟩
     rcases A.ret a5 with aV|aV
     ·omega
     ·exact aV
    simp only[bz,ak]at a6
    refine⟨λp=>?_,λA=>?_⟩
    ·simp only[aF]at p
     refine(GX hV (B.af be) C L (ha.ext B) p a1).aI aa S λj m8 u am M=>⟨j,rfl,ft (u.trans ?_) (z.trans M)⟩
     refine⟨λv=>?_,λh=>h.apply p⟩
     refine⟨N,ab,?_,?_,ac,?_,?_,?_,?_,?_,?_,?_,?_⟩<;>intro s<;>first|(exfalso;omega)|exact v
    simp only[ak]at A
    refine⟨λp=>?_,λH=>?_⟩
    ·simp only[aF]at p
     have h1:=C.kY.2.1 V
     have W:=aU V
     refine⟨d,L.g3,V,V,_,ga B V,W.1,V,_,L.u.pu W.1 W.2,ft ?_ B⟩
     simp only[Gu,au]
     refine⟨λv=>?_,λh=>h.drop p⟩
     refine⟨N,ab,?_,?_,ac,?_,?_,?_,?_,?_,?_,?_,?_⟩<;>intro s<;>first|(exfalso;omega)|exact v
    simp only[ak]at H
    refine⟨λp=>?_,λG=>?_⟩
    ·simp only[bT,aF]at p
     refine(Du hV C L (ha.ext B) V a1).aI aa S λj m8 u am M=>⟨j,rfl,ft (u.trans ?_) (z.trans M)⟩
     refine⟨λv=>?_,λh=>⟨h.UK,h.load,h.xC,h.Kv⟩⟩
     refine⟨N,ab,?_,?_,ac,?_,?_,?_,v.1,?_,v.2.2.2,v.2.1,v.2.2.1⟩<;>intro s<;>exfalso<;>omega
    ·simp only[bz,ak]at G
     refine jG ?_ B
     refine⟨N,ab,?_,?_,ac,?_,?_,?_,?_,?_,?_,?_,?_⟩<;>intro s<;>exfalso<;>omega
end
section
variable{N c:Nat}{b:Nat->Nat}{a:I}{h:List bX}
def mN(w:Int)(a:I):EH cw 104 [vi w] a (vi (fW w)):=by
 apply vH;unfold fW;exact⟨λh=>by simp at h;rw[ao h];exact⟨rfl,J.aB _⟩,λh=>by simp at h;rw[ae V];exact⟨rfl,J.aB _⟩⟩
def uh{d:O}(v:dT N b a d h)(F:∀e,a.size<=e->b e=0)(s:cF a c dV [.s d])(H:b c=5)(M:h.length<=2000000000):
 aO cw 151 [vp c 0] a λ_ i=>dT N b i (d.cut 0 (iR h h.length) 3) (oX h)/\cF i c dV [.s (d.cut 0 (iR h h.length) 3)]/\HC b a b i:=by
 apply zC (c,0)
 have L:=v.len
 have w:=v.cells V
 have J:=w.cap
 have p:af a c 0=some (O.v d):=s.cp 0
 refine⟨d,p,λq i=>i=a/\∃n:Nat,q=n/\n<=h.length/\iR h n=iR h h.length,λq _=>q.toNat,⟨rfl,h.length,V,ad _,rfl⟩,?_⟩
 rintro q f ⟨rfl,n,rfl,G,x⟩
 have A:Int.toNat (0:Int)=0:=rfl
 have B:Int.toNat (n:Int)=n:=V
 have ic:iR h n=n->dT N b (ai f c 0 [.s (d.cut 0 n 3)]) (d.cut 0 (iR h h.length) 3) (oX h)/\cF (ai f c 0 [.s (d.cut 0 n 3)]) c dV [.s (d.cut 0 (iR h h.length) 3)]/\HC b f b (ai f c 0 [.s (d.cut 0 n 3)]):=λz=>by
  have g:dv (λe=>e=5) b f b (ai f c 0 [.s (d.cut 0 n 3)]):=dv.ai F H _ _;have j:iR h h.length=n:=by rw[<-x,z]
  rw[j];refine⟨?_,cF.ai (m:=f) (o:=0) (r:=[.s (d.cut 0 n 3)]) s,g.mono λe E=>Or.inr (Or.inl E)⟩;have:=(v.eV g bh bh).cut G;unfold oX;rw[j];exact this
 refine⟨λt=>?_,λt=>?_⟩
 ·simp only[kU,au]at t
  obtain⟨e,rfl⟩:∃e,n=e+1:=⟨n -1,V⟩
  have j:cW (((e+1:Nat):Int) -1)=(e:Int):=by rw[aQ V V];omega
  obtain⟨y,g⟩:=ag (l:=h) (k:=e) V
  obtain⟨I,K,C,_⟩:=w.E g
  refine⟨d,p,?_⟩
  rw[j]
  refine⟨V,V,y.aS,by simpa using C,λu=>⟨⟨rfl,e,rfl,V,?_⟩,by show(e:Int).toNat<((e+1:Nat):Int).toNat;omega⟩,λu=>⟨d,p,V,V,V,s.fH D,?_⟩⟩
  ·rw[<-x,Ps g (by simpa using u)]
  ·rw[A,B];exact ic (Lh g (by simpa using u))
 ·simp only[kU,bH]at t
  have u:n=0:=V
  subst u
  exact⟨d,p,V,V,V,s.fH D,ic rfl⟩
def Ff{e:O}(hh:dT N b a e h)(hn:∀g,a.size<=g->b g=0)(kb:cF a c dV [.s e])(hr:b c=5){v:Int}{Z:Nat->Int}(hI:fE h (λg=>Z g+eL [v] g))(he:∀g,0<=Z g)(a4:h.length<=2000000000):
 aO cw 102 [vp c 0,vi v] a λ_ q=>∃u aw,dT N u q aw (oX (iD h [v]))/\cF q c dV [.s aw]/\HC b a u q:=by
 apply zB (c,0)
 intro r
 have h1:J a r:=(J.aB a).aK _
 have s1:r.size=a.size+1:=by simp[r]
 have o1:gG a r aE 1 (.mk a.size 0 1 1) ([v].map Ce.i):=gG.new (J.aB a) aE 1 _ 1 D
 have c1:HC b a (pT b a.size 6) r:=dv.pT h1 hn (ad _) V 6
 have a1:gY (pT b a.size 6) r aE 1 6 (.mk a.size 0 1 1) ([v].map Ce.i):=gY.fV o1 λ_=>gJ _ _ _
 have aM:dT N (pT b a.size 6) r e h:=hh.eV (dv.pT (p:=λ_=>False) h1 hn (ad _) V 6) id id
 have aT:=kb.ext h1
 have aN:pT b a.size 6 c=5:=by rw[eM (by have:=kb.lt;omega)];exact hr
 clear_value r
 have aX:=Nv λaG d=>(hI.cell aG d).fl
 have a0:=hh.len
 refine JJ (γ:=List bX×List Int) (λi I q=>∃u,dT N u q e i.1/\gY u q aE 1 6 I (i.2.reverse.map Ce.i)/\HC b a u q/\fE i.1 (λg=>Z g+eL i.2 g)/\iD i.1 i.2=iD h [v]/\i.1.length=h.length/\i.2.length+By i.1<=1+By h/\cF q c dV [.s e]/\u c=5) (λi=>Df i.1+i.2.length) (h,[v])
  ⟨_,aM,a1,c1,hI,rfl,rfl,D,aT,aN⟩ ?_
 rintro⟨d,st⟩ I m2 aU μ ⟨m,C,B,i,t,y,M,al,R,z⟩ af
 simp only[]at C B t y M al
 have aA:I.len=st.length:=by have:=B.len;simp at this;omega
 refine⟨λh3=>?_,λh3=>?_⟩
 ·simp only[kU,au]at h3
  cases st with
  |nil=>simp at aA;omega
  |cons x s=>
   simp only[PB]at B
   obtain⟨p1,p2,p3⟩:=B.Uo
   simp only[aY,mI]at aA p1 p2 p3 al
   have e1:cW ((I.len:Int) -1)=(s.length:Int):=by rw[aQ V V];omega
   have aV:=B.le
   have e2:Int.toNat (0:Int)=0:=rfl
   have e3:Int.toNat (s.length:Int)=s.length:=V
   have aB:1000<=x->gE d x:=λQ=>t.OG he Q
   have aR:x<=9223372036854775807:=by
    rcases dL (1000<=x)with k|k
    ·have:=ax (bZ (aB k)).1;unfold ix at this;omega
    ·omega
   refine⟨e,R.cp 0,?_⟩
   rw[e1,e2,e3]
   refine⟨V,V,x,p2,(gT (C.cells V) aR).mono ?_⟩
   rintro _ S ⟨aD,g,rfl,ai,aK,n⟩
   refine⟨aD,g,rfl,V,V,V,λaL=>?_,λaj=>?_⟩
   ·have Q:=nb ai aL
    have K:HC m m2 m S:=dv.eN _ n i.new
    refine af (d,s) _ _ ⟨m,C.eV (dv.eN (λ_=>False) n i.new) id id,p3.eV (dv.eN (λ_=>False) n i.new) id,i.trans K,t.QI ?_,?_,M,by simp only[];omega,R.ext n,z⟩ D
    ·rcases dL (1000<=x)with k|k
     ·exact absurd (aB k) Q
     ·omega
    ·rw[<-sT (w:=x) Q];exact y
   ·have G:=yb ai aj
    have aI:=aK (by simpa using aj)
    subst aI
    obtain⟨j,ay⟩:=bZ G
    have ap:=ax j
    have a2:=(t.cell _ (ar j)).hi
    have aH:Int.toNat ((ix x:Nat):Int)=ix x:=V
    have K:HC m m2 m S:=dv.eN _ n i.new
    have E:dT N m S e d:=C.eV (dv.eN (λ_=>False) n i.new) id id
    have a3:=p3.eV (dv.eN (λ_=>False) n i.new) id
    have H:=R.ext n
    obtain⟨f0,g0,_,_,_,_⟩:=E.cp j
    refine⟨e,H.cp 0,?_⟩
    rw[aH]
    refine⟨V,V,_,g0,V,V,E.wr (o:=0) ap bh,?_⟩
    have e5:cW ((aJ d x).aS -1)=(aJ d x).aS -1:=aQ V V
    rw[e5]
    intro m4
    obtain⟨ac,X⟩:=E.tj K.new j ((aJ d x).aS -1)
    have U:=a3.eV X bh
    have A:cF m4 c dV [.s e]:=H.congr (X.dW _ H.lt (by rw[z];decide))
    have W:HC b a m m4:=(i.trans K).trans (X.mono λaC F=>Or.inl F)
    have aa:=k8 (d:=jc) j
    simp only[ao ay,jc]at aa
    simp at aa
    have aP:(d.set (ix x) {aJ d x with aS:=(aJ d x).aS -1})[ix x]? =some {aJ d x with aS:=(aJ d x).aS -1}:=eA j
    obtain⟨f1,k0,_,k2,kf,kr⟩:=ac.cp aP
    refine⟨e,A.cp 0,V,V,_,k0,λk=>?_,λk=>?_⟩
    ·simp only[aF]at k
     have av:(aJ d x).aS=1:=V
     have aW:=(t.cell _ (ar j)).fl
     have ab:=kf.len
     simp only[]at ab kf kr
     have L:=zq jc j
     simp only[jc,dY]at L
     refine⟨e,A.cp 0,V,V,f1,k2,gY.append (c:=[.i 0]) (d:=(aJ d x).aL.map Ce.i) U W.new (by simp[ab]) kf.Hk ?_ λag a5 m5 q1 T=>?_⟩
     ·have:(I.cut 0 s.length 1).len=s.length:=by have:=U.len;simp at this;omega
      rw[this,ab];omega
     have am:=ac.eV T bh bh
     have ah:HC b a ag m5:=W.trans (T.mono λaC F=>Or.inr (Or.inr F))
     have ae:cF m5 c dV [.s e]:=A.congr (T.dW _ A.lt (by rw[z];decide))
     have az:ag c=5:=by rw[T.iW _ A.lt];exact z
     have aq:ix x<(d.set (ix x) {aJ d x with aS:=(aJ d x).aS -1}).length:=by simpa using ap
     refine⟨e,ae.cp 0,V,V,am.wr (o:=0) aq bh,?_⟩
     intro m7
     obtain⟨an,Y⟩:=am.setCell ah.new aq 0 0 (f:=.nil) (b:=[]) ⟨rfl,D,D,D⟩ (λP=>absurd rfl P)
     rw[Wv]at an
     refine af (d.set (ix x) jc,(aJ d x).aL.reverse++s) _ _ ⟨ag,an,?_,ah.trans (Y.mono λaC F=>Or.inl F),t.QJ he G av,?_,by simpa using M,?_,ae.congr (Y.dW _ ae.lt (by rw[az];decide)),az⟩ ?_
     ·have:=q1.eV Y bh
      simpa using this
     ·rw[<-vv G av];exact y
     ·simp only[aZ,mI]
      have F:By (d.set (ix x) jc)+(aJ d x).aL.length=By d:=by simpa[jc]using L
      omega
     ·simp only[aZ,mI,aY]
      have F:Df (d.set (ix x) jc)+((aJ d x).aS.toNat+(aJ d x).aL.length)=Df d:=by simpa[jc]using aa
      omega
    ·simp only[ak]at k
     have P:(aJ d x).aS≠1:=V
     have F:=k8 (d:={aJ d x with aS:=(aJ d x).aS -1}) j
     simp only[ao ay]at F
     rw[ao V]at F
     have L:=zq {aJ d x with aS:=(aJ d x).aS -1} j
     refine af (fg d x,s) _ _ ⟨m,ac,U,W,t.OH he G P,?_,by simpa[fg]using M,?_,A,z⟩ ?_
     ·rw[<-sS G P];exact y
     ·simp only[fg];simp only[]at L;omega
     ·simp only[fg,aY];omega
 ·simp only[kU,bH]at h3
  have j:st=[]:=List.length_eq_zero_iff.1 V
  subst j
  rw[vu]at y
  subst y
  refine(uh C i.new R z V).mono ?_
  rintro _ S ⟨E,H,g⟩
  exact⟨m,_,E,H,i.trans g⟩
def OQ{j:O}(g:dN a j h):aO cw 203 [O.v j,.func (.func 204) #[] #[]] a λG m=>∃r:Int,G=vi r/\J a m/\(if dA h=h.length then r= -1 else r=dA h):=by
 apply lR j (.func 204,#[],#[]);have C:=g.len;refine eU (n:=h.length) (C▸g.fS) (λd m=>J a m/\∀b∈h.take d,b.aS≠0) ⟨J.aB _,D⟩ ?_;rintro d q I μ B ⟨f,i⟩ F
 refine dit (λw=>?_) λw=>?_
 ·obtain⟨b,e⟩:=ag (l:=h) (k:=d) V;obtain⟨o,H,t,u,v⟩:=(dN.ext f g).E e;refine⟨V,V,b.aS,by simpa using t,_,by simpa using u,o,by simpa using v,204,rfl,bh,?_⟩;have z:dJ cw 204 [.agg #[vi b.aS,vi b.jQ,O.v o]] q (b.aS=0):=by
   apply vB;simp -zeta only[aD,aC];intro E;exact ft D ((J.aB q).aK _)
  refine aO.mono z ?_;rintro _ E ⟨s,rfl,c,p⟩;refine⟨s,rfl,λy=>⟨_,rfl,f.trans p,?_⟩,λx=>F V _ ⟨f.trans p,bV e i (fb c x)⟩⟩;have A:=GN h d b i e (c.1 y);have:=ax e;rw[ae V,A]
 ·refine⟨_,rfl,f,?_⟩;have:=zp h d B i;have:=qb h;rw[ao V]
def Ds{e:O}(l:dT N b a e h)(B:∀s,a.size<=s->b s=0)(kb:cF a c dV [.s e])(Q:b c=5)(H:Int){fs:O}{F:List Int}(hf:ap a fs F)(aq:h.length<=1000000000)(hl:F.length<=1000000000)(hN:N<=a.size):
 aO cw 150 [vp c 0,vi H,O.v fs] a λak T=>∃i aa,ak=vi (1000+dA h)/\dT N i T aa (iH h (dA h) ⟨1,H,F⟩)/\cF T c dV [.s aa]/\HC b a i T:=by
 apply yo (c,0)
 simp -zeta only[aD,aC]
 refine(eF hf hl).then hl λY y W i1 h1=>⟨Y,rfl,?_⟩
 intro m2 G
 have z:J y G:=((J.aB y).aK _).ai (ad _) _ _
 have s3:G.size=y.size+1:=by simp[G,m2,av]
 have R:=h1.trans z
 clear_value G
 have ab:F≠[]->b Y.F=0:=λah=>by
  rcases W.F with j|j
  ·subst j;have:=i1.len;simp at this;exact absurd (List.length_eq_zero_iff.1 this.symm) ah
  ·exact B _ j
 have M:b y.size=0:=B _ h1.size
 have am:=l.len
 have al:=qb h
 refine⟨e,R.af (kb.cp 0),(OQ (dN.ext R (l.cells V))).mono ?_⟩
 rintro _ g ⟨aj,rfl,q,C⟩
 have w:=R.trans q
 have t:HC b a b g:=dv.eN _ w B
 have P:dT N b g e h:=l.eV (dv.eN (λ_=>False) w B) id id
 have n:=kb.ext w
 have i4:=i1.ext (z.trans q)
 have an:=q.size
 refine⟨q.dm bJ,aj,rfl,λj=>?_,λj=>?_⟩
 ·simp at j
  have A:dA h=h.length:=by
   rcases dL (dA h=h.length)with u|u
   ·exact u
   ·rw[ae u]at C;omega
  refine⟨e,n.cp 0,e,n.cp 0,?_⟩
  intro p
  have k:J g p:=(J.aB g).aK _
  have s5:p.size=g.size+1:=by simp[p]
  have jg:fN p g.size 0 [.i 1,.i H,.s Y]:=(cF.push g _ _).iP
  have Z:HC b a b p:=t.trans (dv.eN _ k t.new)
  clear_value p
  refine⟨k.cV (n.cp 0),dT.push (P.eV (dv.eN (λ_=>False) k t.new) id id) Z.new (x:=.mk g.size 0 1 1) rfl jg (i4.ext k) (Ra.of l (λL=>(w.trans k).same _ (l.F L).2) (λ_=>W.ext ((z.trans q).trans k)) ab hN) V λi af U X d=>?_⟩
  have S:=n.ext k
  have ac:cF U c dV [.s e]:=S.congr (d.dW _ S.lt (by rw[Q];decide))
  have ai:i c=5:=by rw[d.iW _ S.lt];exact Q
  have ag:i y.size=0:=by rw[d.iW _ V];exact M
  refine⟨λs f=>?_,ac.fH D,?_⟩
  ·simp at f;subst f
   exact d.dW _ V (by rw[M];decide)
  intro m7
  have I:dv (λE=>E=5) i U i m7:=dv.ai d.new ai _ _
  have K:cW (1000+(e.len:Int))=1000+(dA h:Int):=by rw[aQ V V];omega
  rw[K]
  refine⟨λs f=>?_,i,af,rfl,?_,cF.ai (m:=U) (o:=0) (r:=[.s af]) ac,(Z.trans (d.mono λE v=>Or.inl v)).trans (I.mono λE v=>Or.inr (Or.inl v))⟩
  ·simp at f;subst f
   exact I.dW _ (by have:=d.size;omega) (by rw[ag];decide)
  ·rw[iH,ao A];exact X.eV I bh bh
 ·simp at j
  have A:dA h≠h.length:=λu=>by rw[ao u]at C;omega
  rw[ae A]at C
  subst C
  have k:dA h<h.length:=V
  have I:Int.toNat ((dA h:Nat):Int)=dA h:=V
  have K:cW (1000+(dA h:Int))=1000+(dA h:Int):=aQ V V
  refine⟨e,n.cp 0,?_⟩
  rw[I,K]
  refine⟨V,V,P.wr (o:=0) k bh,?_⟩
  intro p
  obtain⟨X,d⟩:=P.setCell t.new k 1 H i4 (Ra.of l (λL=>w.same _ (l.F L).2) (λ_=>W.ext (z.trans q)) ab hN)
  refine⟨λs f=>?_,b,e,rfl,?_,n.congr (d.dW _ n.lt (by rw[Q];decide)),t.trans (d.mono λE v=>Or.inl v)⟩
  ·simp at f;subst f
   exact d.dW _ V (by rw[M];decide)
  ·rw[iH,ae A];exact X
end
end Go.Proofs.YtgnjacfobdjeeaaGreat
