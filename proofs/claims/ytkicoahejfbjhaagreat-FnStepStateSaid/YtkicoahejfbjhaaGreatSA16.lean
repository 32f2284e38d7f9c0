/- Part of a proof. -/
import Derived.Test.YtkicoahejfbjhaaGreatSA10
import Derived.Test.YtkicoahejfbjhaaGreatSA15
set_option linter.all false
set_option maxHeartbeats 8000000
set_option maxRecDepth 100000
namespace Go.Proofs.YtkicoahejfbjhaaGreat
open Go.Vc
section
variable{b:cN}{a:Instr}
def zh.HE{s:St}{d:List aX}{f:aX}(C:zh b s d f a){aR:List Int}(j:aR=bD f.ak f.aR (bU b a))(i:∀o∈aR,0<=o):
 fL s.heap (λc=>fA d c+de f.ak aR c+eB ((bU b a).map (aF f.ak)) c)/\∀c,0<=fA d c+de f.ak aR c:=by
 have e:=xJ (ak:=f.ak) (bU b a) f.aR C.Kh C.FW.1
 rw[<-j]at e
 refine⟨C.ok.heap.congr λc=>?_,λc=>?_⟩
 .rw[C.fr,fW,kN,e];omega
 .have:=Kf (b:=d) (λg h=>C.ok.ao g (by rw[C.fr];exact bI _ h)) c
  have:=tn (ak:=f.ak) i c
  omega
def Qw{a:List bz}{t j8:Int}(h:j8∈cy a t):1<=t/\t<=a.length/\(tc (cy a t) j8:Int)=j8 -fc a (t.toNat -1)/\(fc a (t.toNat -1):Int)<=j8:=by
 unfold cy at h⊢;by_cases b:1<=t/\t<=a.length
 .rw[an b]at h⊢;let⟨d,hd⟩:=cG a (t.toNat -1);rw[hd]at h⊢;simp only[nQ,vo]at h⊢;let⟨i,c,e⟩:=List.mem_map.1 h;rw[List.mem_range]at c;have f:tc ((List.range d.cons.length).map λi=>((fc a (t.toNat -1)+i:Nat):Int)) j8=i:=by
   unfold tc;rw[List.findIdx_eq (by simpa using c)];refine⟨by simp[<-e],λj g=>?_⟩;simp;omega
  rw[f];exact⟨b.1,b.2,V,V⟩
 .rw[ae b]at h;simp at h
def OP{k d e:Int}(l:gK d)(o:gK e)(m:E):Hl cg 138 [vi k,vi d,vi e] m (vi (OH k d e)):=by
 have i:∀n:Int,-2000000<=n/\n<=2000000->Hl cg 186 [vi (cT n)] m (vi (Fs n)):=λn q=>by
  apply If;rw[aQ V V];refine⟨?_,J.az _⟩;unfold Fs;congr 1;repeat' split
  all_goals omega
 unfold gK at l o;have p: -2000000<=d*e/\d*e<=2000000:=by
  have a:(d*e).natAbs<=999*999:=by rw[Int.natAbs_mul];exact Mk V V
  omega
 apply J2;unfold OH;refine⟨λa=>?_,λa=>⟨λb=>?_,λb=>⟨λc=>?_,λc=>⟨λf=>⟨λh=>?_,λh=>?_⟩,λf=>?_⟩⟩⟩⟩
 .simp at a;rw[an a];exact(i _ V).then λj g=>⟨_,rfl,rfl,g⟩
 .simp at a b;rw[ae a,an b];exact(i _ V).then λj g=>⟨_,rfl,rfl,g⟩
 .simp at a b c;rw[ae a,ae b,an c];exact(i _ p).then λj g=>⟨_,rfl,rfl,g⟩
 .simp at a b c f h;rw[ae a,ae b,ae c,an ⟨f,h⟩];exact⟨rfl,J.az _⟩
 .simp at a b c f h;rw[ae a,ae b,ae c,ae V];exact⟨rfl,J.az _⟩
 .simp at a b c f;rw[ae a,ae b,ae c,ae V];exact⟨rfl,J.az _⟩
section
variable{q:E}{j:Nat->Nat}{m:E}{t:Nat}{d p aT n k:O}{c:St}{g:List aX}{f:aX}{r o h:O}{u:List (List Ce)}
def J1(C:zh b c g f a){aR:List Int}(az:aR=bD f.ak f.aR (bU b a))(hM:kT b c f a aR)
 (ab:ST q j m t bJ (SB d p c aT n k) aT n k c.aT c.heap g {f with aR:=aR} r o h u)(aY:fw q d p b){aw a4:O}(ha:ap q aw a.args)(hj:ap q a4 a.eL)(bq:c.heap.length<=900000000)(bB:c.aT.length<=900000000):
 aN cg 74 [vp t 0,fv f r o h,xv a aw a4] m λ_ R=>yl q j m t d p (fj b c g f a aR) R:=by
 apply tD (t,0)
 simp -zeta only[aC,aB]
 intro m1 A
 have bl:J m A:=((J.az m).aK _).aK _
 have s1:m1.size=m.size+1:=by simp[m1]
 have s2:A.size=m.size+2:=by simp[A,s1]
 have D:=zi.Ka ab.cQ.new s1 s2
 have U:cE A m1.size dW [.i a.op,.i a.dst,.i a.bP,.i a.bY,.s aw,.s a4]:=cE.push m1 _ _
 have kF:cE A m.size dO [.i f.fE,.i f.pc,.i f.dst,.s r,.s o,.s h]:=(cE.push m _ _).ext (J.push m1 _)
 let⟨y,t2⟩:=ab.ext bl
 clear_value A
 have bA:aR.length=f.aR.length:=by rw[az];exact jZ _ _ _
 have bs:=C.FW
 have F:=C.ln
 have hd:=C.dst
 have bi:=C.F.pc
 obtain⟨pq,_,bj,hP,bo,hI⟩:=C.I
 rw[bj]at bi
 have bC:=hP.len
 have ar:0<=f.pc/\f.pc<=100000:=V
 have a8:=C.ok.depth
 have bn:=C.ok.bu
 have bu:=C.ok.dR
 rw[C.fr]at a8
 have bp:g.length<=1000:=by simp at a8;omega
 have aZ:f.ak.length=aR.length/\f.ba.length=aR.length/\aR.length<=2000:=V
 have bG:r.len=f.ak.length:=by have:=ab.fS.ak.len;simp at this;omega
 have bw:o.len=aR.length:=by have:=ab.fS.aR.len;simp at this;omega
 have bm:=ha.len
 have e4:cT (f.pc+1)=f.pc+1:=aQ V V
 have aa:1<=a.args.length->0<=aF a.args 0/\aF a.args 0<f.ak.length:=λK=>C.arg _ (fx V V)
 have M:∀{R},J q R->1<=a.args.length->af R aw.D (aw.off+Int.toNat (0:Int)*1)=some (vi (aF a.args 0)):=λZ K=>(ha.ext Z).pv V V
 have T:∀{j m bx aT n k lo lh o h u own'},ST q j m t bJ bx aT n k lo lh g {f with aR:=own'} r o h u->∀{aE:Int},0<=aE->aE<f.ak.length->af m r.D (r.off+Int.toNat aE*1)=some (vi (aF f.ak aE)):=λab aE h0 K=>(ab.Ac (by simp only[];omega)).pv h0 K
 have a7:=C.HE az hM.nn
 have bg:∀{j m n lh bx},ST q j m t bJ bx aT n k c.aT lh g {f with aR:=aR} r o h u->jx m k (g++[{f with aR:=aR}]):=λab=>ab.cQ.ao.Ea bE (λah G=>by
  rcases List.mem_append.1 G with G|G
  .have Y:=C.ok.ao ah (by rw[C.fr];exact bI _ G);obtain⟨pg,_,aI,ax,_⟩:=Y.Jd C.ok.fy;have K:=Y.lr;have N:=Y.lo;have h3:=Y.lh;rw[aI]at K N h3;have:=ax.ak;omega
  .simp at G;subst G;simp only[];omega)
 have a_:∀r',r'∈a.args->aF f.ak r'<1000->gK (aF f.ak r'):=λr' bk bt=>by
  have ay:=C.arg r' bk;rcases C.F.RL _ (fx ay.1 ay.2)with P|P
  .exact P
  .omega
 have a5:∀{ac:E}(Z:J A ac)(X:Int)(s':St),s'={c with ao:=g++[aX.put {f with aR:=aR,pc:=f.pc+1} a.dst X 0]}->
  aN cg 137 [vp t 0,vi a.dst,vi X] ac λ_ R=>eF [m1.size,m.size] ac R/\yl q j m t d p s' R:=λZ X s' v=>by
  let⟨SM,tM⟩:=y.ext Z
  refine(Bg SM V hd.1 (by simp only[];omega) (by simp only[];omega) X ar).mono ?_
  rintro _ R ⟨S',t'⟩
  exact⟨t'.dH (D.to tM),j,aT,n,k,by rw[v];exact S'.cQ,(t2.trans tM).trans t'⟩
 have aW:∀{ac:E}(Z:J A ac)(a1:Int)(s':St),s'={c with ao:=g++[{f with aR:=aR,pc:=a1}]}->
  aN cg 144 [vp t 0,vi a1] ac λ_ R=>eF [m1.size,m.size] ac R/\yl q j m t d p s' R:=λZ a1 s' v=>by
  let⟨SM,tM⟩:=y.ext Z
  refine(jU SM V a1).mono ?_
  rintro _ R ⟨S',t'⟩
  exact⟨t'.dH (D.to tM),j,aT,n,k,by rw[v];exact S'.cQ,(t2.trans tM).trans t'⟩
 refine⟨λv=>?_,λe0=>?_⟩
 .simp at v
  exact a5 (J.az _) _ _ (by unfold fj;simp only[];rw[an v])
 simp only[aj]at e0
 refine⟨λv=>?_,λe1=>?_⟩
 .simp only[bQ,aG]at v
  have N:=F.2.2.1 V
  have w:=aa V
  have H:0<=aF a.args 1/\aF a.args 1<f.ak.length:=C.arg _ (fx V V)
  have I:=hM.nH V
  refine⟨V,V,_,M y.cQ.cx V,w.1,V,_,T y w.1 w.2,V,V,_,(ha.ext y.cQ.cx).pv (i:=1) V V,H.1,V,_,T y H.1 H.2,?_⟩
  refine(OP (a_ _ (fx V V) (I _ (fx V V))) (a_ _ (fx V V) (I _ (fx V V))) A).mono ?_
  rintro _ B ⟨rfl,z⟩
  refine⟨z.dv (λS hb=>(D S hb).1),_,rfl,z.da (U.bZ 1),a5 z _ _ ?_⟩
  unfold fj;simp only[];rw[ae e0,an v]
 simp only[br,aj]at e1
 have am:¬(a.op=1\/a.op=2\/a.op=3\/a.op=4):=V
 refine⟨λv=>?_,λe5=>?_⟩
 .simp only[aG]at v
  have N:=F.2.1 V
  have w:=aa V
  have ag:(O.len aT)=c.aT.length:=by have:=y.cQ.aT.len;simp at this;omega
  refine⟨aT,y.cQ.box.bZ 6,V,V,_,M y.cQ.cx V,w.1,V,_,T y w.1 w.2,?_⟩
  intro B
  have z:J A B:=(J.az A).aK _
  have jt:fP B A.size 0 [.i (aF f.ak (aF a.args 0))]:=(cE.push A _ _).iA
  let⟨I,t3⟩:=y.ext z
  have B3:=D.to t3
  clear_value B
  refine⟨z.da (y.cQ.box.bZ 6),iF.append (zs:=[.i 0]) (x:=.mk A.size 0 1 1) (c:=[.i (aF f.ak (aF a.args 0))]) I.cQ.aT I.cQ.new rfl jt (by simp only[O.gE];omega) λau aH m4 q1 q2=>?_⟩
  have Q:iF au m4 aA 1 2 aH ((c.aT++[aF f.ak (aF a.args 0)]).map Ce.i):=by simpa using q1
  let⟨L,H⟩:=I.H9 q2 Q
  have B4:=B3.to H
  refine⟨H.dH B3,L.cQ.ms (i:=6) aL,?_⟩
  intro m5
  let⟨S5,W⟩:=L.jv 6 [.s aH]
  refine⟨W.dH B4,V,V,_,M S5.cQ.cx V,w.1,V,_,T S5 w.1 w.2,?_⟩
  refine(Bg (a:={c with aT:=c.aT++[aF f.ak (aF a.args 0)]}) S5 V hd.1 (by simp only[];omega) (by simp only[];omega) _ ar).mono ?_
  rintro _ m6 ⟨S6,t6⟩
  refine⟨t6.dH (B4.to W),au,aH,n,k,?_,(((t2.trans t3).trans H).trans W).trans t6⟩
  unfold fj;simp only[];rw[ae e0,ae am,an v];exact S6.cQ
 simp only[aj]at e5
 have ba:∀X∈f.ba,X≠0->1000<=X/\ix X<c.heap.length:=λX hw a0=>by
  obtain⟨K,dd,bf,_⟩:=C.KX X hw a0;exact⟨K,av bf⟩
 refine⟨λv=>?_,λe6=>?_⟩
 .simp only[aG]at v
  have h6:=F.2.2.2.2.1 v
  refine(uC y ha C.arg F.1 a.bP aZ (by simp only[];omega) ⟨h6.1,h6.2.1⟩ ar V V ba).mono ?_
  rintro _ B ⟨al,ak,ai,ag,L3,t3⟩
  refine⟨t3.dH D,al,ak,ai,ag,?_,t2.trans t3⟩
  have:fj b c g f a aR=nt c g {f with aR:=aR} a a.bP:=by
   unfold fj nt;simp only[];rw[ae e0,ae am,ae e5,an v];rfl
  rw[this];exact L3
 simp only[aj]at e6
 refine⟨λv=>?_,λaV=>?_⟩
 .simp only[aG]at v
  have aO:=F.2.2.2.2.2.1 v
  have ay:a.bY=0:=by rcases hI.bY with P|P;exact P;omega
  have aP:(eR b.bo).length<=12:=by
   have:=qW C.ok.fy.nN.types b.bo.length;rw[mP _ _ (ad _)]at this;exact this
  refine⟨d,y.cQ.box.bZ 0,(qC (aY.ext y.cQ.cx).bo C.ok.fy.nN.types).mono ?_⟩
  rintro _ B ⟨rfl,z⟩
  let⟨I,t3⟩:=y.ext z
  have e3:cT (((eR b.bo).length:Int)+a.bP)=cq b+a.bP:=aQ V V
  refine⟨t3.dH D,_,rfl,z.da (U.bZ 2),z.da (U.bZ 0),z.da (U.bZ 1),z.da (U.bZ 2),z.da (U.bZ 3),z.da (U.bZ 4),z.da (U.bZ 5),z.da (kF.bZ 0),z.da (kF.bZ 1),z.da (kF.bZ 2),z.da (kF.bZ 3),z.da (kF.bZ 4),z.da (kF.bZ 5),?_⟩
  rw[e3]
  refine(uC I ha C.arg F.1 (cq b+a.bP) aZ (by simp only[];omega) (by rw[ay];omega) ar V V ba).mono ?_
  rintro _ m4 ⟨au,aK,aD,aJ,Q,H⟩
  refine⟨H.dH (D.to t3),au,aK,aD,aJ,?_,(t2.trans t3).trans H⟩
  have:fj b c g f a aR=nt c g {f with aR:=aR} a (cq b+a.bP):=by
   unfold fj nt;simp only[];rw[ae e0,ae am,ae e5,ae e6,an v,ae (λhh=>hh.1 ay)];rfl
  rw[this];exact Q
 simp only[aj]at aV
 refine⟨λv=>?_,λe9=>?_⟩
 .simp only[bQ,aG]at v
  have Q:=hI.op
  unfold lY at Q
  refine(MO y aY C.ok.fy ha C.arg F.1 V (λe'=>?_) (λe'=>⟨F.2.2.1 V,hM.apply e'⟩) aZ (λah G=>?_) ar V V V V C.ok.heap).mono ?_
  .rw[ae V,ae V,ae V,ae V,an e']at Q;exact Q
  .have Y:=C.ok.ao ah (by rw[C.fr];exact bI _ G)
   obtain⟨pg,_,aI,ax,_⟩:=Y.Jd C.ok.fy
   have K:=Y.lr
   have N:=Y.lo
   have h3:=Y.lh
   rw[aI]at K N h3
   have:=ax.ak
   omega
  rintro _ B ⟨al,ak,ai,ag,L3,t3⟩
  refine⟨t3.dH D,al,ak,ai,ag,?_,t2.trans t3⟩
  have:fj b c g f a aR=qM b c g {f with aR:=aR} a:=by
   unfold fj qM;simp only[];rw[ae e0,ae am,ae e5,ae e6,ae aV,ae V,ae V,ae V,ae V,ae V,ae V,ae V,ae V];by_cases e9:a.op=9
   .rw[an e9,an e9];rfl
   .rw[ae e9,ae e9];by_cases Y:a.op=24
    .rw[an Y,an Y];rfl
    .rw[ae Y,ae Y,an V]
  rw[this];exact L3
 simp only[br,aj]at e9
 refine⟨λv=>?_,λbc=>?_⟩
 .simp only[aG]at v
  have N:=F.2.1 V
  have w:=aa V
  refine⟨V,V,_,M y.cQ.cx V,w.1,V,_,T y w.1 w.2,(MS y V (aF f.ak (aF a.args 0)) (λah G=>?_)).mono ?_⟩
  .have a0:g≠[]:=λv=>by rw[v]at G;simp at G
   have Y:g=g.dropLast++[ah]:=by
    rw[gC a0]at G;simp at G;rw[<-G];exact(fq a0).symm
   have aI:g.length=g.dropLast.length+1:=by
    have:=pV List.length Y;simpa using this
   let⟨q1,q2,q3⟩:=C.ok.chain g.dropLast.length ah f (by rw[C.fr,Y];simp) (by rw[C.fr,<-aI];simp)
   have ax:=C.ok.ao ah (by rw[C.fr,Y];simp)
   have:=ax.lr
   have:=ax.lo
   exact⟨q1,by show f.dst<_;omega,by show f.dst<_;omega⟩
  rintro _ B ⟨al,ak,ai,ag,L3,t3⟩
  refine⟨t3.dH D,al,ak,ai,ag,?_,t2.trans t3⟩
  unfold fj
  simp only[]
  rw[ae e0,ae am,ae e5,ae e6,ae aV,ae V,ae V,ae V,ae V,ae V,ae V,ae V,ae V,ae V,ae V,ae V]
  exact L3
 simp only[aj]at bc
 have bh:∀(ah:St),(if a.op=0 then ah else ah)=ah:=λah=>by split<;>rfl
 have MI:fj b c g f a aR=(
  if a.op=14 then{c with heap:=mO c.heap (aF f.ak (aF a.args 0)),ao:=g++[{f with aR:=gQ aR (aF a.args 0) (aF aR (aF a.args 0)+1),pc:=f.pc+1}]}
  else if a.op=15 then{c with heap:=nm (gY c.heap [aF f.ak (aF a.args 0)]),ao:=g++[{f with aR:=aR,pc:=f.pc+1}]}
  else if a.op=16\/a.op=17 then tm c g {f with aR:=aR} a
  else if a.op=18 then{c with ao:=g++[aX.put {f with aR:=aR,pc:=f.pc+1} a.dst (aF f.ak (aF a.args 0)) (gG (aF f.ak (aF a.args 0)))]}
  else if a.op=19 then{c with ao:=g++[aX.put {f with aR:=aR,pc:=f.pc+1} a.dst (aF (aM c.heap (aF f.ak (aF a.args 0))).aE a.bP) 0]}
  else if a.op=20 then{c with ao:=g++[{f with aR:=aR,pc:=if aF f.ak (aF a.args 0)=0 then a.bP else f.pc+1}]}
  else if a.op=21 then{c with ao:=g++[{f with aR:=aR,pc:=aF a.eL (tc (cy b.bo a.bP) (aM c.heap (aF f.ak (aF a.args 0))).j8)}]}
  else{c with ao:=g++[{f with aR:=aR,pc:=a.bP}]}):=by
  unfold fj
  simp only[]
  rw[ae e0,ae am,ae e5,ae e6,ae aV]
  by_cases aI:a.op=14
  .rw[an aI,an aI]
  rw[ae aI,ae aI]
  by_cases aJ:a.op=15
  .rw[an aJ,an aJ]
  rw[ae aJ,ae aJ]
  by_cases aK:a.op=16\/a.op=17
  .rw[an aK,an aK];rfl
  rw[ae aK,ae aK]
  by_cases aO:a.op=18
  .rw[an aO,an aO]
  rw[ae aO,ae aO]
  by_cases aP:a.op=19
  .rw[an aP,an aP]
  rw[ae aP,ae aP]
  by_cases aS:a.op=20
  .rw[an aS,an aS]
  rw[ae aS,ae aS]
  by_cases aU:a.op=21
  .rw[an aU,an aU]
  rw[ae aU,ae aU]
  have:=C.Zq
  rw[an V]
 rw[MI]
 clear MI bh
 refine⟨λv=>?_,λa6=>?_⟩
 .simp only[aG]at v
  rw[an v]
  have N:=F.2.1 V
  have w:=aa V
  let⟨Y,bv⟩:=hM.WT v
  let⟨be,bF⟩:=bS Y
  refine⟨V,V,_,M y.cQ.cx V,w.1,V,_,T y w.1 w.2,?_⟩
  intro B
  have z:J A B:=(J.az A).aK _
  have ow:gV A B aA 1 (.mk A.size 0 1 1) ([aF f.ak (aF a.args 0)].map Ce.i):=gV.new (J.az A) aA 1 _ 1 aL
  let⟨I,t3⟩:=y.ext z
  have B3:=D.to t3
  have hz:j A.size=0:=y.cQ.new _ (ad _)
  clear_value B
  refine(Dv I.cQ (ap.fZ ow aL) (λ_=>hz) (λX hw=>?_) (λbb hc=>?_) aL V).mono ?_
  .simp at hw;subst hw;exact⟨Y.1,av be⟩
  .have:=C.ok.heap.cell bb hc;have P:=this.lo;have h6:=this.hi;omega
  rintro _ m4 ⟨a2,c4⟩
  let⟨L,H⟩:=I.gA (c4.mono λah hk=>Or.inl hk) a2
  have B4:=B3.to H
  have ax:aF a.args 0<aR.length:=V
  have bz:0<=aF aR (aF a.args 0)/\aF aR (aF a.args 0)<=999999:=by
   refine⟨hM.nn _ (fx (l:=aR) w.1 ax),?_⟩;have G:=ou (l:=aR) w.1 ax;rw[az]at G;let⟨qq,a3,a9⟩:=kX _ _ _ _ G;have:=(C.OF qq (aq a3)).2;rw[<-az]at a9;omega
  have bd:cT (aF aR (aF a.args 0)+1)=aF aR (aF a.args 0)+1:=aQ V V
  refine⟨H.dH B3,V,V,_,M L.cQ.cx V,V,V,_,M L.cQ.cx V,w.1,V,aF aR (aF a.args 0),(L.Jm (by simp only[];omega)).pv w.1 ax,w.1,V,L.fS.aR.NP w.1 ax,?_⟩
  rw[bd,e4]
  intro m5
  let⟨S5,W⟩:=L.pL w.1 ax (aF aR (aF a.args 0)+1)
  refine⟨W.dH B4,(jU (a:={c with heap:=jd c.heap [aF f.ak (aF a.args 0)]}) S5 V (f.pc+1)).mono ?_⟩
  rintro _ m6 ⟨S6,t6⟩
  exact⟨t6.dH (B4.to W),j,aT,n,k,S6.cQ,(((t2.trans t3).trans H).trans W).trans t6⟩
 simp only[aj]at a6
 rw[ae a6]
 have bb:a.args.length=1->a.args=[aF a.args 0]:=λK=>by
  cases Z:a.args with
  |nil=>rw[Z]at K;simp at K
  |cons ax G=>cases G with
   |nil=>rfl
   |cons bd G=>rw[Z]at K;simp at K
 refine⟨λv=>?_,λax=>?_⟩
 .simp only[aG]at v
  rw[an v]
  have N:=F.2.1 V
  have w:=aa V
  have ht:bU b a=[aF a.args 0]:=by unfold bU;rw[an V];exact bb V
  have G:=a7.1
  rw[ht]at G
  refine⟨n,y.cQ.box.bZ 7,V,V,_,M y.cQ.cx V,w.1,V,_,T y w.1 w.2,?_⟩
  intro B
  have z:J A B:=(J.az A).aK _
  have ow:gV A B aA 1 (.mk A.size 0 1 1) ([aF f.ak (aF a.args 0)].map Ce.i):=gV.new (J.az A) aA 1 _ 1 aL
  let⟨I,t3⟩:=y.ext z
  have B3:=D.to t3
  clear_value B
  refine⟨z.da (y.cQ.box.bZ 7),(Gn I.cQ.heap I.cQ.new (ap.fZ ow aL) (e:=λS=>fA g S+de f.ak aR S) (G.congr λS=>rfl) a7.2 V).mono ?_⟩
  rintro _ m4 ⟨au,aD,rfl,a2,c4⟩
  let⟨L,H⟩:=I.gA c4 a2
  have B4:=B3.to H
  refine⟨H.dH B3,aD,rfl,L.cQ.ms (i:=7) aL,?_⟩
  intro m5
  let⟨S5,W⟩:=L.jv 7 [.s aD]
  rw[e4]
  refine⟨W.dH B4,(jU (a:={c with heap:=nm (gY c.heap [aF f.ak (aF a.args 0)])}) S5 V (f.pc+1)).mono ?_⟩
  rintro _ m6 ⟨S6,t6⟩
  exact⟨t6.dH (B4.to W),au,aT,aD,k,S6.cQ,(((t2.trans t3).trans H).trans W).trans t6⟩
 simp only[aj]at ax
 rw[ae ax]
 refine⟨λv=>?_,λau=>?_⟩
 .simp only[bQ,aG]at v
  rw[an v]
  refine(IC y ha C.arg ⟨F.2.2.2.1 v,F.1⟩ v aZ ar V V (λaH G=>?_) (hM.Ny v).1 C.ok.heap).mono ?_
  .refine⟨hM.nn aH G,?_⟩
   let⟨ah,hk⟩:=List.mem_iff_getElem?.1 G
   simp only[]at hk
   rw[az]at hk
   let⟨qq,a3,a9⟩:=kX _ _ _ _ hk
   have:=(C.OF qq (aq a3)).2
   omega
  rintro _ B ⟨al,ak,ai,ag,L3,t3⟩
  exact⟨t3.dH D,al,ak,ai,ag,L3,t2.trans t3⟩
 simp only[br,aj]at au
 rw[ae V]
 refine⟨λv=>?_,λW=>?_⟩
 .simp only[aG]at v
  rw[an v]
  have N:=F.2.1 V
  have w:=aa V
  refine⟨V,V,_,M y.cQ.cx V,w.1,V,_,T y w.1 w.2,(tE y V hd.1 (by simp only[];omega) (by simp only[];omega) _).mono ?_⟩
  rintro _ B ⟨I,t3⟩
  rw[e4]
  refine⟨t3.dH D,(jU I V (f.pc+1)).mono ?_⟩
  rintro _ m4 ⟨L,H⟩
  exact⟨H.dH (D.to t3),j,aT,n,k,L.cQ,(t2.trans t3).trans H⟩
 simp only[aj]at W
 rw[ae W]
 have ai:=y.rv aY V V (bg y)
 refine⟨λv=>?_,λI=>?_⟩
 .simp only[aG]at v
  rw[an v]
  have N:=F.2.1 V
  have w:=aa V
  let⟨Y,G⟩:=hM.load v
  have Q:=hI.op
  unfold lY at Q
  rw[ae V,ae V,ae V,ae V,ae V,ae V,ae V,an v]at Q
  refine⟨V,V,_,M y.cQ.cx V,w.1,V,_,T y w.1 w.2,(fQ ai Y.1 (bS Y).1).mono ?_⟩
  rintro _ B ⟨fl,rfl,H,z⟩
  have L:=H.len
  refine⟨z.dv (λS hb=>(D S hb).1),_,_,_,rfl,z.da (U.bZ 2),z.da (U.bZ 1),Q.2.1,V,_,H.pv Q.2.1 G,a5 z _ _ rfl⟩
 simp only[aj]at I
 rw[ae I]
 refine⟨λv=>?_,λL=>?_⟩
 .simp only[aG]at v
  rw[an v]
  have N:=F.2.1 V
  have w:=aa V
  refine⟨V,V,_,M y.cQ.cx V,w.1,V,_,T y w.1 w.2,λP=>?_,λP=>?_⟩
  .simp at P;exact aW (J.az _) _ _ (by rw[an P])
  .simp at P;rw[e4];exact aW (J.az _) _ _ (by rw[ae P])
 simp only[aj]at L
 rw[ae L]
 refine⟨λv=>?_,λag=>?_⟩
 .simp only[aG]at v
  rw[an v]
  have N:=F.2.1 V
  have w:=aa V
  let⟨Y,ak⟩:=hM.E8 v
  let⟨be,bv,a2,aH⟩:=Qw ak
  have Q:=hI.op
  unfold lY at Q
  rw[ae V,ae V,ae V,ae V,ae V,ae V,ae V,ae V,ae V,ae V,an v]at Q
  have a3:tc (cy b.bo a.bP) (aM c.heap (aF f.ak (aF a.args 0))).j8<(cy b.bo a.bP).length:=tS ⟨_,ak,aL⟩
  have bd:=hj.len
  have a9:=Q.2.2.1
  have aD:=(C.ok.heap.cell _ (aq (bS Y).1)).oL (bS Y).2
  have bz:=C.ok.fy.nN.types.len
  refine⟨V,V,_,M y.cQ.cx V,w.1,V,_,T y w.1 w.2,(fQ ai Y.1 (bS Y).1).mono ?_⟩
  rintro _ B ⟨fl,rfl,H,z⟩
  have e7:cT (a.bP -1)=((a.bP.toNat -1:Nat):Int):=by rw[aQ V V];omega
  rw[e7]
  have al:=y.cQ.cx.trans z
  refine⟨z.dv (λS hb=>(D S hb).1),_,_,_,rfl,d,z.af (y.cQ.box.bZ 0),(j7 (aY.ext al).bo C.ok.fy.nN.types V).mono ?_⟩
  rintro _ m4 ⟨rfl,G⟩
  have e8:cT ((aM c.heap (aF f.ak (aF a.args 0))).j8 -((fc b.bo (a.bP.toNat -1):Nat):Int))=((tc (cy b.bo a.bP) (aM c.heap (aF f.ak (aF a.args 0))).j8:Nat):Int):=by
   rw[aQ V V];omega
  refine⟨G.dv (λS hb=>z.lt (D S hb).1),_,rfl,G.da ((U.ext z).bZ 5),?_⟩
  rw[e8]
  refine⟨V,V,_,(hj.ext (al.trans G)).pv V V,aW (z.trans G) _ _ rfl⟩
 simp only[aj]at ag
 rw[ae ag]
 refine⟨λv=>aW (J.az _) _ _ rfl,λw=>?_⟩
 simp only[aj]at w
 have:=C.Zq
 omega
end
end
section
def TY(l a:List Int)(h:a.length=l.length):iZ (l.map Ce.i) 0 (a.map Ce.i)=a.map Ce.i:=by
 have:=BU [] (a.map Ce.i) (l.map Ce.i) bE;simp only[eE,eV]at this;rw[this,I5 bE,dX]
section
variable{p:E}{b:Nat->Nat}{m:E}{q e:Nat}{i:List Ce}{aT j g:O}{l:List Int}{k:List bM}{c:List aX}{f:aX}{r a h:O}{d:List (List Ce)}
def ST.UL(S:ST p b m q e i aT j g l k c f r a h d){aR:List Int}(t:aR.length=f.aR.length)(w:0<aR.length):fJ m a.D a.off (aR.map Ce.i).length/\ST p b (ah m a.D a.off (aR.map Ce.i)) q e i aT j g l k c {f with aR:=aR} r a h d/\To b m b (ah m a.D a.off (aR.map Ce.i)):=by
 have T:=S.fS;have B:a.cap≠0:=λe=>by have:=(T.aR.Dj e).1;simp at this;rw[this]at t;simp at t;rw[t]at w;simp at w
 have A:=T.aR.D B;have s:dp (λu=>u=11+3*c.length) b m b (ah m a.D a.off (aR.map Ce.i)):=dp.ah S.cQ.new A.2 _ _;have x:=T.aR.set (o:=0) (new:=aR.map Ce.i) bE;rw[TY _ _ t,jE]at x;have v:sU b (ah m a.D a.off (aR.map Ce.i)) g c {f with aR:=aR} r a h d:=⟨T.pY.eH s V,T.len,T.size,T.xS s λu _ y=>V,T.ak.eH s V,x,T.ba.eH s V⟩;let⟨y,z⟩:=S.cQ.jI (s.mono λu C=>V) v.sS;refine⟨?_,⟨y,v⟩,z⟩;have:=T.aR.wr (o:=0) (n:=(aR.map Ce.i).length) bE;rw[jE]at this;exact this
end
section
variable{h:E}{e:Nat->Nat}{b:E}{g:Nat}{d p aT c a:O}{s:St}
def GU{k:cN}(M:vw h e b g bJ (SB d p s aT c a) aT c a s.aT s.heap s.ao)(I:fw h d p k)(z:cU k s)(aM:∀P∈s.ao,∀A∈P.ak,A<=9223372036854775807)(aP:s.heap.length<=900000000)(aW:s.aT.length<=900000000):
 aN cg 38 [vp g 0] b λ_ m'=>yl h e b g d p (lC k s) m':=by
 apply wq (g,0)
 simp -zeta only[aC,aB]
 refine⟨s.cz,M.box.bZ 2,λT=>?_,λT=>?_⟩
 .simp at T
  rw[pQ T]
  exact⟨e,aT,c,a,M,dp.az _ M.new⟩
 have ab:s.cz=3:=by simpa using T
 let⟨n,j,u⟩:=z.split ab
 have aS:s.ao.getLast?=some j:=by rw[u];simp
 have aJ:s.ao.dropLast=n:=by rw[u];simp
 have C:zh k s n j (eu k j):=⟨z,ab,u,rfl,aM⟩
 have a1:lC k s=(open Classical in if mS (eu k j).op/\s.bu=s.dR then{s with cz:=1}else if kT k s j (eu k j) (bD j.ak j.aR (bU k (eu k j)))then fj k s n j (eu k j) (bD j.ak j.aR (bU k (eu k j)))else{s with cz:=2}):=by
  unfold lC;rw[ae (by simpa using ab),aS,aJ]
 rw[a1]
 generalize eu k j=x at*
 have L':vw h e b g bJ (SB d p s aT c a) aT c a s.aT s.heap (n++[j]):=by rw[<-u];exact M
 let⟨U,L,R,aA,Z⟩:=L'.ao.fS
 have S:ST h e b g bJ (SB d p s aT c a) aT c a s.aT s.heap n j U L R aA:=⟨L',Z⟩
 have a9:=Z.xO
 have am:=z.depth
 have a8:=z.bu
 have ba:=z.dR
 rw[u]at am
 have a_:n.length<=1000:=by simp at am;omega
 have e1:cT ((a.len:Int) -1)=(n.length:Int):=by rw[aQ V V];omega
 have e2:Int.toNat (n.length:Int)=n.length:=V
 have Q:af b g 8=some (O.v a):=S.cQ.box.bZ 8
 let⟨g0,g1,g2,g3,g4,g5⟩:=Z.iA
 refine⟨a,Q,a,Q,?_⟩
 rw[e1,e2]
 refine⟨V,V,_,g0,_,g1,_,g2,U,g3,L,g4,R,g5,?_⟩
 intro m1
 have v:J b m1:=(J.az b).aK _
 refine⟨v.da g0,v.da g1,v.da g2,v.da g3,v.da g4,v.da g5,v.da Q,v.da Q,?_⟩
 intro t
 have a2:J b t:=v.ah (ad _) _ _
 have s2:t.size=b.size+1:=by simp[t,m1,aw]
 have kF:cE t b.size dO [.i j.fE,.i j.pc,.i j.dst,.s U,.s L,.s R]:=cE.ah (m:=m1) (o:=0) (r:=[.i j.fE,.i j.pc,.i j.dst,.s U,.s L,.s R]) (cE.push b _ _)
 let⟨N,t2⟩:=S.ext a2
 clear_value t
 let⟨bh,hq,aZ,hP,aI,hI⟩:=C.I
 let⟨pa,pl,pc,bb,bd,ar,k0,k1,k2,k3,k4⟩:=I.cF.aF hq
 let⟨az,a3,ha,hj,i0,i1,i2,i3,i4,i5⟩:=ar.aF aI
 have be:=I.cF.len
 have bc:=ar.len
 have hF:=C.F
 have aY:=hF.fE
 have aq:=hF.pc
 rw[aZ]at aq
 have l:=N.cQ.cx
 refine⟨p,N.cQ.box.bZ 1,aY.1,V,pc,l.af k4,aq.1,V,_,l.af i0,_,l.af i1,_,l.af i2,_,l.af i3,az,l.af i4,a3,l.af i5,?_⟩
 intro m3
 have q:J t m3:=(J.az t).aK _
 refine⟨q.da (l.af i0),q.da (l.af i1),q.da (l.af i2),q.da (l.af i3),q.da (l.af i4),q.da (l.af i5),q.da (kF.bZ 1),q.da (l.af k4),q.da (kF.bZ 0),q.da (N.cQ.box.bZ 1),?_⟩
 intro K
 have ag:J t K:=q.ah (ad _) _ _
 have s4:K.size=t.size+1:=by simp[K,m3,aw]
 let⟨S4,t4⟩:=N.ext ag
 have a4:=kF.ext ag
 have B4:zi e K [t.size,b.size]:=λac H=>by
  simp at H;rcases H with rfl|rfl
  .exact⟨V,S.cQ.new _ V⟩
  .exact⟨V,S.cQ.new _ (ad _)⟩
 clear_value K
 have a7:=t2.trans t4
 refine(LJ _ _).mono ?_
 rintro _ m5 ⟨ac,rfl,H,ah⟩
 let⟨w,t5⟩:=S4.ext ah
 have W:=B4.to t5
 have B:=a4.ext ah
 have au:=a7.trans t5
 have aR:=C.FW
 have h4:=C.ln
 have aa:(bD j.ak j.aR (bU k x)).length=j.aR.length:=jZ _ _ _
 refine⟨t5.dH B4,ac,rfl,λaG=>⟨s.bu,w.cQ.box.bZ 4,s.dR,w.cQ.box.bZ 5,λG=>?_,λG=>?_⟩,λaF=>?_⟩
 .simp at G
  refine⟨w.cQ.ms (i:=2) aL,?_⟩
  intro m6
  let⟨F,D⟩:=w.jv 2 [.i 1]
  refine⟨D.dH W,e,aT,c,a,?_,au.trans D⟩
  rw[an ⟨H.1 aG,G⟩]
  have:=F.cQ
  rw[<-u]at this
  exact this
 all_goals
  have aH:¬(mS x.op/\s.bu=s.dR):=by
   first
   |exactλy=>by simp at G;exact G y.2
   |exactλy=>fb H aF y.1
  rw[ae aH]
  have al:=w.cQ.cx
  refine⟨d,w.cQ.box.bZ 0,p,w.cQ.box.bZ 1,(J8 (I.ext al) C.call (ha.ext al) V h4.2.2.2.1).mono ?_⟩
  rintro _ m6 ⟨ts,rfl,ot,y⟩
  let⟨F,D⟩:=w.ext y
  have B6:=W.to D
  have bf:=IU k x
  have it:ap m6 ts (bU k x):=ap.fZ ot V
  refine⟨D.dH W,ts,rfl,y.da (B.bZ 0),y.da (B.bZ 1),y.da (B.bZ 2),y.da (B.bZ 3),y.da (B.bZ 4),y.da (B.bZ 5),?_⟩
  refine(ID (b:=j) (F.Ac V) (F.Jm V) it C.Kh aR.1 V V (λA E=>oh (C.OF A E))).mono ?_
  rintro _ m7 ⟨os,rfl,oo,aE⟩
  let⟨A,t7⟩:=F.ext aE
  have B7:=B6.to t7
  have io:ap m7 os (bD j.ak j.aR (bU k x)):=ap.fZ oo V
  have aO:jx m7 a (n++[j]):=A.cQ.ao.Ea bE (λP Y=>by
   have E:=z.ao P (by rw[u];exact Y);obtain⟨pg,_,ai,X,_⟩:=E.Jd z.fy;have q1:=E.lr;have q2:=E.lo;have q3:=E.lh;rw[ai]at q1 q2 q3;have:=X.ak;omega)
  have aj:=A.rv I V V aO
  have a0:({s with ao:=n++[j]}:St)=s:=by rw[<-u]
  rw[a0]at aj
  refine⟨t7.dH B6,os,rfl,(LP aj C (A.Ac V) (A.QP V) (ha.ext A.cQ.cx) io aa).mono ?_⟩
  rintro _ m8 ⟨b2,rfl,ak,ai⟩
  let⟨P,t8⟩:=A.ext ai
  have X:=B7.to t8
  have av:=((au.trans D).trans t7).trans t8
  refine⟨t8.dH B7,b2,rfl,λh9=>?_,λh9=>?_⟩
  .rw[ae (nb ak h9)]
   refine⟨P.cQ.ms (i:=2) aL,?_⟩
   intro m9
   let⟨Y,E⟩:=P.jv 2 [.i 2]
   refine⟨E.dH X,e,aT,c,a,?_,av.trans E⟩
   have:=Y.cQ
   rw[<-u]at this
   exact this
  .have hM:=yb ak h9
   rw[an hM]
   have aV:=io.len
   have aU:L.len=j.aR.length:=by have:=P.fS.aR.len;simp at this;omega
   let⟨w1,Y,E⟩:=P.UL aa V
   refine⟨(bD j.ak j.aR (bU k x)).map Ce.i,by rw[aV,aU,aa];simp[Nat.min_def];omega,(io.ext ai).HY,w1,?_⟩
   intro m9
   have B9:=X.to E
   refine⟨E.dH X,(J1 C rfl hM Y I ha hj aP aW).mono ?_⟩
   rintro _ bg aK
   let⟨a6,a5,aX,aD,ay,ax⟩:=aK
   exact⟨ax.dH B9,a6,a5,aX,aD,ay,(av.trans E).trans ax⟩
end
end
section
variable{a:cN}{s:St}{n:Nat}
structure Sm(n:Nat)(s:St):Prop where
 heap:s.heap.length<=n
 aT:s.aT.length<=n
 ur:∀g∈s.ao,∀w∈g.ak,w<=9223372036854775807
def BH:∀(n:Nat)(h:List bM)(g:List Int),Ca h+g.length<=n->(gY h g).length=h.length
 |n,h,[],_=>by rw[sQ]
 |0,h,w::r,b=>by simp at b
 |n+1,h,w::r,b=>by
  simp only[aZ]at b;rcases dQ (fX h w)with a|a
  .let⟨e,f⟩:=bS a;by_cases c:(aM h w).aP=1
   .have d:=kj (d:=iY) e;simp only[an f,iY]at d;simp at d;rw[sR a c,BH n _ _ (by simp[iY];omega)];simp
   .have d:=kj (d:={aM h w with aP:=(aM h w).aP -1}) e;simp only[an f]at d;rw[an V]at d;rw[qe a c,BH n _ _ (by simp only[fg];omega)];simp[fg]
  .rw[qj a,BH n _ _ V]
def P9(h:List bM):(nm h).length<=h.length:=by unfold nm;simp;omega
def Lj:∀(a:List Int)(g:List bM),(jd g a).length=g.length
 |[],g=>rfl
 |w::a,g=>by rw[jd,Lj a];simp[mO]
def Nl(h:List bM)(w:Int):(apart h w).length<=h.length:=by
 unfold apart;split
 .exact bH (P9 _) aL
 .rw[Lj];simp[fg]
def ND(h:List bM)(a:Nat)(c:bM):(jc h a c).length<=h.length+1:=by
 unfold jc;split<;>simp
def QW{k:List aX}{f:aX}{x:Instr}(C:zh a s k f x)(B:Sm n s)(hn:n<=900000000)(aR:List Int)(Z:kT a s f x aR):Sm (n+1) (fj a s k f x aR):=by
 have hh:=B.heap;have ho:=B.aT;have v:=B.ur;rw[C.fr]at v;have hF:=C.F;have Y:=C.ln;have hd:=C.dst;have af:=C.FW;have t:∀r,aF f.ak r<=9223372036854775807:=λr=>by
  rcases aW r.toNat f.ak.length with m|m
  .let⟨y,b⟩:=dB m;rw[Hv b];exact v f aL y (aq b)
  .rw[aF,fR,cO m];simp
 have xS:∀g∈k,∀w∈g.ak,w<=9223372036854775807:=λg p=>v g (by simp[p]);have c:∀{g:aX},(∀w∈g.ak,w<=9223372036854775807)->∀q∈k++[g],∀w∈q.ak,w<=9223372036854775807:=λp q d=>by
  rcases List.mem_append.1 d with d|d
  .exact xS q d
  .simp at d;subst d;exact p
 have e:∀w∈f.ak,w<=9223372036854775807:=v f aL;have j:∀(H:Int),H<=9223372036854775807->∀w∈gQ f.ak x.dst H,w<=9223372036854775807:=λH hv w b=>by
  rcases pD b with rfl|b
  .exact hv
  .exact e w b
 have ab:∀{w},gK w\/fX s.heap w->w<=9223372036854775807:=λh=>by
  rcases h with h|h
  .have:=h.2;omega
  .have m:=av (bS h).1;unfold ix at m;omega
 have G:∀(g K:Int)(I:List Int),(∀w∈I,w<=9223372036854775807)->∀w∈(bW a g K I).ak,w<=9223372036854775807:=λg K I b w h=>by
  simp only[bW]at h;rcases List.mem_append.1 h with h|h
  .exact b w h
  .rw[qA h];omega
 have Ka:∀{g q:aX},(∀w∈g.ak,w<=9223372036854775807)->(∀w∈q.ak,w<=9223372036854775807)->∀J∈k++[g,q],∀w∈J.ak,w<=9223372036854775807:=λp d J o=>by
  rcases List.mem_append.1 o with o|o
  .exact xS J o
  .simp at o;rcases o with rfl|rfl
   .exact p
   .exact d
 have aa:∀w∈cL f x.args,w<=9223372036854775807:=λw b=>by
  obtain⟨r,_,rfl⟩:=List.mem_map.1 b;exact t r
 have ac:=qt s.heap;unfold fj;simp only[];by_cases y:x.op=0
 .rw[an y];exact⟨by simp only[];omega,by simp only[];omega,c (j _ (oh (Y.2.2.2.2.2.2 y)))⟩
 rw[ae y];by_cases L:x.op=1\/x.op=2\/x.op=3\/x.op=4
 .rw[an L];exact⟨by simp only[];omega,by simp only[];omega,c (j _ (oh ((PN x.op (aF f.ak (aF x.args 0)) (aF f.ak (aF x.args 1))).2)))⟩
 rw[ae L];by_cases W:x.op=5
 .rw[an W];exact⟨by simp only[];omega,bE,c (j _ (t _))⟩
 rw[ae W];by_cases A:x.op=6
 .rw[an A];split
  .refine⟨bE,by simp only[];omega,c (j _ ?_)⟩;rename_i u;have E:=Y.2.2.2.2.1 A;obtain⟨F,D,z,_⟩:=C.KX _ (fx (l:=f.ba) (i:=x.bY -1) V V) u.2;have:=av z;unfold ix at this;omega
  .refine⟨?_,by simp only[];omega,c (j _ V)⟩;have:=ND s.heap (dF s.heap) ⟨1,x.bP,cL f x.args⟩;simp only[];omega
 rw[ae A];by_cases M:x.op=10
 .rw[an M];refine⟨?_,by simp only[];omega,c (j _ V)⟩;have:=ND s.heap (dF s.heap) ⟨1,cq a+x.bP,cL f x.args⟩;simp only[];omega
 rw[ae M];by_cases N:x.op=14
 .rw[an N];exact⟨by simp[mO];omega,by simp only[];omega,c e⟩
 rw[ae N];by_cases O:x.op=15
 .rw[an O];refine⟨?_,by simp only[];omega,c e⟩;have m:=P9 (gY s.heap [aF f.ak (aF x.args 0)]);rw[BH _ _ _ (ad _)]at m;simp only[];omega
 rw[ae O];by_cases P:x.op=16\/x.op=17
 .rw[an P];split
  .exact⟨bE,by simp only[];omega,c e⟩
  .refine⟨?_,by simp only[];omega,c e⟩;have:=Nl s.heap (aF f.ak (aF x.args 0));simp only[];omega
 rw[ae P];by_cases Q:x.op=18
 .rw[an Q];exact⟨by simp only[];omega,by simp only[];omega,c (j _ (t _))⟩
 rw[ae Q];by_cases u:x.op=19
 .rw[an u];refine⟨by simp only[];omega,by simp only[];omega,c (j _ ?_)⟩;let⟨E,S⟩:=Z.load u;obtain⟨T,_,_,_,_,R⟩:=C.I;have z:=R.op;unfold lY at z;rw[ae V,ae V,ae V,ae V,ae V,ae V,ae V,an u]at z;let⟨D,F⟩:=bS E;exact ab (((C.ok.heap.cell _ (aq D)).oL F).1 _ (fx z.2.1 S))
 rw[ae u];by_cases R:x.op=20
 .rw[an R];exact⟨by simp only[];omega,by simp only[];omega,c e⟩
 rw[ae R];by_cases S:x.op=21
 .rw[an S];exact⟨by simp only[];omega,by simp only[];omega,c e⟩
 rw[ae S];by_cases T:x.op=22
 .rw[an T];exact⟨by simp only[];omega,by simp only[];omega,c e⟩
 rw[ae T];by_cases X:x.op=9
 .rw[an X];exact⟨by simp only[];omega,by simp only[];omega,Ka e (G _ _ _ aa)⟩
 rw[ae X];by_cases U:x.op=24
 .rw[an U];exact⟨by simp only[];omega,by simp only[];omega,c (G _ _ _ aa)⟩
 rw[ae U];by_cases z:x.op=11
 .rw[an z];refine⟨?_,by simp only[];omega,Ka e (G _ _ _ λw b=>?_)⟩
  .have:=Nl s.heap (aF f.ak (aF x.args 0));simp only[];omega
  .rcases List.mem_append.1 b with b|b
   .obtain⟨E,_⟩:=Z.apply z;let⟨D,F⟩:=bS E;exact ab (((C.ok.heap.cell _ (aq D)).oL F).1 _ b)
   .simp at b;subst b;exact t _
 rw[ae z];split
 .exact⟨by simp only[];omega,by simp only[];omega,aL⟩
 .rename_i D E;refine⟨by simp only[];omega,by simp only[];omega,λq d=>?_⟩;have F:D∈k:=List.mem_of_getLast? E;rcases List.mem_append.1 d with d|d
  .exact xS q ((List.dropLast_sublist k).subset d)
  .simp at d;subst d;intro w b;rcases pD b with rfl|b
   .exact t _
   .exact xS D F w b
def Vb(h:cU a s)(c:Sm n s)(l:n<=900000000):Sm (n+1) (lC a s):=by
 have b:Sm (n+1) s:=⟨by have:=c.heap;omega,oh c.aT,c.ur⟩;by_cases d:s.cz=3
 .let⟨g,f,e⟩:=h.split d;have k:s.ao.getLast?=some f:=by rw[e];simp
  have j:s.ao.dropLast=g:=by rw[e];simp
  have C:zh a s g f (eu a f):=⟨h,d,e,rfl,c.ur⟩;unfold lC;rw[ae (by simpa using d),k,j];simp only[];split
  .exact⟨b.heap,b.aT,b.ur⟩
  split
  .rename_i i;exact QW C c l _ i
  .exact⟨b.heap,b.aT,b.ur⟩
 .rw[pQ d];exact b
def wD{a:cN}:∀(k:Nat){s:St}{n:Nat},cU a s->Sm n s->n+k<=900000000->Sm (n+k) (aD a k s)
 |0,s,n,_,b,_=>b
 |k+1,s,n,h,b,c=>by
  have:=wD k (RO h) (Vb h b V) V;rw[aD];have e:n+(k+1)=n+1+k:=V;rw[e];exact this
def P5(a:cN)(dR:Int):Sm 0 (lM a dR):=⟨by simp[lM],by simp[lM],λg b w c=>by
 simp[lM]at b;subst b;simp only[bW,eE]at c;rw[qA c];omega⟩
end
section
variable{a:cN}
section
variable{c:E}{e:Nat->Nat}{m:E}{b:Nat}{d p aT g f:O}{s:St}
def P3(L:vw c e m b bJ (SB d p s aT g f) aT g f s.aT s.heap s.ao)(F:fw c d p a)(w:cU a s){y:Nat}(E:Sm y s)(h:Nat)(K:h<=100000)(M:y<=500000000):
 aN cg 46 [vp b 0,vi h] m λI u=>(∃i:Int,I=vi i)/\yl c e m b d p (aD a h s) u:=by
 apply xu (b,0)
 refine⟨λo u=>∃k:Nat,o=k/\k<=h/\yl c e m b d p (aD a k s) u,λo _=>((h:Int) -o).toNat,⟨0,rfl,dL _,e,aT,g,f,L,dp.az _ L.new⟩,?_⟩
 rintro o N ⟨k,rfl,J,A,z,x,v,l,t1⟩
 have G:=wC k w
 have t:=wD k w E V
 refine dit (λC=>?_) λC=>?_
 .refine⟨_,l.box.bZ 2,λr=>?_,λr=>?_⟩
  .refine(GU l F G t.ur (oh t.heap) (oh t.aT)).mono ?_
   rintro _ j i
   have q:cT ((k:Int)+1)=((k+1:Nat):Int):=kA (n:=h) V V
   rw[q]
   refine⟨⟨k+1,rfl,V,by rw[LZ];exact i.from t1⟩,?_⟩
   show((h:Int) -((k+1:Nat):Int)).toNat<((h:Int) -(k:Int)).toNat
   omega
  .simp at r
   have q:aD a h s=aD a k s:=by
    have D:h=k+(h -k):=V;have B:∀(i j:Nat)(s:St),aD a (i+j) s=aD a j (aD a i s):=by
     intro i;induction i with
     |zero=>intro j s;simp[aD]
     |succ i H=>intro j s;rw[Nat.succ_add];simp only[aD];exact H j _
    rw[D,B,Dz _ r]
   rw[q]
   exact⟨⟨_,rfl⟩,A,z,x,v,l,t1⟩
 .have:k=h:=V
  subst this
  exact⟨⟨_,rfl⟩,A,z,x,v,l,t1⟩
end
def EM{m:E}{t C:O}(I:fw m t C a)(x:nj a)(dR:Int):
 aN cg 89 [.agg #[O.v t,O.v C],vi dR] m λS f=>∃aT l u,S=.agg #[vi 3,vi 0,vi 0,vi dR,O.v aT,O.v l,O.v u]/\J m f/\∃b1 b2 b3 b4 k,aT.cap=0/\aT.len=0/\l.cap=0/\l.len=0/\u=.mk b4 0 1 1/\
  qU m f b1 b2 b3 k (bW a 0 0 []).ak (bW a 0 0 []).aR (bW a 0 0 []).ba/\(b4≠b1/\b4≠b2/\b4≠b3/\m.size<=b4/\b4<f.size)/\cE f b4 dO [.i 0,.i 0,.i 0,.s (.mk b1 0 k k),.s (.mk b2 0 k k),.s (.mk b3 0 k k)]:=by
 apply yX
 simp -zeta only[aC,aB]
 intro g z A p r e
 have v:J m e:=((((((J.az m).aK _).aK _).aK _).aK _).aK _).aK _
 have L:g.size=m.size+1:=by simp[g]
 have M:z.size=m.size+2:=by simp[z,L]
 have P:A.size=m.size+3:=by simp[A,M]
 have Q:p.size=m.size+4:=by simp[p,P]
 have R:r.size=m.size+5:=by simp[r,Q]
 have Y:e.size=m.size+6:=by simp[e,R]
 clear_value e
 have T:=x.nN.len
 let⟨q,n⟩:=cG a.cF 0
 have W:=(x.dz q (aq n)).ak
 have o:dN a 0=q:=by simp[dN,n]
 have B:∀b,ap e (.mk b 0 0 0) []:=λb=>⟨rfl,aL,aL,aL⟩
 refine(xZ (I.ext v) (dg 0) n V 0 (B p.size) (B r.size) bE rfl).mono ?_
 rintro _ c ⟨b1,b2,b3,rfl,N⟩
 have j:=N.ext
 have U:=N.lo
 refine⟨j.dv bE,_,_,_,_,_,_,rfl,?_⟩
 intro d s
 have w:J c d:=(J.az c).aK _
 have Z:d.size=c.size+1:=by simp[d]
 have s9:s.size=d.size:=aw _ _ _ _
 have X:=j.size
 have K:cE d c.size dO [.i 0,.i 0,.i 0,.s (.mk b1 0 q.ak.toNat q.ak.toNat),.s (.mk b2 0 q.ak.toNat q.ak.toNat),.s (.mk b3 0 q.ak.toNat q.ak.toNat)]:=cE.push c _ _
 have i:=N.Sf w
 have y:J m s:=(v.trans (j.trans w)).ah (show m.size<=g.size by omega) _ _
 have h:∀b,b≠g.size->s[b]? =d[b]? :=λb H=>bd _ _ _ _ H
 have G:(bW a 0 0 []).ak=[]++dk (q.ak.toNat -([]:List Int).length):=by simp[bW,o]
 have F:(bW a 0 0 []).aR=[]++dk (q.ak.toNat -([]:List Int).length):=by simp[bW,o,dK]
 have D:(bW a 0 0 []).ba=dk q.ak.toNat:=by simp[bW,o]
 refine⟨_,_,_,rfl,y,b1,b2,b3,c.size,q.ak.toNat,rfl,rfl,rfl,rfl,rfl,?_,V,K.congr (h _ V)⟩
 rw[G,F,D]
 exact⟨y,V,i.kr.congr (h _ V),i.ko.congr (h _ V),i.kh.congr (h _ V),N.len⟩
def T0{m j g:E}{u:Nat}{MI:List Ce}{aT i l:O}{dR:Int}{b1 b2 b3 b4 k e:Nat}(c:aT.cap=0/\aT.len=0/\i.cap=0/\i.len=0/\l=.mk b4 0 1 1)
 (N:qU m j b1 b2 b3 k (bW a 0 0 []).ak (bW a 0 0 []).aR (bW a 0 0 []).ba)(C:b4≠b1/\b4≠b2/\b4≠b3/\m.size<=b4/\b4<j.size)(B:cE j b4 dO [.i 0,.i 0,.i 0,.s (.mk b1 0 k k),.s (.mk b2 0 k k),.s (.mk b3 0 k k)])
 (d:J j g)(F:j.size<=e)(kb:cE g e u (MI++[.i 3,.i 0,.i 0,.i dR,.s aT,.s i,.s l])):
 vw m (nX (nX (pI (λ_=>0) b1 b2 b3 0) b4 4) e 1) g e u (MI++[.i 3,.i 0,.i 0,.i dR,.s aT,.s i,.s l]) aT i l [] [] [bW a 0 0 []]:=by
 have D:=N.lo
 have A:J m g:=N.ext.trans d
 have G:=kb.lt
 have H:=N.ext.size
 have t:∀b,b≠e->b≠b4->(nX (nX (pI (λ_=>0) b1 b2 b3 0) b4 4) e 1) b=pI (λ_=>0) b1 b2 b3 0 b:=λb p q=>by rw[eU p,eU q]
 let⟨y,a2,a3⟩:=(N.Sf d).pY (a:=λ_=>0) (g:=0)
 have conv:∀{v:Nat}{s:O}{w:List Ce},iF (pI (λ_=>0) b1 b2 b3 0) g aA 1 v s w->s.D≠e->s.D≠b4->iF (nX (nX (pI (λ_=>0) b1 b2 b3 0) b4 4) e 1) g aA 1 v s w:=λx p q=>x.eA (λ_=>rfl) (λ_=>t _ p q)
 refine⟨A,λb z=>?_,λb z=>?_,kb,fH _ _ _,⟨by simp[c.2.1],by rw[c.1,c.2.1];exact ad _,Or.inl c.1⟩,⟨[],⟨by simp[c.2.2.2.1],by rw[c.2.2.1,c.2.2.2.1];exact ad _,Or.inl c.2.2.1⟩,gP.nil _ _,Xq.nil⟩,?_⟩
 .rw[t b V V];unfold pI;rw[eU V,eU V,eU V]
 .rw[t b (oh d.size) (oh d.size)];unfold pI;rw[eU (oh d.size),eU (oh d.size),eU (oh d.size)]
 .refine sU.sS (a:=[]) (f:=bW a 0 0 []) (r:=.mk b1 0 k k) (e:=.mk b2 0 k k) (h:=.mk b3 0 k k) (j:=[]) ⟨?_,rfl,aL,aL,conv y (by simp only[O.jA];omega) (by simp only[O.jA];omega),conv a2 (by simp only[O.jA];omega) (by simp only[O.jA];omega),conv a3 (by simp only[O.jA];omega) (by simp only[O.jA];omega)⟩
  rw[c.2.2.2.2]
  refine⟨rfl,ad _,Or.inr ⟨b4,1,[],rfl,?_,?_,rfl⟩⟩
  .rw[eU V,fH]
  .rw[dX];exact B.ext d
end
structure Exe where
 cz:Int
 value:Int
 bu:Int
 aT:List Int
 ok:Bool
section
variable{m:E}{s:O}{l:List Int}{h:List bM}{w:Int}{a:Nat}
def eM(c:ap m s l)(n:l.length<=1000000000):od 58 [O.v s] m l:=by
 apply tw;have b:=c.len;refine⟨λh=>?_,λh=>?_⟩
 .cases s with
  |nil=>simp at b;have:l=[]:=List.length_eq_zero_iff.1 b.symm;subst this;exact⟨.nil,rfl,gV.nil _ _ _ _,J.az _⟩
  |mk a o e d=>simp at h
  |zD a o d=>simp at h
 .intro d;have a:J m d:=(J.az m).aK _;have f:gV m d aA 1 (.mk m.size 0 0 0) []:=gV.new (J.az m) aA 1 [] 0 aL;refine gV.append (zs:=[.i 0]) (d:=l.map Ce.i) f a (by simp[b]) (c.ext a).HY bE λr o a e g i j k=>⟨r,rfl,by simpa using a,e⟩
def rY(g:ap m s l)(b:Int):aN cg 112 [O.v s,vi b] m λv i=>∃r:Int,v=vi r/\J m i/\((r= -1/\b∉l)\/(b∈l/\r=tc l b)):=by
 apply tz;have j:=g.len;refine dU (n:=l.length) (j▸g.gS) (λk i=>J m i/\b∉l.take k) ⟨J.az _,aL⟩ ?_;rintro k u I μ t ⟨f,e⟩ p
 refine dit (λh=>?_) λh=>?_
 .let⟨x,d⟩:=cG l k;refine⟨V,V,x,by simpa using f.af (g.aF d),λc=>?_,λc=>p V _ ⟨f,?_⟩⟩
  .simp at c;subst c;refine⟨_,rfl,f,Or.inr ⟨aq d,?_⟩⟩;have:tc l b=k:=by
    unfold tc;rw[List.findIdx_eq (av d)];refine⟨by have:=(List.getElem?_eq_some_iff.1 d).2;simp[this],λo q=>?_⟩;simp;intro a;apply e;rw[<-a];exact List.mem_take_iff_getElem.2 ⟨o,V,rfl⟩
   rw[this]
  .rw[aU d];simp at c;intro a;rcases List.mem_append.1 a with a|a
   .exact e a
   .simp at a;exact c a
 .rw[bX V]at e;exact⟨_,rfl,f,Or.inl ⟨rfl,e⟩⟩
def lT(c:ap m s l)(n:Int):dt cg 171 [O.v s,vi n] m (n∈l):=by
 apply rp;refine(rY c n).mono ?_;rintro _ f ⟨r,rfl,d,h⟩;refine⟨_,rfl,eT ?_ d⟩;simp only[nY,ar];rcases h with⟨rfl,h⟩|⟨b,e⟩
 .exact⟨λa=>V,λa=>absurd a h⟩
 .exact⟨λ_=>b,λ_=>V⟩
def Cl{t:O}{r:List Int}(d:ap m s l)(i:ap m t r):dt cg 174 [O.v s,O.v t] m (l=r):=by
 apply tx;have j:=d.len;have q:=i.len;refine⟨λh=>bV (λe=>by subst e;simp at h;omega) (J.az _),λh=>?_⟩;simp at h;refine dU (n:=l.length) (j▸d.gS) (λk a=>J m a/\l.take k=r.take k) ⟨J.az _,aL⟩ ?_;rintro k u I μ p ⟨b,g⟩ o
 refine⟨λh=>?_,λh=>iN (by simp at h;rwa[bX V,bX V]at g) b⟩;simp only[ar]at h;let⟨x,f⟩:=cG l k;let⟨y,c⟩:=cG r k;refine⟨V,V,x,by simpa using b.af (d.aF f),V,V,y,by simpa using b.af (i.aF c),λa=>bV (λe=>?_) b,λa=>o V _ ⟨b,?_⟩⟩
 .subst e;rw[f]at c;simp at c;simp at a;exact a c
 .rw[aU f,aU c,g];simp at a;rw[a]
def ig{a:O}(i:cX m a h)(u:w<=9223372036854775807):
 aN cg 155 [O.v a,vi w] m λv p=>∃(j:Int)(e:Bool),v=.tuple #[vi j,vb e]/\(e=true<->fX h w)/\(e=true->j=ix w)/\J m p:=by
 apply FO
 have k:=i.len
 have t:=i.gS
 refine⟨λc=>?_,λc=>?_⟩
 .simp at c
  have l:cT (w -1000)=w -1000:=aQ V V
  have o:(ix w:Int)=w -1000:=by unfold ix;omega
  rw[l]
  refine⟨λg=>?_,λg=>?_⟩
  .simp at g
   let⟨f,b⟩:=cG h ((w -1000).toNat)
   obtain⟨r,s,n,_⟩:=i.aF b
   refine⟨V,V,f.aP,n,_,_,rfl,?_,λ_=>o.symm,J.az _⟩
   simp only[kD,ar]
   refine⟨λa=>⟨c,f,b,a⟩,λ⟨_,q,d,a⟩=>?_⟩
   unfold ix at d
   rw[b]at d;simp at d;subst d;exact a
  .simp at g
   refine⟨_,_,rfl,⟨sx,λ⟨_,f,b,_⟩=>?_⟩,sx,J.az _⟩
   have:=av b
   omega
 .simp at c
  exact⟨_,_,rfl,⟨sx,λk=>oh k.1⟩,sx,J.az _⟩
def KU{b:O}(f:af m a 8=some (O.v b))(g:cX m b h)(i:w<=9223372036854775807):dt cg 99 [vp a 0,vi w] m (fX h w):=by
 apply tX (a,0);refine⟨b,f,(ig g i).mono ?_⟩;rintro _ k ⟨c,d,rfl,e,_,j⟩;exact⟨c,d,rfl,eT e j⟩
def DV(e:ap m s l)(q:l.length<=100000000):od 175 [O.v s] m (kU l):=by
 apply yx;have p:=e.len;refine ez (n:=l.length) V (λk s a=>J m a/\gV m a aA 1 s ((kU (l.take k)).map Ce.i)) ⟨J.az _,by simpa[kU]using gV.nil m m aA 1⟩ ?_;rintro k s r I μ o ⟨b,a⟩ f
 refine dit (λh=>?_) λh=>?_
 .let⟨x,c⟩:=cG l k;refine⟨V,V,x,by simpa using b.af (e.aF c),λd=>?_,λg=>?_⟩
  .intro t;refine nL a b (by have:=nM (l.take k);simp at this;omega) λv u i j=>f V _ _ ⟨j,?_⟩
   rw[aU c,oQ];have:kU [x]=[x]:=by simp at d;simp[kU,d]
   rw[this];exact i
  .refine f V _ _ ⟨b,?_⟩
   rw[aU c,oQ];have:kU [x]=[]:=by simp at g;simp[kU];omega
   rw[this,dX];exact a
 .rw[bX V]at a;exact⟨s,rfl,a,b⟩
def xP(g:ap m s l):dt cg 101 [O.v s] m (R1 l):=by
 apply DP;refine(iU g 172 #[] #[] bh (λx=>x≠0) (λx _ i d=>?_)).then λb j f d=>⟨b,rfl,eT ?_ d⟩
 .simp only[eE,dX];apply zK;exact eT aL (J.az _)
 .have e:(!b)=true<->¬(b=true):=aL;rw[e,f];unfold R1;constructor
  .intro h n c;exact dP λa=>h ⟨n,c,a⟩
  .rintro h ⟨n,c,a⟩;exact a (h n c)
def vG{am U:O}{b:cN}(ac:fw m am U b)(g1:af m a 1=some (O.v U)){x:Instr}(hc:zj b x){o j:O}(z:ap m o x.args)(aQ:x.args.length<=1000000)(ao:(x.op=16\/x.op=17)->1<=x.args.length):
 aN cg 97 [vp a 0,xv x o j] m λaE T=>∃s l,aE=.tuple #[O.v s,O.v l]/\ap T s (bU b x)/\ap T l (if x.op=9\/x.op=24 then fG b x 0 x.args else[])/\J m T/\(s=.nil\/s.D=o.D\/m.size<=s.D)/\(l=.nil\/m.size<=l.D):=by
 apply sC (a,0)
 simp -zeta only[aC,aB]
 intro c
 have v:J m c:=(J.az m).aK _
 have Q:∀p∈[m.size],p<c.size:=by simp[c]
 have s1:c.size=m.size+1:=by simp[c]
 have ab:=z.len
 have aI:=z.cap
 have N:ap c .nil []:=⟨rfl,aL,aL,aL⟩
 clear_value c
 refine⟨λe=>?_,λq=>⟨λe=>?_,λt=>⟨λe=>?_,λr=>?_⟩⟩⟩
 .simp only[bQ,aG]at e
  refine⟨o,.nil,rfl,?_,by rw[ae V];exact N,v,Or.inr (Or.inl rfl),Or.inl rfl⟩
  unfold bU;rw[an V];exact z.ext v
 .simp only[bQ,aG]at e
  simp only[br,aj]at q
  refine⟨V,V,V,_,.nil,rfl,?_,by rw[ae V];exact N,v,Or.inr (Or.inl ?_),Or.inl rfl⟩
  .unfold bU;rw[ae V,an e]
   exact eS.Tl (z.ext v) (ao e)
  .cases o with
   |nil=>simp at ab;omega
   |zD p d f=>simp at ab;omega
   |mk p d l f=>rfl
 .simp only[bQ,aG]at e
  simp only[br,aj]at q t
  let⟨h0,aR,K⟩:=hc e
  have aP:=ac.cF.len
  have aO:=av K
  have aD:∃(w:O->O->Int->E->Prop)(μ0:O->O->Int->E->Nat),w O.nil O.nil (0:Int) c/\(∀(ak:O)(cR:O)(i:Int)(d:E),w ak cR i d->∃k:Nat,i=k/\k<=x.args.length/\J c d/\gV c d aA 1 ak ((jq b x k).map Ce.i)/\gV c d aA 1 cR ((fG b x 0 (x.args.take k)).map Ce.i)/\(ak≠.nil->cR≠.nil->ak.D≠cR.D))/\
   (∀(ak cR:O)(k:Nat)(d:E),k<=x.args.length->J c d->gV c d aA 1 ak ((jq b x k).map Ce.i)->gV c d aA 1 cR ((fG b x 0 (x.args.take k)).map Ce.i)->(ak≠.nil->cR≠.nil->ak.D≠cR.D)->w ak cR k d)/\(∀o p i m,μ0 o p i m=((x.args.length:Int) -i).toNat):=
   ⟨λak cR i d=>∃k:Nat,i=k/\k<=x.args.length/\J c d/\gV c d aA 1 ak ((jq b x k).map Ce.i)/\gV c d aA 1 cR ((fG b x 0 (x.args.take k)).map Ce.i)/\(ak≠.nil->cR≠.nil->ak.D≠cR.D),λ_ _ i _=>((x.args.length:Int) -i).toNat,
    ⟨0,rfl,dL _,J.az _,by simpa[jq,iD]using gV.nil c c aA 1,by simpa[fG]using gV.nil c c aA 1,λh=>absurd rfl h⟩,λ_ _ _ _ h=>h,λak cR k d f g u y A=>⟨k,rfl,f,g,u,y,A⟩,λ_ _ _ _=>rfl⟩
  let⟨w,μ0,aq,ay,ag,hμ⟩:=aD
  refine⟨w,μ0,aq,?_⟩
  intro ak cR i d hI
  obtain⟨k,rfl,hk,aa,o1,o2,I⟩:=ay ak cR i d hI
  have L:=v.trans aa
  refine dit (λh=>?_) λh=>?_
  .let⟨y,R⟩:=cG x.args k
   obtain⟨a',l',c',aH,aw,aJ,k0,k1,_⟩:=(ac.ext L).cF.aF K
   have ai:(x.args.take k).length=k:=bE
   have al:jq b x (k+1)=jq b x k++iD b x k [y]:=by
    unfold jq;rw[aU R,vm,ai,bT]
   have ah:fG b x 0 (x.args.take (k+1))=fG b x 0 (x.args.take k)++fG b x k [y]:=by
    rw[aU R,qO,ai,bT]
   have aK:(jq b x k).length<=k:=bH (tL _ _ _ _) bE
   have aM:(fG b x 0 (x.args.take k)).length<=k:=by
    have:∀(l:List Int)(j:Nat),(fG b x j l).length<=l.length:=by
     intro l;induction l with
     |nil=>intro j;exact ad _
     |cons aF l S=>intro j;have:=S (j+1);simp only[fG];split<;>simp<;>omega
    have:=this (x.args.take k) 0;omega
   have Z:cT ((k:Int)+1)=((k+1:Nat):Int):=kA (n:=x.args.length) V V
   refine⟨V,V,y,by simpa using L.af (z.aF R),U,L.af g1,h0,V,l',k1,(lT aw _).aH aa Q λp M hb u F=>⟨p,rfl,λau=>?_,λar=>?_⟩⟩
   .have A:=(KY K k).2 (hb.1 au)
    intro g
    have s4:g.size=M.size+1:=by simp[g]
    have P:=o1.ext u
    have ax:cR.len=(fG b x 0 (x.args.take k)).length:=by have:=o2.len;simp at this;omega
    refine gV.append (zs:=[.i 0]) (d:=[.i y]) ((o2.ext u).ext (J.push _ _)) (F.aK _) rfl (cE.push M _ _).iA bE λs m5 W D q3 q4 X Y=>⟨J.tv (F.aK _) D Q,?_⟩
    rw[Z]
    have az:=u.size
    refine⟨ag _ _ _ _ V D ?_ ?_ ?_,by rw[hμ,hμ];omega⟩
    .rw[al]
     have:iD b x k [y]=[]:=by simp only[iD];rw[an A]
     rw[this,dX]
     rcases P.lt with e|e
     .subst e;exact⟨P.len,Or.inl rfl⟩
     .refine P.congr ?_
      rw[X _ (show _<g.size by omega) (λC=>?_),mK,ae V]
      by_cases B:ak=.nil
      .subst B
       rcases o2.D with r|r
       .exact absurd r C
       .simp;omega
      .exact I B C
    .rw[ah]
     have:fG b x k [y]=[y]:=by simp only[fG];rw[an A]
     rw[this];simpa using W
    .intro G H
     rcases Y with⟨_,e⟩|⟨q,t,_⟩|e
     .exact absurd e H
     .rw[t];exact I G q
     .rw[e]
      rcases P.lt with f|f
      .exact absurd f G
      .show ak.D≠g.size;omega
   .have A:¬nu b x k=true:=λhh=>fb hb ar ((KY K k).1 hh)
    intro g
    have s4:g.size=M.size+1:=by simp[g]
    have P:=o2.ext u
    have ax:ak.len=(jq b x k).length:=by have:=o1.len;simp at this;omega
    refine gV.append (zs:=[.i 0]) (d:=[.i y]) ((o1.ext u).ext (J.push _ _)) (F.aK _) rfl (cE.push M _ _).iA bE λs m5 W D q3 q4 X Y=>⟨J.tv (F.aK _) D Q,?_⟩
    rw[Z]
    have az:=u.size
    refine⟨ag _ _ _ _ V D ?_ ?_ ?_,by rw[hμ,hμ];omega⟩
    .rw[al]
     have:iD b x k [y]=[y]:=by simp only[iD];rw[ae A]
     rw[this];simpa using W
    .rw[ah]
     have:fG b x k [y]=[]:=by simp only[fG];rw[ae A]
     rw[this,dX]
     rcases P.lt with e|e
     .subst e;exact⟨P.len,Or.inl rfl⟩
     .refine P.congr ?_
      rw[X _ (show _<g.size by omega) (λC=>?_),mK,ae V]
      by_cases B:cR=.nil
      .subst B
       rcases o1.D with r|r
       .exact absurd r C
       .simp;omega
      .exactλe5=>I C B e5.symm
    .intro G H
     rcases Y with⟨_,e⟩|⟨q,t,_⟩|e
     .exact absurd e G
     .rw[t];exact I q H
     .rw[e]
      rcases P.lt with f|f
      .exact absurd f H
      .show g.size≠cR.D;omega
  .have g:x.args.take k=x.args:=bX V
   rw[g]at o2
   unfold jq at o1
   rw[g]at o1
   have A:=tL b x x.args 0
   have u:∀(l:List Int)(j:Nat),(fG b x j l).length<=l.length:=by
    intro l;induction l with
    |nil=>intro j;exact ad _
    |cons aF l S=>intro j;have:=S (j+1);simp only[fG];split<;>simp<;>omega
   have y:=u x.args 0
   refine⟨ak,cR,rfl,?_,?_,L,?_,?_⟩
   .unfold bU;rw[ae V,ae V,an e];exact ap.fZ o1 V
   .rw[an e];exact ap.fZ o2 V
   .rcases o1.D with f|f
    .exact Or.inl f
    .exact Or.inr (Or.inr V)
   .rcases o2.D with f|f
    .exact Or.inl f
    .exact Or.inr V
 .simp only[br,aj]at q t r
  refine⟨.nil,.nil,rfl,?_,by rw[ae V];exact N,v,Or.inl rfl,Or.inl rfl⟩
  unfold bU;rw[ae V,ae V,ae V];exact N
end
section
variable{b:E}{i e:Nat}{d p g k h a j:O}{c:cN}{s:St}{f:aX}{x:Instr}
def HM:∀(l:List (Int×Int))(k v j:Int),uW (JD l k v) j=if j=k then v else uW l j
 |[],k,v,j=>by simp[JD,uW]
 |(a,c)::g,k,v,j=>by
  simp only[JD];split
  .rename_i h;subst h;simp only[uW];split<;>simp_all
  .rename_i h;simp only[uW];split
   .rename_i b;subst b;rw[ae (λe=>h e.symm)]
   .exact HM g k v j
def PJ(l:List Int)(k:Nat)(a:Nat):eB (l.take k) a<=eB l a:=by
 have:eB l a=eB (l.take k) a+eB (l.drop k) a:=by rw[<-lR,dm]
 have:=iC (l.drop k) a;omega
def vL{m:O}{h:List bM}(Y:af b i 8=some (O.v m))(L:cX b m h){t:Nat->Int}(H:fL h t){c:bM}(W:c∈h){f:O}(X:ap b f c.aE)(aD:h.length<=2000000000):
 dt cg 173 [vp i 0,.agg #[vi c.aP,vi c.j8,O.v f]] b (c.aP=1\/lg h c.aE):=by
 apply sF (i,0)
 unfold nG
 simp -zeta only[aC,aB]
 intro e
 have z:J b e:=(J.az b).aK _
 have s1:e.size=b.size+1:=by simp[e]
 have Z:∀g∈[b.size],g<e.size:=by simp[s1]
 have az:=(H.cell c W).fl
 have aA:=X.len
 have aE:=L.len
 clear_value e
 refine⟨λu=>iN (Or.inl (by simpa using u)) z,λu=>?_⟩
 simp only[aj]at u
 intro B
 have ah:J e B:=(J.az e).aK _
 have ar:Dq B e.size []:=⟨#[],0,by simp[B],rfl⟩
 clear_value B
 refine dU (n:=c.aE.length) V (λk d=>J e d/\∃l,Dq d e.size l/\(∀a:Nat,uW l a=eB (c.aE.take k) a)/\∀w∈c.aE.take k,1000<=w->(aM h w).aP+eB (c.aE.take k) (ix w)<=999999) ⟨ah,[],ar,λa=>by simp[uW,eB],aL⟩ ?_
 rintro k m3 ay μ hk ⟨D,l,ab,N,x⟩ ag
 have A:=z.trans D
 refine dit (λh2=>?_) λh2=>?_
 .let⟨w,o⟩:=cG c.aE k
  have ac:1000<=w->fX h w:=λm=>H.field W (aq o) m
  have ax:w<=9223372036854775807:=by
   rcases dQ (1000<=w)with q|q
   .have:=av (bS (ac q)).1;unfold ix at this;omega
   .omega
  refine⟨V,V,w,by simpa using A.af (X.aF o),m,A.af Y,(ig (cX.ext A L) ax).aH D Z ?_⟩
  rintro _ m4 ⟨a,g,rfl,v,ai,F⟩
  have p:=D.trans F
  have aN:=z.trans p
  have ao:e.size<m3.size:=by obtain⟨T,S,G,_⟩:=ab;exact(Array.getElem?_eq_some_iff.1 G).1
  have P:Dq m4 e.size l:=by obtain⟨T,S,G,r⟩:=ab;exact⟨T,S,by rw[F.same _ ao];exact G,r⟩
  have j:∀a:Nat,eB (c.aE.take (k+1)) a=eB (c.aE.take k) a+(if w=1000+(a:Int)then 1 else 0):=λa=>by
   rw[aU o,lR];simp[eB]
  refine⟨F,a,g,rfl,λU=>?_,λak=>?_⟩
  .have M:=v.1 U
   have I:=ai U
   subst I
   have ad:=ij M.1
   have aJ:=iC (c.aE.take k) (ix w)
   have aI:=km (c.aE.take k) (ix w)
   have aF:(c.aE.take k).length<=3:=bE
   have e1:cT (uW l (ix w)+1)=eB (c.aE.take (k+1)) (ix w):=by
    rw[N,j,an ad.symm];exact aQ V V
   refine⟨l,P,l,P,?_⟩
   rw[e1]
   intro m5 aa aw am
   have E:J e m5:=⟨by rw[aw];exact p.size,λg v=>by rw[am g V,p.same g v]⟩
   have R:=z.trans E
   let⟨K,aK⟩:=bS M
   obtain⟨f5,_,k0,_⟩:=(cX.ext R L).aF K
   have aG:=av K
   have aH:=(H.cell _ (aq K)).hi
   have al:uW (JD l (ix w) (eB (c.aE.take (k+1)) (ix w))) (ix w)=eB (c.aE.take (k+1)) (ix w):=by rw[HM,an rfl]
   have au:=j (ix w)
   rw[an ad.symm]at au
   have e2:cT ((aM h w).aP+eB (c.aE.take (k+1)) (ix w))=(aM h w).aP+eB (c.aE.take (k+1)) (ix w):=aQ V V
   refine⟨J.tv p E Z,m,R.af Y,V,V,_,by simpa using k0,_,aa,trivial,trivial,?_⟩
   rw[al,e2]
   refine⟨λr=>bV (λs=>?_) R,λr=>ag V _ ⟨E,_,aa,λa=>?_,λC d y=>?_⟩⟩
   .rcases s with s|s
    .exact u s
    .have:=s w (aq o) M.1
     have:=PJ c.aE (k+1) (ix w)
     simp at r;omega
   .rw[HM]
    by_cases I:(a:Int)=ix w
    .have:a=ix w:=V
     subst this;rw[an rfl]
    .rw[ae I,N,j,ae V];omega
   .by_cases Q:C=w
    .subst Q;simp at r;omega
    .rw[j,ae (λt=>Q (by rw[ij y]at t;exact t.symm))]
     rw[aU o]at d
     rcases List.mem_append.1 d with d|d
     .have:=x C d y;omega
     .simp at d;exact absurd d Q
  .have s:¬fX h w:=fb v ak
   have E:w<1000:=by
    rcases dQ (1000<=w)with q|q
    .exact absurd (ac q) s
    .omega
   refine ag V _ ⟨p,l,P,λa=>by rw[N,j,ae V];omega,λC d y=>?_⟩
   rw[j,ae V]
   rw[aU o]at d
   rcases List.mem_append.1 d with d|d
   .have:=x C d y;omega
   .simp at d;omega
 .rw[bX V]at x
  exact iN (Or.inr x) A
structure FP(b:E)(fb e:Nat)(f:aX)(g k h:O):Prop where
 g3:af b fb (e+3)=some (O.v g)
 g4:af b fb (e+4)=some (O.v k)
 g5:af b fb (e+5)=some (O.v h)
 ak:ap b g f.ak
 aR:ap b k f.aR
 ba:ap b h f.ba
def FP.ext{b c:E}{fb e:Nat}{f:aX}{g k h:O}(F:FP b fb e f g k h)(a:J b c):FP c fb e f g k h:=⟨a.af F.g3,a.af F.g4,a.af F.g5,F.ak.ext a,F.aR.ext a,F.ba.ext a⟩
def HH{fb:Nat}{aT K fr:O}(l:RV b i 3 d p aT K fr c s)(ai:af b i 2=some (vi (cq c))){fs:List aX}(C:zh c s fs f x)(M:FP b fb e f g k h)(v:ap b a x.args)(aI:x.op=11)(aj:s.heap.length<=2000000000):
 dt cg 102 [vp i 0,vp fb e,xv x a j] b (vx c s.heap (aF f.ak (aF x.args 0))):=by
 apply sE (i,0) (fb,e)
 simp -zeta only[aC,aB]
 intro u
 have r:J b u:=(J.az b).aK _
 have s1:u.size=b.size+1:=by simp[u]
 clear_value u
 have hl:∀B∈[b.size],B<u.size:=by simp[s1]
 have au:=v.len
 have aL:=M.ak.len
 have h2:=C.ln.2.2.1 V
 have q:0<=aF x.args 0/\aF x.args 0<f.ak.length:=C.arg _ (fx V V)
 have an:=C.F.pH q.1 q.2 C.Mu
 have N:=M.ext r
 have S:=C.ok.heap
 have X:=C.ok.fy
 refine⟨K,r.af l.qX,g,N.g3,V,V,_,(v.ext r).pv V V,q.1,V,_,N.ak.pv q.1 q.2,?_⟩
 generalize aF f.ak (aF x.args 0)=w at*
 refine(ig (cX.ext r l.heap) an.2).aH (J.az _) hl ?_
 rintro _ L ⟨aa,B,rfl,T,ag,E⟩
 have z:=r.trans E
 refine⟨E,aa,B,rfl,λah=>bV (λm=>nb T ah m.1) z,λU=>?_⟩
 have Y:=yb T U
 have v:=ag (by simpa using U)
 subst v
 let⟨y,al⟩:=bS Y
 have R:=S.cell _ (aq y)
 have aO:=(R.oL al).2
 have aH:=av y
 have aE:=l.heap.len
 let⟨D,W,k0,k1,k2⟩:=(cX.ext z l.heap).aF y
 refine⟨K,z.af l.qX,V,V,_,by simpa using k0,_,by simpa using k1,D,by simpa using k2,?_⟩
 intro m3 o
 have P:J L o:=((J.az L).aK _).ah (ad _) _ _
 have s4:o.size=L.size+1:=by simp[o,m3,aw]
 clear_value o
 have n:=z.trans P
 have ar:(eR c.bo).length<=12:=by
  have:=qW X.nN.types c.bo.length;rw[mP _ _ (ad _)]at this;exact this
 have az:(cq c)=((eR c.bo).length:Int):=rfl
 have aK:=l.fy.cF.len
 have aJ:=X.nN.len
 have e1:cT ((aM s.heap w).j8 -cq c)=(aM s.heap w).j8 -cq c:=aQ V V
 refine⟨cq c,n.af ai,?_⟩
 rw[e1]
 refine⟨λF=>bV (λm=>by have:=m.2.1;simp at F;omega) n,λF=>⟨p,n.af l.cF,λG=>bV (λm=>by have:=m.2.2.1;simp at G;omega) n,λG=>?_⟩⟩
 simp at F G
 let⟨ao,Z⟩:=cG c.cF (((aM s.heap w).j8 -cq c).toNat)
 have am:dN c ((aM s.heap w).j8 -cq c)=ao:=by simp[dN,Z]
 let⟨a',l',c',ac,ak,ay,j0,j1,j2,j3,j4⟩:=(l.fy.ext n).cF.aF Z
 have ax:=ac.len
 have aG:=ak.len
 have aD:=W.len
 have aA:=R.fl
 refine⟨p,n.af l.cF,V,V,a',j0,l',j1,_,j2,_,j3,c',j4,?_⟩
 intro m5 A
 have Q:J o A:=((J.az o).aK _).ah (ad _) _ _
 have s6:A.size=o.size+1:=by simp[A,m5,aw]
 clear_value A
 have t:=n.trans Q
 have e3:cT ((D.len:Int)+1)=(D.len:Int)+1:=aQ V V
 rw[e3]
 unfold vx
 rw[am]
 have aN:=E.size
 refine⟨λH=>⟨λI=>?_,λI=>bV (λm=>by have:=m.2.2.2.1;simp at I;omega) t⟩,λH=>bV (λm=>by have:=m.2.2.2.2.1;simp at H;omega) t⟩
 simp at H I
 refine(vL (t.af l.qX) (cX.ext t l.heap) S (aq y) (W.ext (P.trans Q)) aj).aH (J.az _) bE λb2 m7 ae ab _=>⟨b2,rfl,eT (ae.trans ?_) (t.trans ab)⟩
 exact⟨λhs=>⟨Y,V,V,V,V,hs⟩,λm=>m.2.2.2.2.2⟩
def DU{fb:Nat}{aT hp fr:O}(A:RV b i 3 d p aT hp fr c s){fs:List aX}(C:zh c s fs f x)(H:FP b fb e f g k h)(L:ap b a x.args)(aL:x.op=14\/x.op=19\/x.op=21\/x.op=16\/x.op=17)(aJ:s.heap.length<=2000000000):
 dt cg 103 [vp i 0,vp fb e,xv x a j] b ((x.op=14->fX s.heap (aF f.ak (aF x.args 0))/\(aM s.heap (aF f.ak (aF x.args 0))).aP<999999)/\(x.op=19->fX s.heap (aF f.ak (aF x.args 0))/\x.bP<(aM s.heap (aF f.ak (aF x.args 0))).aE.length)/\
  (x.op=21->fX s.heap (aF f.ak (aF x.args 0))/\(aM s.heap (aF f.ak (aF x.args 0))).j8∈cy c.bo x.bP)/\((x.op=16\/x.op=17)->Fi s.heap f x)):=by
 apply qY (i,0) (fb,e)
 simp -zeta only[aC,aB]
 intro Q
 have N:J b Q:=(J.az b).aK _
 have s1:Q.size=b.size+1:=by simp[Q]
 clear_value Q
 have hl:∀B∈[b.size],B<Q.size:=by simp[s1]
 have a0:=L.len
 have aZ:=L.cap
 have a9:=H.ak.len
 have a3:=H.ba.len
 have h4:=C.ln
 have a6:=C.FW
 have aK:1<=x.args.length:=V
 have aV:=h4.1
 clear h4
 have D:0<=aF x.args 0/\aF x.args 0<f.ak.length:=C.arg _ (fx V V)
 have aO:=C.F.pH D.1 D.2 C.Mu
 have F1:=H.ext N
 have hI:=C.ok.heap
 have aE:Fi s.heap f x<->(fX s.heap (aF f.ak (aF x.args 0))/\kU (aM s.heap (aF f.ak (aF x.args 0))).aE=cL f (x.args.drop 1)/\((aM s.heap (aF f.ak (aF x.args 0))).aP=1\/lg s.heap (aM s.heap (aF f.ak (aF x.args 0))).aE)/\(x.op=17->aF f.ba (aF x.args 0)=0)):=SE
 rw[aE]
 refine⟨hp,N.af A.qX,g,F1.g3,V,V,_,(L.ext N).pv V V,D.1,V,_,F1.ak.pv D.1 D.2,?_⟩
 generalize aF f.ak (aF x.args 0)=w at*
 refine(ig (cX.ext N A.heap) aO.2).aH (J.az _) hl ?_
 rintro _ E ⟨ar,B,rfl,T,aH,Z⟩
 have X:=N.trans Z
 refine⟨Z,ar,B,rfl,λaI=>bV (λu=>?_) X,λaj=>?_⟩
 .have q:=nb T aI
  rcases aL with l|l|l|l
  .exact q (u.1 l).1
  .exact q (u.2.1 l).1
  .exact q (u.2.2.1 l).1
  .exact q (u.2.2.2 l).1
 have G:=yb T aj
 have aG:=aH (by simpa using aj)
 subst aG
 let⟨W,a8⟩:=bS G
 have ai:=hI.cell _ (aq W)
 have a7:=av W
 have a4:=A.heap.len
 let⟨Y,ae,k0,k1,k2⟩:=(cX.ext X A.heap).aF W
 refine⟨hp,X.af A.qX,V,V,_,by simpa using k0,_,by simpa using k1,Y,by simpa using k2,?_⟩
 intro m3 z
 have aa:J E z:=((J.az E).aK _).ah (ad _) _ _
 have s4:z.size=E.size+1:=by simp[z,m3,aw]
 have kB:af z E.size 1=some (vi (aM s.heap w).j8):=(cE.ah (m:=m3) (o:=0) (r:=[.i (aM s.heap w).aP,.i (aM s.heap w).j8,.s Y]) (cE.push E _ _)).bZ 1
 clear_value z
 have y:=X.trans aa
 have a_:=Z.size
 have F:∀B∈[E.size,b.size],B<z.size:=bE
 have a2:=ae.len
 refine⟨λl=>?_,λau=>⟨λl=>?_,λax=>⟨λl=>?_,λay=>?_⟩⟩⟩
 .simp at l
  refine eT ?_ y
  simp
  exact⟨λt=>⟨λ_=>⟨G,t⟩,λq=>V,λq=>V,λq=>V⟩,λt=>(t.1 l).2⟩
 .simp at l
  refine eT ?_ y
  simp
  exact⟨λt=>⟨λq=>V,λ_=>⟨G,V⟩,λq=>V,λq=>V⟩,λt=>oh ((t.2.1 l).2)⟩
 .simp at l
  refine⟨d,y.af A.bo,(tf (A.fy.ext y).bo C.ok.fy.nN.types _).aH (J.az _) F ?_⟩
  rintro _ m5 ⟨I,rfl,K,v⟩
  refine⟨v,I,rfl,v.da kB,(lT K _).aH v F λb2 m6 U ac ab=>⟨b2,rfl,eT (U.trans ?_) (y.trans ab)⟩⟩
  exact⟨λt=>⟨λq=>V,λq=>V,λ_=>⟨G,t⟩,λq=>V⟩,λt=>(t.2.2.1 l).2⟩
 .simp at au ax ay
  have R:x.op=16\/x.op=17:=V
  have e1:(Int.toNat (1:Int))=1:=rfl
  have e2:(Int.toNat (a.len:Int))=a.len:=V
  rw[e1,e2]
  have al:=UP (L.ext y) aK
  have a5:=al.len
  have a1:(x.args.drop 1).length<=4:=bE
  refine⟨V,V,V,?_⟩
  refine ez (n:=(x.args.drop 1).length) V (λah s' I=>J z I/\gV z I aA 1 s' ((cL f ((x.args.drop 1).take ah)).map Ce.i)) ⟨J.az _,by simpa[cL]using gV.nil z z aA 1⟩ ?_
  rintro ah s' m5 aS μ hk ⟨v,o5⟩ aQ
  have aP:=y.trans v
  refine dit (λt=>?_) λt=>?_
  .let⟨S,I⟩:=cG (x.args.drop 1) ah
   have K:=C.arg S (wF (aq I))
   have M:=H.ext aP
   refine⟨V,V,S,by simpa using(al.ext v).aF I,g,M.g3,K.1,V,_,M.ak.pv K.1 K.2,?_⟩
   intro m6
   refine nL o5 v (by simp[cL];omega) λag m7 q1 P=>⟨J.tv (v.aK _) P F,aQ V _ _ ⟨P,?_⟩⟩
   rw[aU I]
   simpa[cL]using q1
  .rw[bX V]at o5
   have i5:ap m5 s' (cL f (x.args.drop 1)):=ap.fZ o5 (by simp[cL];omega)
   refine(DV (ae.ext (aa.trans v)) (oh ai.fl)).aH (O6 (nM (aM s.heap w).aE) ai.fl) (λB T=>v.lt (F B T)) λps m6 o6 i6 ac=>⟨ps,rfl,?_⟩
   have ab:=v.trans ac
   refine(Cl i6 (i5.ext ac)).aH ab F λb2 m7 U aW S=>⟨b2,rfl,λh8=>bV (λu=>nb U h8 (u.2.2.2 R).2.1) (y.trans S),λh8=>?_⟩
   have ak:=yb U h8
   have P:=y.trans S
   have ao:aN cg 173 [vp i 0,.agg #[vi (aM s.heap w).aP,vi (aM s.heap w).j8,O.v Y]] m7 λaR am=>eF [E.size,b.size] m7 am/\∃an:Bool,aR=vb an/\((an=true<->((aM s.heap w).aP=1\/lg s.heap (aM s.heap w).aE))/\J b am):=
    (vL (P.af A.qX) (cX.ext P A.heap) hI (aq W) (ae.ext (aa.trans S)) aJ).aH S F λb3 m8 M aY aD=>⟨b3,rfl,M,y.trans aD⟩
   have F7:=H.ext P
   have az:aF x.args 0<f.ba.length:=V
   refine⟨λI=>⟨h,F7.g5,V,V,_,(L.ext P).pv V V,D.1,V,_,F7.ba.pv D.1 az,λK=>bV (λu=>?_) P,λK=>ao.mono ?_⟩,λI=>ao.mono ?_⟩
   .simp at I K;exact K ((u.2.2.2 R).2.2.2 I)
   .rintro _ m8 ⟨hs,b3,rfl,M,ag⟩
    refine⟨hs,b3,rfl,eT (M.trans ?_) ag⟩
    simp at K
    exact⟨λhf=>⟨λq=>V,λq=>V,λq=>V,λ_=>⟨G,ak,hf,λ_=>K⟩⟩,λu=>(u.2.2.2 R).2.2.1⟩
   .rintro _ m8 ⟨hs,b3,rfl,M,ag⟩
    refine⟨hs,b3,rfl,eT (M.trans ?_) ag⟩
    simp at I
    exact⟨λhf=>⟨λq=>V,λq=>V,λq=>V,λ_=>⟨G,ak,hf,λq=>absurd q I⟩⟩,λu=>(u.2.2.2 R).2.2.1⟩
end
section
variable{b:E}{c:Nat}{a:aX}{d e h:O}
def uL(ak:List Int):∀(b a aR:List Int),bD ak aR (b++a)=bD ak (bD ak aR b) a
 |[],a,aR=>rfl
 |y::b,a,aR=>by simp only[cZ,bD,uL ak b a]
def MB{f fb:Nat}(i:af b f 0=some (vp fb c))(F:FP b fb c a d e h){x:Int}(g:0<=x/\x<a.ak.length):dt cg 100 [vi x,vp f 0] b (1000<=aF a.ak x):=by
 apply uT (f,0);have j:=F.ak.len;exact⟨(fb,c),i,d,F.g3,g.1,V,_,F.ak.pv g.1 g.2,eT aL (J.az _)⟩
def PF{mb fb:Nat}{a4 bp aT u fr:O}{g:cN}{N:St}(R:RV b mb 3 a4 bp aT u fr g N)(bb:af b mb 2=some (vi (cq g))){fs:List aX}{x:Instr}(C:zh g N fs a x){au bm:O}(Q:FP b fb c a d e h)(Z:ap b au x.args)(a1:N.heap.length<=2000000000):
 dt cg 61 [vp mb 0,vp fb c,xv x au bm] b (kT g N a x (bD a.ak a.aR (bU g x))):=by
 apply wR (mb,0) (fb,c)
 simp -zeta only[aC,aB]
 intro m1 L
 have w:J b L:=((J.az b).aK _).aK _
 have s1:m1.size=b.size+1:=by simp[m1]
 have s2:L.size=b.size+2:=by simp[L,s1]
 have P:∀j∈[m1.size,b.size],j<L.size:=bE
 have kP:af L b.size 0=some (vp fb c):=((cE.push b [.p fb c] _).ext (J.push m1 _)).bZ 0
 clear_value L
 have bu:=Z.len
 have bK:=Q.ak.len
 have bG:=Q.aR.len
 have bw:=Q.ba.len
 have bA:=C.FW
 have hd:=C.dst
 have bi:=C.Zq
 refine⟨e,w.af Q.g4,(eM (Q.aR.ext w) V).aH V P λB m3 oq iq aI=>⟨B,rfl,?_⟩⟩
 have ay:=iq.len
 have aN:=w.trans aI
 refine(vG (R.fy.ext aN) (aN.af R.cF) C.call (Z.ext aN) (oh C.ln.1) C.ln.2.2.2.1).aH aI P ?_
 rintro _ U ⟨rs,ls,rfl,aD,aO,aJ,a3,a2⟩
 have a8:=aI.trans aJ
 have bo:=oq.ext aJ
 refine⟨aJ,rs,ls,rfl,?_⟩
 have bM:=IU g x
 have bt:=C.ln.1
 have bL:=aD.len
 have a_:=C.Kh
 have bj:∀ac∈a.aR,0<=ac:=λac T=>(C.OF ac T).1
 have bI:L.size<=B.D:=by
  rcases oq.D with k|k
  .subst k;simp at ay;omega
  .exact k
 have bJ:B.D<m3.size:=by
  rcases oq.lt with k|k
  .subst k;simp at ay;omega
  .exact k
 have aK:=C.arg
 have bF:=w.size
 have kr:∀{v:E},(∀j,j<U.size->j≠B.D->v[j]? =U[j]?)->ap v rs (bU g x):=λhk=>iP aD λG=>hk _ (iE aD G) λk=>by
  have ba:x.args≠[]:=λS=>by
   let⟨y,s⟩:=Us _ G;have:=BW s;rw[S]at this;simp at this
  rcases a3 with W|W|W
  .subst W;have:=aD.len;simp at this;exact G (List.length_eq_zero_iff.1 this.symm)
  .rw[W]at k;have:=iE Z ba;omega
  .omega
 have kl:∀{v:E},(∀j,j<U.size->j≠B.D->v[j]? =U[j]?)->ap v ls (if x.op=9\/x.op=24 then fG g x 0 x.args else[]):=λhk=>iP aO λG=>hk _ (iE aO G) λk=>by
  rcases a2 with W|W
  .subst W;have:=aO.len;simp at this;exact G (List.length_eq_zero_iff.1 this.symm)
  .omega
 refine dU (n:=(bU g x).length) V (λp v=>J L v/\(∀j,j<U.size->j≠B.D->v[j]? =U[j]?)/\gV L v aA 1 B ((bD a.ak a.aR ((bU g x).take p)).map Ce.i)/\∀ac∈bD a.ak a.aR ((bU g x).take p),0<=ac) ⟨a8,λ_ _ _=>rfl,bo,bj⟩ ?_
 rintro p m5 bq μ hk ⟨ad,al,aE,K⟩ aV
 have F5:=Q.ext (w.trans ad)
 have bc:=jZ a.ak ((bU g x).take p) a.aR
 have az:ap m5 B (bD a.ak a.aR ((bU g x).take p)):=ap.fZ aE V
 refine dit (λh6=>?_) λh6=>?_
 .let⟨y,s⟩:=cG (bU g x) p
  have q:=a_ y (aq s)
  have D:bD a.ak a.aR ((bU g x).take (p+1))=if 1000<=aF a.ak y then gQ (bD a.ak a.aR ((bU g x).take p)) y (aF (bD a.ak a.aR ((bU g x).take p)) y -1)else bD a.ak a.aR ((bU g x).take p):=by
   rw[aU s,uL];rfl
  have H:y<(bD a.ak a.aR ((bU g x).take p)).length:=V
  have aW:=K _ (fx q.1 H)
  have aY:aF (bD a.ak a.aR ((bU g x).take p)) y<=999999:=by
   let⟨q',M,ak⟩:=kX ((bU g x).take p) a.aR y.toNat _ (ou q.1 H);have:=(C.OF q' (aq M)).2;omega
  refine⟨V,V,y,by simpa using(kr al).aF s,d,F5.g3,q.1,V,_,F5.ak.pv q.1 q.2,λA=>?_,λA=>aV V _ ⟨ad,al,by rw[D,ae (by simpa using A)];exact aE,by rw[D,ae (by simpa using A)];exact K⟩⟩
  simp at A
  rw[an A]at D
  refine⟨q.1,V,_,az.pv q.1 H,q.1,V,?_⟩
  have e1:cT (aF (bD a.ak a.aR ((bU g x).take p)) y -1)=aF (bD a.ak a.aR ((bU g x).take p)) y -1:=aQ V V
  rw[e1]
  rcases aE.aF with aH|⟨X,am,tail,z1,z2,z3,z4,z5⟩
  .rw[aH]at ay;simp at ay;omega
  .have a5:B.off=0:=by rw[z1];rfl
   have aa:B.D=X:=by rw[z1];rfl
   have ah:B.off+y.toNat*1=y.toNat:=V
   rw[ah,aa]
   have ax:y.toNat<((bD a.ak a.aR ((bU g x).take p)).map Ce.i).length:=bE
   refine⟨z3.fJ (by simp only[be];omega),?_⟩
   intro m6
   have F:J L m6:=ad.ah V _ _
   have ao:∀j,j<U.size->j≠B.D->m6[j]? =U[j]? :=λj t G=>by rw[bd _ _ _ _ V];exact al j t G
   have o6:gV L m6 aA 1 B ((bD a.ak a.aR ((bU g x).take (p+1))).map Ce.i):=by
    rw[D];refine⟨by rw[dY,jR,<-dY (f:=Ce.i)];exact aE.len,Or.inr ⟨X,am,tail,z1,z2,?_,?_,z5⟩⟩
    .have:=cE.ah (m:=m5) (o:=y.toNat) (r:=[.i (aF (bD a.ak a.aR ((bU g x).take p)) y -1)]) z3;have e6:iZ ((bD a.ak a.aR ((bU g x).take p)).map Ce.i++tail) y.toNat [.i (aF (bD a.ak a.aR ((bU g x).take p)) y -1)]=(gQ (bD a.ak a.aR ((bU g x).take p)) y (aF (bD a.ak a.aR ((bU g x).take p)) y -1)).map Ce.i++tail:=by
      simp only[iZ,gQ,tT];rw[Mi _ _ ax]
     rw[e6]at this;exact this
    .simp only[be,dY,jR]at z4⊢;exact z4
   have a0:=jZ a.ak ((bU g x).take (p+1)) a.aR
   have aS:ap m6 B (bD a.ak a.aR ((bU g x).take (p+1))):=ap.fZ o6 V
   have Y:aF (bD a.ak a.aR ((bU g x).take (p+1))) y=aF (bD a.ak a.aR ((bU g x).take p)) y -1:=by rw[D,UA q.1 H y q.1,an rfl]
   have ag:=aS.pv (i:=y) q.1 V
   rw[Y,ah,aa]at ag
   refine⟨J.tv ad F P,q.1,V,_,ag,λh8=>bV (λz=>?_) (w.trans F),λh8=>aV V _ ⟨F,ao,o6,λac T=>?_⟩⟩
   .simp at h8
    have ab:bD a.ak a.aR (bU g x)=bD a.ak (bD a.ak a.aR ((bU g x).take (p+1))) ((bU g x).drop (p+1)):=by rw[<-uL,dm]
    have aw:y<(bD a.ak a.aR (bU g x)).length:=by rw[jZ];omega
    have I:=ou (l:=bD a.ak a.aR (bU g x)) q.1 aw
    have aZ:=z.nn _ (aq I)
    rw[ab]at I
    let⟨q',M,ak⟩:=kX _ _ _ _ I
    have aP:=Hv M
    rw[Y]at aP
    rw[<-ab]at ak
    omega
   .rw[D]at T
    rcases pD T with T|T
    .simp at h8;omega
    .exact K ac T
 .have bk:(bU g x).take p=bU g x:=bX V
  rw[bk]at az K bc
  have aP:=kl al
  generalize bH:bD a.ak a.aR (bU g x)=aR at*
  have bf:=aP.len
  refine⟨λv=>J m5 v/\(lO x.op->aF aR x.dst<=0),?_,?_⟩
  .refine(rc _ _ ⟨V,V⟩).aH ad P λj m6 t ag F=>⟨j,rfl,λH=>⟨hd.1,V,_,(az.ext ag).pv hd.1 V,λA=>bV (λz=>?_) (w.trans F),λA=>⟨ag,λ_=>by simpa using A⟩⟩,λD=>⟨ag,λI=>absurd I (Go.Vc.fb t D)⟩⟩
   have:=z.dst (t.1 H);simp at A;omega
  .rintro m6 ⟨ag,aa⟩
   have bn:∀(ao:List Int)(jj:Nat)(y:Int),y∈fG g x jj ao->y∈ao:=by
    intro ao;induction ao with
    |nil=>intro jj y h;simp[fG]at h
    |cons D ao A=>
     intro jj y h;simp only[fG]at h;split at h
     .rcases List.mem_cons.1 h with rfl|h
      .exact bg
      .exact ai _ (A _ _ h)
     .exact ai _ (A _ _ h)
   generalize ax:(if x.op=9\/x.op=24 then fG g x 0 x.args else[])=LL at*
   have a9:∀y∈LL,0<=y/\y<a.ak.length:=λy s=>by
    rw[<-ax]at s;split at s
    .exact aK y (bn _ _ _ s)
    .simp at s
   refine dU (n:=LL.length) (bf▸aP.gS) (λp v=>J m5 v/\∀y∈LL.take p,1000<=aF a.ak y->fX N.heap (aF a.ak y)) ⟨ag,aL⟩ ?_
   rintro k2 m7 I2 μ2 bz ⟨ah,am⟩ aS
   have Y:=ad.trans ah
   have A:=w.trans Y
   have H:=Q.ext A
   refine dit (λh8=>?_) λh8=>?_
   .let⟨y,s⟩:=cG LL k2
    have q:=a9 y (aq s)
    refine⟨V,V,y,by simpa using(aP.ext ah).aF s,d,H.g3,q.1,V,_,H.ak.pv q.1 q.2,λF=>?_,λF=>aS V _ ⟨ah,bB s am λu=>by simp at F;omega⟩⟩
    simp at F
    refine(KU (A.af R.qX) (cX.ext A R.heap) (C.F.pH q.1 q.2 C.Mu).2).aH Y P λj m8 t ak I=>⟨j,rfl,λD=>bV (λz=>?_) (w.trans I),λD=>aS V _ ⟨ah.trans ak,bB s am λ_=>yb t D⟩⟩
    have M:=aq s
    rw[<-ax]at M
    split at M
    .rename_i e9;exact nb t D (z.cR e9 y M F)
    .simp at M
   .rw[bX V]at am
    have ab:(x.op=9\/x.op=24)->Ko g N.heap a x:=λe9=>by rw[an e9]at ax;rw[<-ax]at am;exact am
    have bl:=az.ext ah
    have hV:=R.ext A
    have aW:1<=x.args.length->0<=aF x.args 0/\aF x.args 0<a.ak.length:=λX=>aK _ (fx V V)
    have ga:∀{v},J b v->1<=x.args.length->af v au.D (au.off+Int.toNat (0:Int)*1)=some (vi (aF x.args 0)):=λhx X=>(Z.ext hx).pv V V
    clear aV aS al kr kl bi a3 a2
    refine⟨λk=>?_,λe1=>?_⟩
    .simp only[bQ,aG]at k
     refine(iU (Z.ext A) 100 #[] #[vp b.size 0] bh (λy=>1000<=aF a.ak y) (λy s v aw=>?_)).aH Y (λj t=>P j (by simp at t;simp[t])) λj m8 t ak I=>⟨j,rfl,eT ?_ (w.trans I)⟩
     .simpa using MB (aw.af (Y.af kP)) (H.ext aw) (aK y s)
     .have aH:(!j)=true<->¬(j=true):=aL
      rw[aH,t]
      constructor
      .intro aY
       have u:∀y∈x.args,aF a.ak y<1000:=λy s=>by
        rcases dQ (1000<=aF a.ak y)with X|X
        .exact absurd ⟨y,s,X⟩ aY
        .omega
       have M:x.op≠6/\x.op≠24/\x.op≠23/\x.op≠11/\x.op≠14/\x.op≠15/\x.op≠16/\x.op≠17/\x.op≠19/\x.op≠21:=by rcases k with k|k|k|k|k|k<;>rw[k]<;>decide
       exact⟨K,aa,λ_=>u,λq=>absurd q M.1,ab,λq=>q.elim (λh=>absurd h M.2.1) (λh=>absurd h M.2.2.1),λq=>absurd q M.2.2.1,λq=>absurd q M.2.2.2.1,λq=>absurd q M.2.2.2.2.1,λq=>absurd q M.2.2.2.2.2.1,λq=>q.elim (λh=>absurd h M.2.2.2.2.2.2.1) (λh=>absurd h M.2.2.2.2.2.2.2.1),λq=>absurd q M.2.2.2.2.2.2.2.2.1,λq=>absurd q M.2.2.2.2.2.2.2.2.2⟩
      .rintro z ⟨y,s,X⟩
       have:=z.nH V y s;omega
    simp only[br,aj]at e1
    refine⟨λk=>?_,λe6=>?_⟩
    .simp only[aG]at k
     have bx:=C.ln.2.2.2.2.1 k
     have iH:Fj N.heap a x->kT g N a x aR:=λu=>by
      refine⟨K,aa,?_,?_,ab,?_,?_,?_,?_,?_,?_,?_,?_⟩<;>intro q<;>first|(exfalso;omega)|exact u
     refine⟨λF=>?_,λF=>iN (iH λG=>absurd (by simpa using F) G) A⟩
     simp at F
     have aZ:cT (x.bY -1)=x.bY -1:=aQ V V
     rw[aZ]
     have M:0<=x.bY -1/\x.bY -1<a.ba.length:=V
     refine⟨h,H.g5,V,V,_,H.ba.pv M.1 M.2,λD=>?_,λD=>iN (iH λ_ G=>absurd (by simpa using D) G) A⟩
     simp at D
     obtain⟨T,dd,aH,_⟩:=C.KX _ (fx M.1 M.2) D
     have bC:=av aH
     have a6:ix (aF a.ba (x.bY -1))=(aF a.ba (x.bY -1) -1000).toNat:=rfl
     have a0:cT (aF a.ba (x.bY -1) -1000)=aF a.ba (x.bY -1) -1000:=aQ V V
     have bv:=R.heap.len
     let⟨f9,a5,k0,k1,a7⟩:=(cX.ext A R.heap).aF aH
     have bs:=a5.len
     have aY:aM N.heap (aF a.ba (x.bY -1))=dd:=by simp[aM,aH]
     refine⟨u,hV.qX,h,H.g5,V,V,_,H.ba.pv M.1 M.2,?_⟩
     rw[a0,<-a6]
     refine⟨V,V,f9,a7,eT ?_ A⟩
     simp only[aG]
     refine⟨λaw=>iH λ_ _=>by rw[aY];omega,λz=>?_⟩
     have:=z.jc k F D
     rw[aY]at this;omega
    simp only[aj]at e6
    refine⟨λk=>?_,λa6=>?_⟩
    .simp only[bQ,aG]at k
     refine(xP bl).aH Y P λj m8 t ak I=>⟨j,rfl,λF=>bV (λz=>nb t F (z.zero k).1) (w.trans I),λF=>?_⟩
     have F8:=Q.ext (w.trans I)
     refine⟨h,F8.g5,(xP F8.ba).aH I P λb2 m9 a0 bs aZ=>⟨b2,rfl,λD=>bV (λz=>nb a0 D (z.zero k).2) (w.trans aZ),λD=>?_⟩⟩
     have M:=w.trans aZ
     have F9:=Q.ext M
     have iH:(x.op=23->1<N.ao.length\/aF a.ak (aF x.args 0)<1000)->kT g N a x aR:=λu=>by
      refine⟨K,aa,?_,?_,ab,?_,?_,?_,?_,?_,?_,?_,?_⟩<;>intro q<;>first|exact u q|(exfalso;omega)|exact⟨(yb t F),(yb a0 D)⟩
     have bv:=R.ao.len
     refine⟨λaw=>iN (iH λq=>by simp at aw;omega) M,λaw=>⟨fr,M.af R.Ou,λaH=>iN (iH λ_=>Or.inl (by simp at aH;omega)) M,λaH=>?_⟩⟩
     simp at aw aH
     have a5:x.op=23:=V
     have X:=C.ln.2.1 V
     have S:=aW V
     refine⟨d,F9.g3,V,V,_,ga M V,S.1,V,_,F9.ak.pv S.1 S.2,eT ?_ M⟩
     simp
     refine⟨λa7=>iH λ_=>Or.inr a7,λz=>?_⟩
     rcases z.ret a5 with aY|aY
     .omega
     .exact aY
    simp only[br,aj]at a6
    refine⟨λk=>?_,λz=>?_⟩
    .simp only[aG]at k
     refine(HH hV (A.af bb) C H (Z.ext A) k a1).aH Y P λj m8 t ak I=>⟨j,rfl,eT (t.trans ?_) (w.trans I)⟩
     refine⟨λu=>?_,λh=>h.apply k⟩
     refine⟨K,aa,?_,?_,ab,?_,?_,?_,?_,?_,?_,?_,?_⟩<;>intro q<;>first|(exfalso;omega)|exact u
    simp only[aj]at z
    refine⟨λk=>?_,λF=>?_⟩
    .simp only[aG]at k
     have X:=C.ln.2.1 V
     have S:=aW V
     refine⟨d,H.g3,V,V,_,ga A V,S.1,V,_,H.ak.pv S.1 S.2,eT ?_ A⟩
     simp only[nY,ar]
     refine⟨λu=>?_,λh=>h.drop k⟩
     refine⟨K,aa,?_,?_,ab,?_,?_,?_,?_,?_,?_,?_,?_⟩<;>intro q<;>first|(exfalso;omega)|exact u
    simp only[aj]at F
    refine⟨λk=>?_,λD=>?_⟩
    .simp only[bQ,aG]at k
     refine(DU hV C H (Z.ext A) V a1).aH Y P λj m8 t ak I=>⟨j,rfl,eT (t.trans ?_) (w.trans I)⟩
     refine⟨λu=>?_,λh=>⟨h.WT,h.load,h.E8,h.Ny⟩⟩
     refine⟨K,aa,?_,?_,ab,?_,?_,?_,u.1,?_,u.2.2.2,u.2.1,u.2.2.1⟩<;>intro q<;>exfalso<;>omega
    .simp only[br,aj]at D
     refine iN ?_ A
     refine⟨K,aa,?_,?_,ab,?_,?_,?_,?_,?_,?_,?_,?_⟩<;>intro q<;>exfalso<;>omega
end
section
variable{N c:Nat}{b:Nat->Nat}{a:E}{h:List bM}
def mR(w:Int)(a:E):Hl cg 111 [vi w] a (vi (gG w)):=by
 apply vM;unfold gG;exact⟨λh=>by simp at h;rw[an h];exact⟨rfl,J.az _⟩,λh=>by simp at h;rw[ae V];exact⟨rfl,J.az _⟩⟩
def uv{d:O}(s:dJ N b a d h)(A:∀e,a.size<=e->b e=0)(kb:cE a c eC [.s d])(C:b c=5)(H:h.length<=2000000000):
 aN cg 178 [vp c 0] a λ_ g=>dJ N b g (d.cut 0 (jg h h.length) 3) (nm h)/\cE g c eC [.s (d.cut 0 (jg h h.length) 3)]/\HC b a b g:=by
 apply zP (c,0)
 have G:=s.len
 have t:=s.cells V
 have E:=t.cap
 have j:af a c 0=some (O.v d):=kb.bZ 0
 refine⟨d,j,λl g=>g=a/\∃n:Nat,l=n/\n<=h.length/\jg h n=jg h h.length,λl _=>l.toNat,⟨rfl,h.length,V,ad _,rfl⟩,?_⟩
 rintro l e ⟨rfl,n,rfl,B,u⟩
 have x:Int.toNat (0:Int)=0:=rfl
 have en:Int.toNat (n:Int)=n:=V
 have iH:jg h n=n->dJ N b (ah e c 0 [.s (d.cut 0 n 3)]) (d.cut 0 (jg h h.length) 3) (nm h)/\cE (ah e c 0 [.s (d.cut 0 n 3)]) c eC [.s (d.cut 0 (jg h h.length) 3)]/\HC b e b (ah e c 0 [.s (d.cut 0 n 3)]):=λw=>by
  have f:dp (λk=>k=5) b e b (ah e c 0 [.s (d.cut 0 n 3)]):=dp.ah A C _ _;have i:jg h h.length=n:=by rw[<-u,w]
  rw[i];refine⟨?_,cE.ah (m:=e) (o:=0) (r:=[.s (d.cut 0 n 3)]) kb,f.mono λk z=>Or.inr (Or.inl z)⟩;have:=(s.eH f bh bh).cut B;unfold nm;rw[i];exact this
 refine⟨λp=>?_,λp=>?_⟩
 .simp only[kD,ar]at p
  obtain⟨k,rfl⟩:∃k,n=k+1:=⟨n -1,V⟩
  have i:cT (((k+1:Nat):Int) -1)=(k:Int):=by rw[aQ V V];omega
  let⟨v,f⟩:=cG h k
  obtain⟨D,F,y,_⟩:=t.aF f
  refine⟨d,j,?_⟩
  rw[i]
  refine⟨V,V,v.aP,by simpa using y,λq=>⟨⟨rfl,k,rfl,V,?_⟩,by show(k:Int).toNat<((k+1:Nat):Int).toNat;omega⟩,λq=>⟨d,j,V,V,V,kb.fJ aL,?_⟩⟩
  .rw[<-u,P8 f (by simpa using q)]
  .rw[x,en];exact iH (Me f (by simpa using q))
 .simp only[kD,bL]at p
  have q:n=0:=V
  subst q
  exact⟨d,j,V,V,V,kb.fJ aL,iH rfl⟩
def FJ{e:O}(hh:dJ N b a e h)(hn:∀g,a.size<=g->b g=0)(kb:cE a c eC [.s e])(hr:b c=5){v:Int}{W:Nat->Int}(hI:fL h (λg=>W g+eB [v] g))(he:∀g,0<=W g)(a5:h.length<=2000000000):
 aN cg 109 [vp c 0,vi v] a λ_ q=>∃u aw,dJ N u q aw (nm (gY h [v]))/\cE q c eC [.s aw]/\HC b a u q:=by
 apply zO (c,0)
 intro r
 have X:J a r:=(J.az a).aK _
 have s1:r.size=a.size+1:=by simp[r]
 have o1:gV a r aA 1 (.mk a.size 0 1 1) ([v].map Ce.i):=gV.new (J.az a) aA 1 _ 1 aL
 have c1:HC b a (nX b a.size 6) r:=dp.nX X hn (ad _) V 6
 have a1:iF (nX b a.size 6) r aA 1 6 (.mk a.size 0 1 1) ([v].map Ce.i):=iF.fZ o1 λ_=>fH _ _ _
 have aK:dJ N (nX b a.size 6) r e h:=hh.eH (dp.nX (p:=λ_=>False) X hn (ad _) V 6) id id
 have aT:=kb.ext X
 have aO:nX b a.size 6 c=5:=by rw[eU (oh kb.lt)];exact hr
 clear_value r
 have aX:=Ov λaE d=>(hI.cell aE d).fl
 have aY:=hh.len
 refine OX (γ:=List bM×List Int) (λi G q=>∃u,dJ N u q e i.1/\iF u q aA 1 6 G (i.2.reverse.map Ce.i)/\HC b a u q/\fL i.1 (λg=>W g+eB i.2 g)/\gY i.1 i.2=gY h [v]/\i.1.length=h.length/\i.2.length+Cb i.1<=1+Cb h/\cE q c eC [.s e]/\u c=5) (λi=>Ca i.1+i.2.length) (h,[v])
  ⟨_,aK,a1,c1,hI,rfl,rfl,aL,aT,aO⟩ ?_
 rintro⟨d,st⟩ G m2 aU μ ⟨m,B,a2,i,t,y,K,ak,P,z⟩ ae
 simp only[]at B a2 t y K ak
 have az:G.len=st.length:=by have:=a2.len;simp at this;omega
 refine⟨λY=>?_,λY=>?_⟩
 .simp only[kD,ar]at Y
  cases st with
  |nil=>simp at az;omega
  |cons x s=>
   simp only[Qi]at a2
   let⟨p1,p2,p3⟩:=a2.U6
   simp only[aZ,mL]at az p1 p2 p3 ak
   have e1:cT ((G.len:Int) -1)=(s.length:Int):=by rw[aQ V V];omega
   have aV:=a2.le
   have e2:Int.toNat (0:Int)=0:=rfl
   have e3:Int.toNat (s.length:Int)=s.length:=V
   have aB:1000<=x->fX d x:=λM=>t.Ps he M
   have aS:x<=9223372036854775807:=by
    rcases dQ (1000<=x)with k|k
    .have:=av (bS (aB k)).1;unfold ix at this;omega
    .omega
   refine⟨e,P.bZ 0,?_⟩
   rw[e1,e2,e3]
   refine⟨V,V,x,p2,(ig (B.cells V) aS).mono ?_⟩
   rintro _ Q ⟨aD,g,rfl,ah,aI,n⟩
   refine⟨aD,g,rfl,V,V,V,λaJ=>?_,λai=>?_⟩
   .have M:=nb ah aJ
    have H:HC m m2 m Q:=dp.eG _ n i.new
    refine ae (d,s) _ _ ⟨m,B.eH (dp.eG (λ_=>False) n i.new) id id,p3.eH (dp.eG (λ_=>False) n i.new) id,i.trans H,t.Rn ?_,?_,K,by simp only[];omega,P.ext n,z⟩ aL
    .rcases dQ (1000<=x)with k|k
     .exact absurd (aB k) M
     .omega
    .rw[<-qj (w:=x) M];exact y
   .have E:=yb ah ai
    have aH:=aI (by simpa using ai)
    subst aH
    let⟨j,ax⟩:=bS E
    have ao:=av j
    have a0:=(t.cell _ (aq j)).hi
    have aF:Int.toNat ((ix x:Nat):Int)=ix x:=V
    have H:HC m m2 m Q:=dp.eG _ n i.new
    have C:dJ N m Q e d:=B.eH (dp.eG (λ_=>False) n i.new) id id
    have a3:=p3.eH (dp.eG (λ_=>False) n i.new) id
    have F:=P.ext n
    obtain⟨f0,g0,_,_,_,_⟩:=C.bZ j
    refine⟨e,F.bZ 0,?_⟩
    rw[aF]
    refine⟨V,V,_,g0,V,V,C.wr (o:=0) ao bh,?_⟩
    have e5:cT ((aM d x).aP -1)=(aM d x).aP -1:=aQ V V
    rw[e5]
    intro m4
    let⟨ab,T⟩:=C.rj H.new j ((aM d x).aP -1)
    have a4:=a3.eH T bh
    have A:cE m4 c eC [.s e]:=F.congr (T.eA _ F.lt (by rw[z];decide))
    have S:HC b a m m4:=(i.trans H).trans (T.mono λaC D=>Or.inl D)
    have Z:=kj (d:=iY) j
    simp only[an ax,iY]at Z
    simp at Z
    have aR:(d.set (ix x) {aM d x with aP:=(aM d x).aP -1})[ix x]? =some {aM d x with aP:=(aM d x).aP -1}:=eI j
    obtain⟨f1,k0,_,k2,kf,kr⟩:=ab.bZ aR
    refine⟨e,A.bZ 0,V,V,_,k0,λk=>?_,λk=>?_⟩
    .simp only[aG]at k
     have au:(aM d x).aP=1:=V
     have aW:=(t.cell _ (aq j)).fl
     have aa:=kf.len
     simp only[]at aa kf kr
     have I:=zH iY j
     simp only[iY,eV]at I
     refine⟨e,A.bZ 0,V,V,f1,k2,iF.append (zs:=[.i 0]) (c:=(aM d x).aE.map Ce.i) a4 S.new (by simp[aa]) kf.HY ?_ λaf a6 m5 q1 R=>?_⟩
     .have:(G.cut 0 s.length 1).len=s.length:=by have:=a4.len;simp at this;omega
      rw[this,aa];omega
     have al:=ab.eH R bh bh
     have ag:HC b a af m5:=S.trans (R.mono λaC D=>Or.inr (Or.inr D))
     have ac:cE m5 c eC [.s e]:=A.congr (R.eA _ A.lt (by rw[z];decide))
     have ay:af c=5:=by rw[R.gT _ A.lt];exact z
     have ap:ix x<(d.set (ix x) {aM d x with aP:=(aM d x).aP -1}).length:=by simpa using ao
     refine⟨e,ac.bZ 0,V,V,al.wr (o:=0) ap bh,?_⟩
     intro m7
     let⟨am,U⟩:=al.setCell ag.new ap 0 0 (f:=.nil) (l:=[]) ⟨rfl,aL,aL,aL⟩ (λL=>absurd rfl L)
     rw[Xn]at am
     refine ae (d.set (ix x) iY,(aM d x).aE.reverse++s) _ _ ⟨af,am,?_,ag.trans (U.mono λaC D=>Or.inl D),t.Ro he E au,?_,by simpa using K,?_,ac.congr (U.eA _ ac.lt (by rw[ay];decide)),ay⟩ ?_
     .have:=q1.eH U bh
      simpa using this
     .rw[<-sR E au];exact y
     .simp only[be,mL]
      have D:Cb (d.set (ix x) iY)+(aM d x).aE.length=Cb d:=by simpa[iY]using I
      omega
     .simp only[be,mL,aZ]
      have D:Ca (d.set (ix x) iY)+((aM d x).aP.toNat+(aM d x).aE.length)=Ca d:=by simpa[iY]using Z
      omega
    .simp only[aj]at k
     have L:(aM d x).aP≠1:=V
     have D:=kj (d:={aM d x with aP:=(aM d x).aP -1}) j
     simp only[an ax]at D
     rw[an V]at D
     have I:=zH {aM d x with aP:=(aM d x).aP -1} j
     refine ae (fg d x,s) _ _ ⟨m,ab,a4,S,t.Pt he E L,?_,by simpa[fg]using K,?_,A,z⟩ ?_
     .rw[<-qe E L];exact y
     .simp only[fg];simp only[]at I;omega
     .simp only[fg,aZ];omega
 .simp only[kD,bL]at Y
  have j:st=[]:=List.length_eq_zero_iff.1 V
  subst j
  rw[sQ]at y
  subst y
  refine(uv B i.new P z V).mono ?_
  rintro _ Q ⟨C,F,g⟩
  exact⟨m,_,C,F,i.trans g⟩
def Pz{i:O}(f:cX a i h):aN cg 218 [O.v i,.func (.func 219) #[] #[]] a λB j=>∃r:Int,B=vi r/\J a j/\(if dF h=h.length then r= -1 else r=dF h):=by
 apply lU i (.func 219,#[],#[]);have y:=f.len;refine dU (n:=h.length) (y▸f.gS) (λk j=>J a j/\∀b∈h.take k,b.aP≠0) ⟨J.az _,aL⟩ ?_;rintro k o I μ x ⟨e,g⟩ A
 refine dit (λs=>?_) λs=>?_
 .let⟨b,d⟩:=cG h k;let⟨l,C,q,g1,g2⟩:=(cX.ext e f).aF d;refine⟨V,V,b.aP,by simpa using q,_,by simpa using g1,l,by simpa using g2,219,rfl,bh,?_⟩;have v:dt cg 219 [.agg #[vi b.aP,vi b.j8,O.v l]] o (b.aP=0):=by
   apply vH;simp -zeta only[aC,aB];intro z;exact eT aL ((J.az o).aK _)
  refine aN.mono v ?_;rintro _ z ⟨p,rfl,c,m⟩;refine⟨p,rfl,λu=>⟨_,rfl,e.trans m,?_⟩,λt=>A V _ ⟨e.trans m,bB d g (fb c t)⟩⟩;have w:=Hz h k b g d (c.1 u);have:=av d;rw[ae V,w]
 .refine⟨_,rfl,e,?_⟩;have:=zG h k x g;have:=qt h;rw[an V]
def DS{e:O}(l:dJ N b a e h)(B:∀s,a.size<=s->b s=0)(kb:cE a c eC [.s e])(P:b c=5)(G:Int){Y:O}{E:List Int}(hf:ap a Y E)(aq:h.length<=1000000000)(hl:E.length<=1000000000)(hN:N<=a.size):
 aN cg 177 [vp c 0,vi G,O.v Y] a λak S=>∃i aa,ak=vi (1000+dF h)/\dJ N i S aa (jc h (dF h) ⟨1,G,E⟩)/\cE S c eC [.s aa]/\HC b a i S:=by
 apply yv (c,0)
 simp -zeta only[aC,aB]
 refine(eM hf hl).then hl λW y o1 i1 Z=>⟨W,rfl,?_⟩
 intro m2 F
 have z:J y F:=((J.az y).aK _).ah (ad _) _ _
 have s3:F.size=y.size+1:=by simp[F,m2,aw]
 have Q:=Z.trans z
 clear_value F
 have ab:E≠[]->b W.D=0:=λah=>by
  rcases o1.D with j|j
  .subst j;have:=i1.len;simp at this;exact absurd (List.length_eq_zero_iff.1 this.symm) ah
  .exact B _ j
 have L:b y.size=0:=B _ Z.size
 have am:=l.len
 have al:=qt h
 refine⟨e,Q.af (kb.bZ 0),(Pz (cX.ext Q (l.cells V))).mono ?_⟩
 rintro _ g ⟨aj,rfl,q,C⟩
 have w:=Q.trans q
 have t:HC b a b g:=dp.eG _ w B
 have M:dJ N b g e h:=l.eH (dp.eG (λ_=>False) w B) id id
 have n:=kb.ext w
 have i4:=i1.ext (z.trans q)
 have ao:=q.size
 refine⟨q.dv bE,aj,rfl,λj=>?_,λj=>?_⟩
 .simp at j
  have A:dF h=h.length:=by
   rcases dQ (dF h=h.length)with u|u
   .exact u
   .rw[ae u]at C;omega
  refine⟨e,n.bZ 0,e,n.bZ 0,?_⟩
  intro p
  have k:J g p:=(J.az g).aK _
  have s5:p.size=g.size+1:=by simp[p]
  have jt:fP p g.size 0 [.i 1,.i G,.s W]:=(cE.push g _ _).iA
  have X:HC b a b p:=t.trans (dp.eG _ k t.new)
  clear_value p
  refine⟨k.da (n.bZ 0),dJ.push (M.eH (dp.eG (λ_=>False) k t.new) id id) X.new (x:=.mk g.size 0 1 1) rfl jt (i4.ext k) (Re.of l (λK=>(w.trans k).same _ (l.D K).2) (λ_=>o1.ext ((z.trans q).trans k)) ab hN) V λi af T U d=>?_⟩
  have R:=n.ext k
  have ac:cE T c eC [.s e]:=R.congr (d.eA _ R.lt (by rw[P];decide))
  have ai:i c=5:=by rw[d.gT _ R.lt];exact P
  have ag:i y.size=0:=by rw[d.gT _ V];exact L
  refine⟨λs f=>?_,ac.fJ aL,?_⟩
  .simp at f;subst f
   exact d.eA _ V (by rw[L];decide)
  intro m7
  have H:dp (λD=>D=5) i T i m7:=dp.ah d.new ai _ _
  have I:cT (1000+(e.len:Int))=1000+(dF h:Int):=by rw[aQ V V];omega
  rw[I]
  refine⟨λs f=>?_,i,af,rfl,?_,cE.ah (m:=T) (o:=0) (r:=[.s af]) ac,(X.trans (d.mono λD v=>Or.inl v)).trans (H.mono λD v=>Or.inr (Or.inl v))⟩
  .simp at f;subst f
   exact H.eA _ (oh d.size) (by rw[ag];decide)
  .rw[jc,an A];exact U.eH H bh bh
 .simp at j
  have A:dF h≠h.length:=λu=>by rw[an u]at C;omega
  rw[ae A]at C
  subst C
  have k:dF h<h.length:=V
  have H:Int.toNat ((dF h:Nat):Int)=dF h:=V
  have I:cT (1000+(dF h:Int))=1000+(dF h:Int):=aQ V V
  refine⟨e,n.bZ 0,?_⟩
  rw[H,I]
  refine⟨V,V,M.wr (o:=0) k bh,?_⟩
  intro p
  let⟨U,d⟩:=M.setCell t.new k 1 G i4 (Re.of l (λK=>w.same _ (l.D K).2) (λ_=>o1.ext (z.trans q)) ab hN)
  refine⟨λs f=>?_,b,e,rfl,?_,n.congr (d.eA _ n.lt (by rw[P];decide)),t.trans (d.mono λD v=>Or.inl v)⟩
  .simp at f;subst f
   exact d.eA _ V (by rw[L];decide)
  .rw[jc,ae A];exact U
end
section
variable{l:List Int}
def Oy{i a b:Int}(l:gK a)(m:gK b)(o:E):Hl cg 176 [vi i,vi a,vi b] o (vi (OH i a b)):=by
 unfold gK at l m;have s: -2000000<=a*b/\a*b<=2000000:=by
  have c:(a*b).natAbs<=999*999:=by rw[Int.natAbs_mul];exact Mk V V
  omega
 have k:∀n:Int,(if(999:Int)<(if(-999:Int)>n then(-999:Int)else n)then(999:Int)else(if(-999:Int)>n then(-999:Int)else n))=Fs n:=λn=>by
  unfold Fs;repeat' split
  all_goals omega
 have p:cT (a+b)=a+b:=aQ V V;have q:cT (a -b)=a -b:=aQ V V;have r:cT (a*b)=a*b:=aQ V V;apply JA;rw[p,q,r,k,k,k];unfold OH;refine⟨λh=>by simp at h;omega,λ_=>⟨λh=>by simp at h;omega,λ_=>⟨λh=>by simp at h;omega,λ_=>⟨λh=>by simp at h;omega,λ_=>⟨λc=>?_,λc=>⟨λd=>?_,λd=>⟨λe=>?_,λe=>⟨λf=>⟨λj=>?_,λj=>?_⟩,λf=>?_⟩⟩⟩⟩⟩⟩⟩⟩
 .simp at c;rw[an c];exact⟨rfl,J.az _⟩
 .simp at c d;rw[ae c,an d];exact⟨rfl,J.az _⟩
 .simp at c d e;rw[ae c,ae d,an e];exact⟨rfl,J.az _⟩
 .simp at c d e f j;have g:i=4/\a<b:=⟨f,j⟩;rw[ae c,ae d,ae e,an g];exact⟨rfl,J.az _⟩
 .simp at c d e f j;have g:¬(i=4/\a<b):=V;rw[ae c,ae d,ae e,ae g];exact⟨rfl,J.az _⟩
 .simp at c d e f;have g:¬(i=4/\a<b):=V;rw[ae c,ae d,ae e,ae g];exact⟨rfl,J.az _⟩
def uU{a:E}{fb e:Nat}{f:aX}{j:O}(w:af a fb (e+3)=some (O.v j))(p:ap a j f.ak){s:O}(q:ap a s l)(A:∀y∈l,0<=y/\y<f.ak.length)(L:l.length<=100000000):
 od 108 [vp fb e,O.v s] a (cL f l):=by
 apply wP (fb,e)
 have K:=q.len
 have H:=p.len
 have t:Int.toNat (s.len:Int)=l.length:=V
 rw[t]
 refine⟨V,dg _,V,V,?_⟩
 intro d
 have z:J a d:=(J.az a).aK _
 have C:cE d a.size aA ((dk l.length).map Ce.i):=by rw[<-tQ];exact cE.push a _ _
 have M:d.size=a.size+1:=by simp[d]
 clear_value d
 simp only[O.jA,O.mT,O.gE,bT]
 refine dU (n:=l.length) V (λk b=>J a b/\cE b a.size aA ((cL f (l.take k)++dk (l.length -k)).map Ce.i)) ⟨z,by simpa[cL]using C⟩ ?_
 rintro k D I μ G ⟨b,c⟩ F
 refine dit (λx=>?_) λx=>?_
 .let⟨y,h⟩:=cG l k
  have i:=A y (aq h)
  have v:Int.toNat (k:Int)*1=k:=V
  refine⟨V,V,y,by simpa using b.af (q.aF h),j,b.af w,i.1,V,_,b.af (p.pv i.1 i.2),V,V,?_⟩
  rw[v]
  have g:(cL f (l.take k)).length=k:=by simp[cL];omega
  refine⟨c.fJ (by simp[g,ka];omega),?_⟩
  refine F V _ ⟨b.ah (ad _) _ _,?_⟩
  have:=cE.ah (m:=D) (o:=k) (r:=[.i (aF f.ak y)]) c
  have u:iZ ((cL f (l.take k)++dk (l.length -k)).map Ce.i) k [.i (aF f.ak y)]=(cL f (l.take (k+1))++dk (l.length -(k+1))).map Ce.i:=by
   have B:dk (l.length -k)=0::dk (l.length -(k+1)):=by
    have:l.length -k=(l.length -(k+1))+1:=V;rw[this];rfl
   rw[B,ft,lB _ _ _ _ (by simp[g])];simp only[dY,g,Qk,cK,iZ,iy];rw[aU h];simp[cL]
  rw[u]at this;exact this
 .have g:k=l.length:=V
  subst g
  rw[fu,Qk]at c
  simp only[dk,Na,dX]at c
  refine⟨_,rfl,⟨by simp[cL],Or.inr ⟨a.size,l.length,[],rfl,ad _,by rw[dX];exact c,by simp[cL],ad _⟩⟩,b⟩
abbrev IB(d p:O)(c:Int)(s:St)(aT b a:O):List Ce:=[.s d,.s p,.i c,.i s.cz,.i s.value,.i s.bu,.i s.dR,.s aT,.s b,.s a]
def DH(g:E)(i:Nat->Nat)(m:E)(h:Nat)(f p:O)(e:Int)(s:St)(c:E):Prop:=
 ∃d aT b a,vw g d c h bR (IB f p e s aT b a) aT b a s.aT s.heap s.ao/\To i m d c
def DH.from{b:E}{g h:Nat->Nat}{m e a:E}{f:Nat}{d p:O}{c:Int}{s:St}(j:DH b h e f d p c s a)(o:To g m h e):DH b g m f d p c s a:=
 let⟨q,aT,n,i,k,l⟩:=j
 ⟨q,aT,n,i,k,o.trans l⟩
section
variable{p:E}{c s:Nat->Nat}{m d:E}{q e:Nat}{g:List Ce}{aT j a:O}{n:List Int}{k:List bM}{b:List aX}{f:aX}{r o h:O}{i:List (List Ce)}
def ST.ZM(S:ST p c m q e g aT j a n k b f r o h i)(l:dp (λ_=>False) c m s d):ST p s d q e g aT j a n k b f r o h i/\To c m s d:=by
 let⟨L,t⟩:=S.cQ.gA (l.mono λ_=>False.elim) (S.cQ.heap.eH l id id);exact⟨⟨L,S.fS.eH l λ_ _=>id⟩,t⟩
def ST.fp(S:ST p c m q e g aT j a n k b f r o h i)(d:f.ak.length<=1000000/\f.aR.length<=1000000/\f.ba.length<=1000000):FP m a.D (a.off+b.length*6) f r o h:=by
 obtain⟨_,_,_,l,s,t⟩:=S.fS.iA;exact⟨l,s,t,S.Ac d.1,S.Jm d.2.1,S.QP d.2.2⟩
def qZ(S:ST p c m q e g aT j a n k b f r o h i){s:Int}(l:0<=s)(u:s<f.ak.length)(v:s<f.aR.length)(w aR:Int):
 aN cg 105 [vp a.D (a.off+b.length*6),vi s,vi w,vi aR] m λ_ d=>ST p c d q e g aT j a n k b (f.put s w aR) r o h i/\To c m c d:=by
 apply zI (a.D,a.off+b.length*6)
 obtain⟨_,_,_,y,z,A⟩:=S.fS.iA
 have C:r.len=f.ak.length:=by have:=S.fS.ak.len;simp at this;omega
 have B:o.len=f.aR.length:=by have:=S.fS.aR.len;simp at this;omega
 let⟨t,t1⟩:=S.Ah l u w
 let⟨x,t2⟩:=t.pL l (by simpa using v) aR
 exact⟨r,y,o,z,l,V,S.fS.ak.NP l u,l,V,t.fS.aR.NP l v,x,t1.trans t2⟩
end
section
variable{n:E}{g:Nat->Nat}{a:E}{k:Nat}{d p aT b e:O}{c:Int}{s:St}{j:List aX}{f:aX}{u t h:O}{q:List (List Ce)}
def ST.Ox{d:Nat}{c:List Ce}{l:List Int}{i:List bM}(S:ST n g a k d c aT b e l i j f u t h q):
 ST n (nX g a.size 5) (ah (a.push (.cells (bt [.s O.nil]) eC)) a.size 0 [.s b]) k d c aT b e l i j f u t h q/\To g a (nX g a.size 5) (ah (a.push (.cells (bt [.s O.nil]) eC)) a.size 0 [.s b])/\
  cE (ah (a.push (.cells (bt [.s O.nil]) eC)) a.size 0 [.s b]) a.size eC [.s b]:=by
 have v:J a (ah (a.push (.cells (bt [.s O.nil]) eC)) a.size 0 [.s b]):=((J.az a).aK _).ah (ad _) _ _
 have s:dp (λ_=>False) g a (nX g a.size 5) (ah (a.push (.cells (bt [.s O.nil]) eC)) a.size 0 [.s b]):=dp.nX v S.cQ.new (ad _) (by rw[aw];simp) 5
 let⟨p,t1⟩:=S.ZM s
 exact⟨p,t1,cE.ah (m:=a.push (.cells (bt [.s O.nil]) eC)) (o:=0) (r:=[.s b]) (cE.push a _ _)⟩
def Dm(S:ST n g a k bR (IB d p c s aT b e) aT b e s.aT s.heap j f u t h q)(r:Int){z:O}(E:ap a z l)(M:l.length<=1000000)(D:s.heap.length<=1000000000):
 aN cg 107 [vp k 0,vi r,O.v z] a λL x=>L=vi (1000+dF s.heap)/\∃y w,ST n y x k bR (IB d p c s aT w e) aT w e s.aT (jc s.heap (dF s.heap) ⟨1,r,l⟩) j f u t h q/\To g a y x:=by
 apply uR (k,0)
 simp -zeta only[aC,aB]
 refine⟨b,S.cQ.box.bZ 8,?_⟩
 intro N H
 let⟨m,t2,kb⟩:=S.Ox
 have F:J a H:=((J.az a).aK _).ah (ad _) _ _
 refine(DS m.cQ.heap m.cQ.new kb (fH _ _ _) r (E.ext F) D V m.cQ.cx.size).mono ?_
 rintro _ P ⟨I,o,rfl,C,G,B⟩
 let⟨v,t3⟩:=m.gA B C
 refine⟨_,rfl,o,G.bZ 0,v.cQ.ms (i:=8) aL,?_⟩
 intro Q
 let⟨A,K⟩:=v.jv 8 [.s o]
 exact⟨rfl,I,o,A,(t2.trans t3).trans K⟩
def FI(S:ST n g a k bR (IB d p c s aT b e) aT b e s.aT s.heap j f u t h q){x:Instr}{W aw:O}(ha:ap n W x.args)(ah:∀y∈x.args,0<=y/\y<f.ak.length)(aD:x.args.length<=4)
 (aH:f.ak.length=f.aR.length/\f.ba.length=f.aR.length/\f.aR.length<=2000)(aG:0<=x.bY/\x.bY<=f.ba.length)(ak:s.heap.length<=1000000000)(am:∀w∈f.ba,w≠0->1000<=w/\ix w<s.heap.length):
 aN cg 106 [vp k 0,vp e.D (e.off+j.length*6),xv x W aw] a λaz m'=>∃(H:Nat->Nat)(E:O)(m:Nat)(i:aX),az=vi (1000+m)/\ST n H m' k bR (IB d p c s aT E e) aT E e s.aT (jc s.heap m ⟨1,x.bP,cL f x.args⟩) j i u t h q/\To g a H m'/\
  i.ak=f.ak/\i.aR=f.aR/\i.pc=f.pc/\(∀y,nt s j {f with pc:=y} x x.bP={s with heap:=jc s.heap m ⟨1,x.bP,cL f x.args⟩,ao:=j++[aX.put {i with pc:=y+1} x.dst (1000+m) 1]}):=by
 apply rO (k,0) (e.D,e.off+j.length*6)
 simp -zeta only[aC,aB]
 intro G
 have au:J a G:=(J.az a).aK _
 have s1:G.size=a.size+1:=by simp[G]
 let⟨z,t1⟩:=S.ext au
 have T:zi g G [a.size]:=λaA hb=>by simp at hb;subst hb;exact⟨V,S.cQ.new _ (ad _)⟩
 clear_value G
 have U:=z.fp ⟨V,V,V⟩
 have aE:h.len=f.ba.length:=by have:=S.fS.ba.len;simp at this;omega
 refine(uU U.g3 U.ak (ha.ext z.cQ.cx) ah V).mono ?_
 rintro _ P ⟨C,rfl,R,Z⟩
 let⟨r,t2⟩:=z.ext Z
 have K:=T.to t2
 have aJ:(cL f x.args).length=x.args.length:=by simp[cL]
 have F:ap P C (cL f x.args):=ap.fZ R V
 have af:=t1.trans t2
 have none:¬(x.bY≠0/\aF f.ba (x.bY -1)≠0)->aN cg 107 [vp k 0,vi x.bP,O.v C] P λax N=>eF [a.size] P N/\∃ac:Int,ax=vi ac/\∃(H:Nat->Nat)(E:O)(m:Nat)(i:aX),vi ac=vi (1000+m)/\ST n H N k bR (IB d p c s aT E e) aT E e s.aT (jc s.heap m ⟨1,x.bP,cL f x.args⟩) j i u t h q/\To g a H N/\
  i.ak=f.ak/\i.aR=f.aR/\i.pc=f.pc/\(∀y,nt s j {f with pc:=y} x x.bP={s with heap:=jc s.heap m ⟨1,x.bP,cL f x.args⟩,ao:=j++[aX.put {i with pc:=y+1} x.dst (1000+m) 1]}):=λaq=>by
  refine(Dm r x.bP F V ak).mono ?_
  rintro _ Q ⟨rfl,ay,ar,v,t3⟩
  exact⟨t3.dH K,_,rfl,ay,ar,dF s.heap,f,rfl,v,af.trans t3,rfl,rfl,rfl,λy=>by rw[nt,ae aq];rfl⟩
 refine⟨t2.dH T,C,rfl,λD=>none λL=>by simp at D;exact L.1 D,λD=>?_⟩
 simp at D
 have e1:cT (x.bY -1)=x.bY -1:=aQ V V
 have l:0<=x.bY -1/\x.bY -1<f.ba.length:=V
 have I:=r.fp ⟨V,V,V⟩
 have X:=I.ba.pv l.1 l.2
 refine⟨h,I.g5,?_⟩
 rw[e1]
 refine⟨V,V,_,X,λB=>none λL=>by simp at B;exact L.2 B,λB=>?_⟩
 simp at B
 let⟨aa,ab⟩:=am _ (fx l.1 l.2) B
 have aI:=r.cQ.heap.len
 refine⟨h,I.g5,V,V,_,X,h,I.g5,V,V,r.fS.ba.NP l.1 l.2,?_⟩
 intro Q
 let⟨v,t3⟩:=r.wX l.1 l.2 0
 have B3:=K.to t3
 have al:ix (aF f.ba (x.bY -1))=(aF f.ba (x.bY -1) -1000).toNat:=rfl
 have e2:cT (aF f.ba (x.bY -1) -1000)=aF f.ba (x.bY -1) -1000:=aQ V V
 refine⟨t3.dH K,b,v.cQ.box.bZ 8,?_⟩
 rw[e2,<-al]
 refine⟨V,V,v.cQ.heap.wr (o:=0) ab bh,?_⟩
 intro m4
 have M:cL f x.args≠[]->g C.D=0:=λw=>by
  rcases R.D with A|A
  .subst A;have:=F.len;simp at this;exact absurd (List.length_eq_zero_iff.1 this.symm) w
  .exact S.cQ.new _ V
 have av:ap Q C (cL f x.args):=iP F λw=>t3.eA _ (iE F w) (by rw[M w];simp)
 have aj:h.cap≠0:=λA=>by have:=(r.fS.ba.Dj A).1;simp at this;rw[this]at l;simp at l;omega
 have ag:Re n.size g Q b s.heap C (cL f x.args):=Re.of z.cQ.heap (λY=>(bd _ _ _ _ λA=>by have q1:=(r.fS.ba.D aj).2;have q2:=(r.cQ.heap.D Y).1;rw[A,q1]at q2;omega).trans (Z.same _ (z.cQ.heap.D Y).2)) (λw=>R.congr (t3.eA _ (iE F w) (by rw[M w];simp))) M z.cQ.cx.size
 let⟨ai,c4⟩:=v.cQ.heap.setCell v.cQ.new ab 1 x.bP av ag
 let⟨S4,t4⟩:=v.gA (c4.mono λaK Y=>Or.inl Y) ai
 have Y:jc s.heap (ix (aF f.ba (x.bY -1))) ⟨1,x.bP,cL f x.args⟩=s.heap.set (ix (aF f.ba (x.bY -1))) ⟨1,x.bP,cL f x.args⟩:=by rw[jc,ae V]
 refine⟨t4.dH B3,g,b,ix (aF f.ba (x.bY -1)),{f with ba:=gQ f.ba (x.bY -1) 0},by rw[ij aa],by rw[Y];exact S4,(af.trans t3).trans t4,rfl,rfl,rfl,λy=>?_⟩
 rw[nt,an ⟨D,B⟩,Y,ij aa];rfl
end
end
end Go.Proofs.YtkicoahejfbjhaaGreat
