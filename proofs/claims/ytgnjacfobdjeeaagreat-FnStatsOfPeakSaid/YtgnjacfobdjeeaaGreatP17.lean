/- Part of a proof, joined by a program. -/
import Derived.Test.YtgnjacfobdjeeaaGreatP11
import Derived.Test.YtgnjacfobdjeeaaGreatP16
set_option linter.unusedVariables false
set_option linter.unusedSimpArgs false
set_option linter.defProp false
set_option linter.constructorNameAsVariable false
set_option maxHeartbeats 8000000
set_option maxRecDepth 100000
namespace Go.Proofs.YtgnjacfobdjeeaaGreat
open Go.Vc
section
variable{b:cq}{a:Instr}
def xG.HE{s:St}{d:List aW}{f:aW}(C:xG b s d f a){aQ:List Int}(j:aQ=bB f.ao f.aQ (bS b a))(i:∀o∈aQ,0<=o):
 ft s.heap (λc=>lB d c+fq f.ao aQ c+fR ((bS b a).map (D f.ao)) c)/\∀c,0<=lB d c+fq f.ao aQ c:=by
 have e:=wY (ao:=f.ao) (bS b a) f.aQ C.IS C.JD.1
 rw[<-j]at e
 refine⟨C.ok.heap.congr λc=>?_,λc=>?_⟩
 ·rw[C.fr,fU,kN,e];omega
 ·have:=IP (b:=d) (λg h=>C.ok.aA g (by rw[C.fr];exact bJ _ h)) c
  have:=zf (ao:=f.ao) i c
  omega
def O9{a:List bu}{t kd:Int}(h:kd∈cg a t):1<=t/\t<=a.length/\(qA (cg a t) kd:Int)=kd -fc a (t.toNat -1)/\(fc a (t.toNat -1):Int)<=kd:=by
 unfold cg at h⊢;by_cases b:1<=t/\t<=a.length
 ·rw[an b]at h⊢;obtain⟨d,hd⟩:=ag (l:=a) (k:=t.toNat -1) V;rw[hd]at h⊢;simp only[nG,uN]at h⊢;obtain⟨i,c,e⟩:=List.mem_map.1 h;rw[List.mem_range]at c;have f:qA ((List.range d.cons.length).map λi=>((fc a (t.toNat -1)+i:Nat):Int)) kd=i:=by
   unfold qA;rw[Z5 (by simpa using c)];refine⟨by simp[<-e],λj g=>?_⟩;simp;omega
  rw[f];exact⟨b.1,b.2,V,V⟩
 ·rw[ae b]at h;simp at h
def MX{k d e:Int}(l:jm d)(o:jm e)(m:J):uR cp 177 [vi k,vi d,vi e] m (vi (MN k d e)):=by
 have i:∀n:Int,-2000000<=n/\n<=2000000->uR cp 210 [vi (cR n)] m (vi (Ef n)):=λn q=>by
  apply Gs;rw[aP V V];refine⟨?_,N.az _⟩;unfold Ef;congr 1;repeat' split;all_goals omega
 unfold jm at l o;have p: -2000000<=d*e/\d*e<=2000000:=by
  have a:(d*e).natAbs<=999*999:=by rw[Int.natAbs_mul];exact KB V V
  omega
 apply Iz;unfold MN;refine⟨λa=>?_,λa=>⟨λb=>?_,λb=>⟨λc=>?_,λc=>⟨λf=>⟨λh=>?_,λh=>?_⟩,λf=>?_⟩⟩⟩⟩
 ·simp at a;rw[an a];exact(i _ V).then λj g=>⟨_,rfl,rfl,g⟩
 ·simp at a b;rw[ae a,an b];exact(i _ V).then λj g=>⟨_,rfl,rfl,g⟩
 ·simp at a b c;rw[ae a,ae b,an c];exact(i _ p).then λj g=>⟨_,rfl,rfl,g⟩
 ·simp at a b c f h;rw[ae a,ae b,ae c,an ⟨f,h⟩];exact⟨rfl,N.az _⟩
 ·simp at a b c f h;rw[ae a,ae b,ae c,ae V];exact⟨rfl,N.az _⟩
 ·simp at a b c f;rw[ae a,ae b,ae c,ae V];exact⟨rfl,N.az _⟩
section
variable{q:J}{j:Nat->Nat}{m:J}{t:Nat}{d p bd n k:O}{c:St}{g:List aW}{f:aW}{r o h:O}{u:List (List Ce)}
def Iy(C:xG b c g f a){aQ:List Int}(ay:aQ=bB f.ao f.aQ (bS b a))(hM:jr b c f a aQ)
 (ac:ST q j m t bO (SB d p c bd n k) bd n k c.bd c.heap g {f with aQ:=aQ} r o h u)(aX:eV q d p b){au a3:O}(ha:aq q au a.args)(hj:aq q a3 a.dX)(br:c.heap.length<=900000000)(bD:c.bd.length<=900000000):
 aL cp 129 [vp t 0,fv f r o h,xv a au a3] m λ_ T=>AZ q j m t d p (dJ b c g f a aQ) T:=by
 apply sU (t,0)
 simp -zeta only[aC,aB]
 intro m1 A
 have bl:N m A:=((N.az m).aN _).aN _
 have s1:m1.size=m.size+1:=by simp[m1]
 have s2:A.size=m.size+2:=by simp[A,s1]
 have E:=yB.IK ac.cH.new s1 s2
 have X:cx A m1.size cV [.i a.op,.i a.dst,.i a.bL,.i a.bH,.s au,.s a3]:=cx.push m1 _ _
 have kF:cx A m.size cQ [.i f.eu,.i f.pc,.i f.dst,.s r,.s o,.s h]:=(cx.push m _ _).ext (N.push m1 _)
 obtain⟨y,t2⟩:=ac.ext bl
 clear_value A
 have bC:aQ.length=f.aQ.length:=by rw[ay];exact jA _ _ _
 have bs:=C.JD
 have F:=C.kv
 have hd:=C.dst
 have bi:=C.F.pc
 obtain⟨pq,_,bj,hP,bo,hI⟩:=C.I
 rw[bj]at bi
 have bE:=hP.len
 have ao:0<=f.pc/\f.pc<=100000:=V
 have a7:=C.ok.depth
 have bn:=C.ok.bE
 have bu:=C.ok.aY
 rw[C.fr]at a7
 have bp:g.length<=1000:=by simp at a7;omega
 have aY:f.ao.length=aQ.length/\f.br.length=aQ.length/\aQ.length<=2000:=V
 have bG:r.len=f.ao.length:=by have:=ac.fI.ao.len;simp at this;omega
 have bw:o.len=aQ.length:=by have:=ac.fI.aQ.len;simp at this;omega
 have bm:=ha.len
 have e4:cR (f.pc+1)=f.pc+1:=aP V V
 have ab:1<=a.args.length->0<=D a.args 0/\D a.args 0<f.ao.length:=λK=>C.arg _ (eR V V)
 have P:∀{T},N q T->1<=a.args.length->af T au.E (au.off+Int.toNat (0:Int)*1)=some (vi (D a.args 0)):=λhx K=>(ha.ext hx).pD V V
 have W:∀{j m bx bd n k lo lh o h u own'},ST q j m t bO bx bd n k lo lh g {f with aQ:=own'} r o h u->∀{aF:Int},0<=aF->aF<f.ao.length->af m r.E (r.off+Int.toNat aF*1)=some (vi (D f.ao aF)):=λac aF h0 K=>(ac.zk (by simp only[];omega)).pD h0 K
 have a6:=C.HE ay hM.nn
 have bg:∀{j m n lh bx},ST q j m t bO bx bd n k c.bd lh g {f with aQ:=aQ} r o h u->ln m k (g++[{f with aQ:=aQ}]):=λac=>ac.cH.aA.JP bR (λaa G=>by
  rcases List.mem_append.1 G with G|G
  ·have hF:=C.ok.aA aa (by rw[C.fr];exact bJ _ G);obtain⟨pg,_,aw,ap,_⟩:=hF.Hp C.ok.fC;have K:=hF.lr;have Q:=hF.lo;have h3:=hF.lh;rw[aw]at K Q h3;have:=ap.ao;omega
  ·simp at G;subst G;simp only[];omega)
 have a9:∀r',r'∈a.args->D f.ao r'<1000->jm (D f.ao r'):=λr' bk bt=>by
  have ax:=C.arg r' bk;rcases C.F.Nr _ (eR ax.1 ax.2)with R|R
  ·exact R
  ·omega
 have a4:∀{ag:J}(hx:N A ag)(Z:Int)(s':St),s'={c with aA:=g++[aW.put {f with aQ:=aQ,pc:=f.pc+1} a.dst Z 0]}->
  aL cp 176 [vp t 0,vi a.dst,vi Z] ag λ_ T=>dR [m1.size,m.size] ag T/\AZ q j m t d p s' T:=λhx Z s' v=>by
  obtain⟨SM,tM⟩:=y.ext hx
  refine(Ai SM V hd.1 (by simp only[];omega) (by simp only[];omega) Z ao).mono ?_
  rintro _ T ⟨S',t'⟩
  exact⟨t'.dB (E.to tM),j,bd,n,k,by rw[v];exact S'.cH,(t2.trans tM).trans t'⟩
 have aV:∀{ag:J}(hx:N A ag)(a0:Int)(s':St),s'={c with aA:=g++[{f with aQ:=aQ,pc:=a0}]}->
  aL cp 183 [vp t 0,vi a0] ag λ_ T=>dR [m1.size,m.size] ag T/\AZ q j m t d p s' T:=λhx a0 s' v=>by
  obtain⟨SM,tM⟩:=y.ext hx
  refine(jv SM V a0).mono ?_
  rintro _ T ⟨S',t'⟩
  exact⟨t'.dB (E.to tM),j,bd,n,k,by rw[v];exact S'.cH,(t2.trans tM).trans t'⟩
 refine⟨λv=>?_,λe0=>?_⟩
 ·simp at v
  exact a4 (N.az _) _ _ (by unfold dJ;simp only[];rw[an v])
 simp only[ak]at e0
 refine⟨λv=>?_,λe1=>?_⟩
 ·simp only[bT,aE]at v
  have Q:=F.2.2.1 V
  have w:=ab V
  have H:0<=D a.args 1/\D a.args 1<f.ao.length:=C.arg _ (eR V V)
  have I:=hM.nu V
  refine⟨V,V,_,P y.cH.ct V,w.1,V,_,W y w.1 w.2,V,V,_,(ha.ext y.cH.ct).pD (i:=1) V V,H.1,V,_,W y H.1 H.2,?_⟩
  refine(MX (a9 _ (eR V V) (I _ (eR V V))) (a9 _ (eR V V) (I _ (eR V V))) A).mono ?_
  rintro _ B ⟨rfl,z⟩
  refine⟨z.dv (λU hb=>(E U hb).1),_,rfl,z.bZ (X.bV 1),a4 z _ _ ?_⟩
  unfold dJ;simp only[];rw[ae e0,an v]
 simp only[bq,ak]at e1
 have am:¬(a.op=1\/a.op=2\/a.op=3\/a.op=4):=V
 refine⟨λv=>?_,λe5=>?_⟩
 ·simp only[aE]at v
  have Q:=F.2.1 V
  have w:=ab V
  have ah:(O.len bd)=c.bd.length:=by have:=y.cH.bd.len;simp at this;omega
  refine⟨bd,y.cH.box.bV 6,V,V,_,P y.cH.ct V,w.1,V,_,W y w.1 w.2,?_⟩
  intro B
  have z:N A B:=(N.az A).aN _
  have jk:fZ B A.size 0 [.i (D f.ao (D a.args 0))]:=(cx.push A _ _).iv
  obtain⟨I,t3⟩:=y.ext z
  have M:=E.to t3
  clear_value B
  refine⟨z.bZ (y.cH.box.bV 6),iD.append (c:=[.i 0]) (x:=.mk A.size 0 1 1) (d:=[.i (D f.ao (D a.args 0))]) I.cH.bd I.cH.new rfl jk (by simp only[O.jt];omega) λar aH m4 q1 q2=>?_⟩
  have S:iD ar m4 aI 1 2 aH ((c.bd++[D f.ao (D a.args 0)]).map Ce.i):=by simpa using q1
  obtain⟨L,H⟩:=I.J0 q2 S
  have B4:=M.to H
  refine⟨H.dB M,L.cH.lP (i:=6) aJ,?_⟩
  intro m5
  obtain⟨S5,Y⟩:=L.iJ 6 [.s aH]
  have B5:=B4.to Y
  refine⟨Y.dB B4,V,V,_,P S5.cH.ct V,w.1,V,_,W S5 w.1 w.2,?_⟩
  refine(Ai (a:={c with bd:=c.bd++[D f.ao (D a.args 0)]}) S5 V hd.1 (by simp only[];omega) (by simp only[];omega) _ ao).mono ?_
  rintro _ m6 ⟨S6,t6⟩
  refine⟨t6.dB B5,ar,aH,n,k,?_,(((t2.trans t3).trans H).trans Y).trans t6⟩
  unfold dJ;simp only[];rw[ae e0,ae am,an v];exact S6.cH
 simp only[ak]at e5
 have a_:∀Z∈f.br,Z≠0->1000<=Z/\ix Z<c.heap.length:=λZ hw aZ=>by
  obtain⟨K,dd,bf,_⟩:=C.JC Z hw aZ;exact⟨K,aD bf⟩
 refine⟨λv=>?_,λe6=>?_⟩
 ·simp only[aE]at v
  have h6:=F.2.2.2.2.1 v
  refine(tU y ha C.arg F.1 a.bL aY (by simp only[];omega) ⟨h6.1,h6.2.1⟩ ao V V a_).mono ?_
  rintro _ B ⟨al,aj,ai,ah,L3,t3⟩
  refine⟨t3.dB E,al,aj,ai,ah,?_,t2.trans t3⟩
  have:dJ b c g f a aQ=mZ c g {f with aQ:=aQ} a a.bL:=by
   unfold dJ mZ;simp only[];rw[ae e0,ae am,ae e5,an v];rfl
  rw[this];exact L3
 simp only[ak]at e6
 refine⟨λv=>?_,λaU=>?_⟩
 ·simp only[aE]at v
  have aN:=F.2.2.2.2.2.1 v
  have ax:a.bH=0:=by rcases hI.bH with R|R;exact R;omega
  have aO:(eE b.aT).length<=12:=by
   have:=qx C.ok.fC.lY.types b.aT.length;rw[mz _ _ (ad _)]at this;exact this
  refine⟨d,y.cH.box.bV 0,(pS (aX.ext y.cH.ct).aT C.ok.fC.lY.types).mono ?_⟩
  rintro _ B ⟨rfl,z⟩
  obtain⟨I,t3⟩:=y.ext z
  have M:=E.to t3
  have e3:cR (((eE b.aT).length:Int)+a.bL)=bz b+a.bL:=aP V V
  refine⟨t3.dB E,_,rfl,z.bZ (X.bV 2),z.bZ (X.bV 0),z.bZ (X.bV 1),z.bZ (X.bV 2),z.bZ (X.bV 3),z.bZ (X.bV 4),z.bZ (X.bV 5),z.bZ (kF.bV 0),z.bZ (kF.bV 1),z.bZ (kF.bV 2),z.bZ (kF.bV 3),z.bZ (kF.bV 4),z.bZ (kF.bV 5),?_⟩
  rw[e3]
  refine(tU I ha C.arg F.1 (bz b+a.bL) aY (by simp only[];omega) (by rw[ax];omega) ao V V a_).mono ?_
  rintro _ m4 ⟨ar,aM,az,aK,S,H⟩
  refine⟨H.dB M,ar,aM,az,aK,?_,(t2.trans t3).trans H⟩
  have:dJ b c g f a aQ=mZ c g {f with aQ:=aQ} a (bz b+a.bL):=by
   unfold dJ mZ;simp only[];rw[ae e0,ae am,ae e5,ae e6,an v,ae (λhh=>hh.1 ax)];rfl
  rw[this];exact S
 simp only[ak]at aU
 refine⟨λv=>?_,λe9=>?_⟩
 ·simp only[bT,aE]at v
  have S:=hI.op
  unfold lp at S
  refine(KY y aX C.ok.fC ha C.arg F.1 V (λe'=>?_) (λe'=>⟨F.2.2.1 V,hM.apply e'⟩) aY (λaa G=>?_) ao V V V V C.ok.heap).mono ?_
  ·rw[ae V,ae V,ae V,ae V,an e']at S;exact S
  ·have hF:=C.ok.aA aa (by rw[C.fr];exact bJ _ G)
   obtain⟨pg,_,aw,ap,_⟩:=hF.Hp C.ok.fC
   have K:=hF.lr
   have Q:=hF.lo
   have h3:=hF.lh
   rw[aw]at K Q h3
   have:=ap.ao
   omega
  rintro _ B ⟨al,aj,ai,ah,L3,t3⟩
  refine⟨t3.dB E,al,aj,ai,ah,?_,t2.trans t3⟩
  have:dJ b c g f a aQ=qe b c g {f with aQ:=aQ} a:=by
   unfold dJ qe;simp only[];rw[ae e0,ae am,ae e5,ae e6,ae aU,ae V,ae V,ae V,ae V,ae V,ae V,ae V,ae V];by_cases e9:a.op=9
   ·rw[an e9,an e9];rfl
   ·rw[ae e9,ae e9];by_cases ap:a.op=24
    ·rw[an ap,an ap];rfl
    ·rw[ae ap,ae ap,an V]
  rw[this];exact L3
 simp only[bq,ak]at e9
 refine⟨λv=>?_,λbb=>?_⟩
 ·simp only[aE]at v
  have Q:=F.2.1 V
  have w:=ab V
  refine⟨V,V,_,P y.cH.ct V,w.1,V,_,W y w.1 w.2,(K6 y V (D f.ao (D a.args 0)) (λaa G=>?_)).mono ?_⟩
  ·have aZ:g≠[]:=λv=>by rw[v]at G;simp at G
   have ap:g=g.dropLast++[aa]:=by
    rw[eP aZ]at G;simp at G;rw[<-G];exact(eU aZ).symm
   have aK:g.length=g.dropLast.length+1:=by
    have:=pB List.length ap;simpa using this
   obtain⟨q1,q2,q3⟩:=C.ok.chain g.dropLast.length aa f (by rw[C.fr,ap];simp) (by rw[C.fr,<-aK];simp)
   have aw:=C.ok.aA aa (by rw[C.fr,ap];simp)
   have:=aw.lr
   have:=aw.lo
   exact⟨q1,by show f.dst<_;omega,by show f.dst<_;omega⟩
  rintro _ B ⟨al,aj,ai,ah,L3,t3⟩
  refine⟨t3.dB E,al,aj,ai,ah,?_,t2.trans t3⟩
  unfold dJ
  simp only[]
  rw[ae e0,ae am,ae e5,ae e6,ae aU,ae V,ae V,ae V,ae V,ae V,ae V,ae V,ae V,ae V,ae V,ae V]
  exact L3
 simp only[ak]at bb
 have bh:∀(ap:St),(if a.op=0 then ap else ap)=ap:=λap=>by split<;>rfl
 have KC:dJ b c g f a aQ=(
  if a.op=14 then{c with heap:=lW c.heap (D f.ao (D a.args 0)),aA:=g++[{f with aQ:=gF aQ (D a.args 0) (D aQ (D a.args 0)+1),pc:=f.pc+1}]}
  else if a.op=15 then{c with heap:=mM (fY c.heap [D f.ao (D a.args 0)]),aA:=g++[{f with aQ:=aQ,pc:=f.pc+1}]}
  else if a.op=16\/a.op=17 then sJ c g {f with aQ:=aQ} a
  else if a.op=18 then{c with aA:=g++[aW.put {f with aQ:=aQ,pc:=f.pc+1} a.dst (D f.ao (D a.args 0)) (fV (D f.ao (D a.args 0)))]}
  else if a.op=19 then{c with aA:=g++[aW.put {f with aQ:=aQ,pc:=f.pc+1} a.dst (D (aG c.heap (D f.ao (D a.args 0))).aR a.bL) 0]}
  else if a.op=20 then{c with aA:=g++[{f with aQ:=aQ,pc:=if D f.ao (D a.args 0)=0 then a.bL else f.pc+1}]}
  else if a.op=21 then{c with aA:=g++[{f with aQ:=aQ,pc:=D a.dX (qA (cg b.aT a.bL) (aG c.heap (D f.ao (D a.args 0))).kd)}]}
  else{c with aA:=g++[{f with aQ:=aQ,pc:=a.bL}]}):=by
  unfold dJ
  simp only[]
  rw[ae e0,ae am,ae e5,ae e6,ae aU]
  by_cases aK:a.op=14
  ·rw[an aK,an aK]
  rw[ae aK,ae aK]
  by_cases aM:a.op=15
  ·rw[an aM,an aM]
  rw[ae aM,ae aM]
  by_cases aN:a.op=16\/a.op=17
  ·rw[an aN,an aN];rfl
  rw[ae aN,ae aN]
  by_cases aO:a.op=18
  ·rw[an aO,an aO]
  rw[ae aO,ae aO]
  by_cases aR:a.op=19
  ·rw[an aR,an aR]
  rw[ae aR,ae aR]
  by_cases aS:a.op=20
  ·rw[an aS,an aS]
  rw[ae aS,ae aS]
  by_cases aT:a.op=21
  ·rw[an aT,an aT]
  rw[ae aT,ae aT]
  have:=C.XC
  rw[an V]
 rw[KC]
 clear KC bh
 refine⟨λv=>?_,λa5=>?_⟩
 ·simp only[aE]at v
  rw[an v]
  have Q:=F.2.1 V
  have w:=ab V
  obtain⟨aa,bv⟩:=hM.Th v
  obtain⟨be,bF⟩:=bY aa
  refine⟨V,V,_,P y.cH.ct V,w.1,V,_,W y w.1 w.2,?_⟩
  intro B
  have z:N A B:=(N.az A).aN _
  have ow:ij A B aI 1 (.mk A.size 0 1 1) ([D f.ao (D a.args 0)].map Ce.i):=ij.new (N.az A) aI 1 _ 1 aJ
  obtain⟨I,t3⟩:=y.ext z
  have M:=E.to t3
  have hz:j A.size=0:=y.cH.new _ (ad _)
  clear_value B
  refine(Cx I.cH (aq.gQ ow aJ) (λ_=>hz) (λZ hw=>?_) (λba hc=>?_) aJ V).mono ?_
  ·simp at hw;subst hw;exact⟨aa.1,aD be⟩
  ·have:=C.ok.heap.cell ba hc;have R:=this.lo;have h6:=this.hi;omega
  rintro _ m4 ⟨a1,c4⟩
  obtain⟨L,H⟩:=I.fS (c4.mono λap hk=>Or.inl hk) a1
  have B4:=M.to H
  have aw:D a.args 0<aQ.length:=V
  have bA:0<=D aQ (D a.args 0)/\D aQ (D a.args 0)<=999999:=by
   have hm:=eR (c:=aQ) w.1 aw;refine⟨hM.nn _ hm,?_⟩;have G:=nN (c:=aQ) w.1 aw;rw[ay]at G;obtain⟨qq,a2,a8⟩:=kj _ _ _ _ G;have:=(C.MI qq (av a2)).2;rw[<-ay]at a8;omega
  have bc:cR (D aQ (D a.args 0)+1)=D aQ (D a.args 0)+1:=aP V V
  refine⟨H.dB M,V,V,_,P L.cH.ct V,V,V,_,P L.cH.ct V,w.1,V,D aQ (D a.args 0),(L.Hz (by simp only[];omega)).pD w.1 aw,w.1,V,L.fI.aQ.OR w.1 aw,?_⟩
  rw[bc,e4]
  intro m5
  obtain⟨S5,Y⟩:=L.ph w.1 aw (D aQ (D a.args 0)+1)
  have B5:=B4.to Y
  refine⟨Y.dB B4,(jv (a:={c with heap:=il c.heap [D f.ao (D a.args 0)]}) S5 V (f.pc+1)).mono ?_⟩
  rintro _ m6 ⟨S6,t6⟩
  exact⟨t6.dB B5,j,bd,n,k,S6.cH,(((t2.trans t3).trans H).trans Y).trans t6⟩
 simp only[ak]at a5
 rw[ae a5]
 have ba:a.args.length=1->a.args=[D a.args 0]:=λK=>by
  cases hx:a.args with
  |nil=>rw[hx]at K;simp at K
  |cons aw G=>cases G with
   |nil=>rfl
   |cons bc G=>rw[hx]at K;simp at K
 refine⟨λv=>?_,λaw=>?_⟩
 ·simp only[aE]at v
  rw[an v]
  have Q:=F.2.1 V
  have w:=ab V
  have ht:bS b a=[D a.args 0]:=by unfold bS;rw[an V];exact ba V
  have G:=a6.1
  rw[ht]at G
  refine⟨n,y.cH.box.bV 7,V,V,_,P y.cH.ct V,w.1,V,_,W y w.1 w.2,?_⟩
  intro B
  have z:N A B:=(N.az A).aN _
  have ow:ij A B aI 1 (.mk A.size 0 1 1) ([D f.ao (D a.args 0)].map Ce.i):=ij.new (N.az A) aI 1 _ 1 aJ
  obtain⟨I,t3⟩:=y.ext z
  have M:=E.to t3
  clear_value B
  refine⟨z.bZ (y.cH.box.bV 7),(EO I.cH.heap I.cH.new (aq.gQ ow aJ) (e:=λU=>lB g U+fq f.ao aQ U) (G.congr λU=>rfl) a6.2 V).mono ?_⟩
  rintro _ m4 ⟨ar,az,rfl,a1,c4⟩
  obtain⟨L,H⟩:=I.fS c4 a1
  have B4:=M.to H
  refine⟨H.dB M,az,rfl,L.cH.lP (i:=7) aJ,?_⟩
  intro m5
  obtain⟨S5,Y⟩:=L.iJ 7 [.s az]
  have B5:=B4.to Y
  rw[e4]
  refine⟨Y.dB B4,(jv (a:={c with heap:=mM (fY c.heap [D f.ao (D a.args 0)])}) S5 V (f.pc+1)).mono ?_⟩
  rintro _ m6 ⟨S6,t6⟩
  exact⟨t6.dB B5,ar,bd,az,k,S6.cH,(((t2.trans t3).trans H).trans Y).trans t6⟩
 simp only[ak]at aw
 rw[ae aw]
 refine⟨λv=>?_,λar=>?_⟩
 ·simp only[bT,aE]at v
  rw[an v]
  refine(GQ y ha C.arg ⟨F.2.2.2.1 v,F.1⟩ v aY ao V V (λaH G=>?_) (hM.Ct v).1 C.ok.heap).mono ?_
  ·refine⟨hM.nn aH G,?_⟩
   obtain⟨ap,hk⟩:=List.mem_iff_getElem?.1 G
   simp only[]at hk
   rw[ay]at hk
   obtain⟨qq,a2,a8⟩:=kj _ _ _ _ hk
   have:=(C.MI qq (av a2)).2
   omega
  rintro _ B ⟨al,aj,ai,ah,L3,t3⟩
  exact⟨t3.dB E,al,aj,ai,ah,L3,t2.trans t3⟩
 simp only[bq,ak]at ar
 rw[ae V]
 refine⟨λv=>?_,λY=>?_⟩
 ·simp only[aE]at v
  rw[an v]
  have Q:=F.2.1 V
  have w:=ab V
  refine⟨V,V,_,P y.cH.ct V,w.1,V,_,W y w.1 w.2,(sV y V hd.1 (by simp only[];omega) (by simp only[];omega) _).mono ?_⟩
  rintro _ B ⟨I,t3⟩
  have M:=E.to t3
  rw[e4]
  refine⟨t3.dB E,(jv I V (f.pc+1)).mono ?_⟩
  rintro _ m4 ⟨L,H⟩
  exact⟨H.dB M,j,bd,n,k,L.cH,(t2.trans t3).trans H⟩
 simp only[ak]at Y
 rw[ae Y]
 have ah:=y.rv aX V V (bg y)
 refine⟨λv=>?_,λI=>?_⟩
 ·simp only[aE]at v
  rw[an v]
  have Q:=F.2.1 V
  have w:=ab V
  obtain⟨aa,G⟩:=hM.load v
  have S:=hI.op
  unfold lp at S
  rw[ae V,ae V,ae V,ae V,ae V,ae V,ae V,an v]at S
  refine⟨V,V,_,P y.cH.ct V,w.1,V,_,W y w.1 w.2,(fD ah aa.1 (bY aa).1).mono ?_⟩
  rintro _ B ⟨fl,rfl,H,z⟩
  have L:=H.len
  refine⟨z.dv (λU hb=>(E U hb).1),_,_,_,rfl,z.bZ (X.bV 2),z.bZ (X.bV 1),S.2.1,V,_,H.pD S.2.1 G,a4 z _ _ rfl⟩
 simp only[ak]at I
 rw[ae I]
 refine⟨λv=>?_,λL=>?_⟩
 ·simp only[aE]at v
  rw[an v]
  have Q:=F.2.1 V
  have w:=ab V
  refine⟨V,V,_,P y.cH.ct V,w.1,V,_,W y w.1 w.2,λR=>?_,λR=>?_⟩
  ·simp at R;exact aV (N.az _) _ _ (by rw[an R])
  ·simp at R;rw[e4];exact aV (N.az _) _ _ (by rw[ae R])
 simp only[ak]at L
 rw[ae L]
 refine⟨λv=>?_,λM=>?_⟩
 ·simp only[aE]at v
  rw[an v]
  have Q:=F.2.1 V
  have w:=ab V
  obtain⟨aa,ai⟩:=hM.Ax v
  obtain⟨be,bv,a1,aH⟩:=O9 ai
  have S:=hI.op
  unfold lp at S
  rw[ae V,ae V,ae V,ae V,ae V,ae V,ae V,ae V,ae V,ae V,an v]at S
  have a2:qA (cg b.aT a.bL) (aG c.heap (D f.ao (D a.args 0))).kd<(cg b.aT a.bL).length:=lQ ⟨_,ai,aJ⟩
  have bc:=hj.len
  have a8:=S.2.2.1
  have az:=(C.ok.heap.cell _ (av (bY aa).1)).rm (bY aa).2
  have bA:=C.ok.fC.lY.types.len
  refine⟨V,V,_,P y.cH.ct V,w.1,V,_,W y w.1 w.2,(fD ah aa.1 (bY aa).1).mono ?_⟩
  rintro _ B ⟨fl,rfl,H,z⟩
  have e7:cR (a.bL -1)=((a.bL.toNat -1:Nat):Int):=by rw[aP V V];omega
  rw[e7]
  have aj:=y.cH.ct.trans z
  refine⟨z.dv (λU hb=>(E U hb).1),_,_,_,rfl,d,z.af (y.cH.box.bV 0),(jC (aX.ext aj).aT C.ok.fC.lY.types V).mono ?_⟩
  rintro _ m4 ⟨rfl,G⟩
  have al:=z.trans G
  have e8:cR ((aG c.heap (D f.ao (D a.args 0))).kd -((fc b.aT (a.bL.toNat -1):Nat):Int))=((qA (cg b.aT a.bL) (aG c.heap (D f.ao (D a.args 0))).kd:Nat):Int):=by
   rw[aP V V];omega
  refine⟨G.dv (λU hb=>z.lt (E U hb).1),_,rfl,G.bZ ((X.ext z).bV 5),?_⟩
  rw[e8]
  refine⟨V,V,_,(hj.ext (aj.trans G)).pD V V,aV al _ _ rfl⟩
 simp only[ak]at M
 rw[ae M]
 refine⟨λv=>aV (N.az _) _ _ rfl,λw=>?_⟩
 simp only[ak]at w
 have:=C.XC
 omega
end
end
section
def Se(l a:List Int)(h:a.length=l.length):iK (l.map Ce.i) 0 (a.map Ce.i)=a.map Ce.i:=by
 have:=AQ [] (a.map Ce.i) (l.map Ce.i) bR;simp only[dN,eG]at this;rw[this,VF bR,dD]
section
variable{p:J}{b:Nat->Nat}{m:J}{q e:Nat}{i:List Ce}{bd j g:O}{l:List Int}{k:List bQ}{c:List aW}{f:aW}{r a h:O}{d:List (List Ce)}
def ST.Td(S:ST p b m q e i bd j g l k c f r a h d){aQ:List Int}(t:aQ.length=f.aQ.length)(w:0<aQ.length):dZ m a.E a.off (aQ.map Ce.i).length/\ST p b (ah m a.E a.off (aQ.map Ce.i)) q e i bd j g l k c {f with aQ:=aQ} r a h d/\To b m b (ah m a.E a.off (aQ.map Ce.i)):=by
 have T:=S.fI;have B:a.cap≠0:=λe=>by have:=(T.aQ.xg e).1;simp at this;rw[this]at t;simp at t;rw[t]at w;simp at w
 have A:=T.aQ.E B;have s:eC (λu=>u=11+3*c.length) b m b (ah m a.E a.off (aQ.map Ce.i)):=eC.ah S.cH.new A.2 _ _;have x:=T.aQ.set (o:=0) (new:=aQ.map Ce.i) bR;rw[Se _ _ t,jF]at x;have v:sa b (ah m a.E a.off (aQ.map Ce.i)) g c {f with aQ:=aQ} r a h d:=⟨T.p7.gC s V,T.len,T.size,T.xp s λu _ y=>V,T.ao.gC s V,x,T.br.gC s V⟩;obtain⟨y,z⟩:=S.cH.jb (s.mono λu C=>V) v.uP;refine⟨?_,⟨y,v⟩,z⟩;have:=T.aQ.wr (o:=0) (n:=(aQ.map Ce.i).length) bR;rw[jF]at this;exact this
end
section
variable{h:J}{e:Nat->Nat}{b:J}{g:Nat}{d p bd c a:O}{s:St}
def MY{k:cq}(L:rl h e b g bO (SB d p s bd c a) bd c a s.bd s.heap s.aA)(I:eV h d p k)(z:dm k s)(aN:∀P∈s.aA,∀A∈P.ao,A<=9223372036854775807)(aQ:s.heap.length<=900000000)(aV:s.bd.length<=900000000):
 aL cp 75 [vp g 0] b λ_ m'=>AZ h e b g d p (mT k s) m':=by
 apply vK (g,0)
 simp -zeta only[aC,aB]
 refine⟨s.bW,L.box.bV 2,λT=>?_,λT=>?_⟩
 ·simp at T
  rw[rY T]
  exact⟨e,bd,c,a,L,eC.az _ L.new⟩
 have ab:s.bW=3:=by simpa using T
 obtain⟨n,j,u⟩:=z.split ab
 have aS:s.aA.getLast?=some j:=by rw[u];simp
 have aK:s.aA.dropLast=n:=by rw[u];simp
 have C:xG k s n j (dh k j):=⟨z,ab,u,rfl,aN⟩
 have a0:mT k s=(open Classical in if mE (dh k j).op/\s.bE=s.aY then{s with bW:=1}else if jr k s j (dh k j) (bB j.ao j.aQ (bS k (dh k j)))then dJ k s n j (dh k j) (bB j.ao j.aQ (bS k (dh k j)))else{s with bW:=2}):=by
  unfold mT;rw[ae (by simpa using ab),aS,aK]
 rw[a0]
 generalize dh k j=x at*
 have L':rl h e b g bO (SB d p s bd c a) bd c a s.bd s.heap (n++[j]):=by rw[<-u];exact L
 obtain⟨U,K,R,az,Z⟩:=L'.aA.fI
 have S:ST h e b g bO (SB d p s bd c a) bd c a s.bd s.heap n j U K R az:=⟨L',Z⟩
 have a8:=Z.uX
 have am:=z.depth
 have a7:=z.bE
 have a_:=z.aY
 rw[u]at am
 have a9:n.length<=1000:=by simp at am;omega
 have e1:cR ((a.len:Int) -1)=(n.length:Int):=by rw[aP V V];omega
 have e2:Int.toNat (n.length:Int)=n.length:=V
 have Q:af b g 8=some (O.v a):=S.cH.box.bV 8
 obtain⟨g0,g1,g2,g3,g4,g5⟩:=Z.iv
 refine⟨a,Q,a,Q,?_⟩
 rw[e1,e2]
 refine⟨V,V,_,g0,_,g1,_,g2,U,g3,K,g4,R,g5,?_⟩
 intro m1
 have v:N b m1:=(N.az b).aN _
 refine⟨v.bZ g0,v.bZ g1,v.bZ g2,v.bZ g3,v.bZ g4,v.bZ g5,v.bZ Q,v.bZ Q,?_⟩
 intro t
 have a1:N b t:=v.ah (ad _) _ _
 have s2:t.size=b.size+1:=by simp[t,m1,ay]
 have kF:cx t b.size cQ [.i j.eu,.i j.pc,.i j.dst,.s U,.s K,.s R]:=cx.ah (m:=m1) (o:=0) (r:=[.i j.eu,.i j.pc,.i j.dst,.s U,.s K,.s R]) (cx.push b _ _)
 obtain⟨M,t2⟩:=S.ext a1
 clear_value t
 obtain⟨bh,hq,aY,hP,aI,hI⟩:=C.I
 obtain⟨pa,pl,pc,ba,bc,ap,k0,k1,k2,k3,k4⟩:=I.cB.D hq
 obtain⟨ax,a2,ha,hj,i0,i1,i2,i3,i4,i5⟩:=ap.D aI
 have be:=I.cB.len
 have bb:=ap.len
 have hF:=C.F
 have aX:=hF.eu
 have ao:=hF.pc
 rw[aY]at ao
 have l:=M.cH.ct
 refine⟨p,M.cH.box.bV 1,aX.1,V,pc,l.af k4,ao.1,V,_,l.af i0,_,l.af i1,_,l.af i2,_,l.af i3,ax,l.af i4,a2,l.af i5,?_⟩
 intro m3
 have q:N t m3:=(N.az t).aN _
 refine⟨q.bZ (l.af i0),q.bZ (l.af i1),q.bZ (l.af i2),q.bZ (l.af i3),q.bZ (l.af i4),q.bZ (l.af i5),q.bZ (kF.bV 1),q.bZ (l.af k4),q.bZ (kF.bV 0),q.bZ (M.cH.box.bV 1),?_⟩
 intro J
 have ag:N t J:=q.ah (ad _) _ _
 have s4:J.size=t.size+1:=by simp[J,m3,ay]
 obtain⟨S4,t4⟩:=M.ext ag
 have a3:=kF.ext ag
 have B4:yB e J [t.size,b.size]:=λac H=>by
  simp at H;rcases H with rfl|rfl
  ·exact⟨V,S.cH.new _ V⟩
  ·exact⟨V,S.cH.new _ (ad _)⟩
 clear_value J
 have a6:=t2.trans t4
 refine(Ke _ _).mono ?_
 rintro _ m5 ⟨ac,rfl,H,ah⟩
 obtain⟨w,t5⟩:=S4.ext ah
 have W:=B4.to t5
 have B:=a3.ext ah
 have ar:=a6.trans t5
 have aR:=C.JD
 have h4:=C.kv
 have aa:(bB j.ao j.aQ (bS k x)).length=j.aQ.length:=jA _ _ _
 refine⟨t5.dB B4,ac,rfl,λaG=>⟨s.bE,w.cH.box.bV 4,s.aY,w.cH.box.bV 5,λG=>?_,λG=>?_⟩,λaF=>?_⟩
 ·simp at G
  refine⟨w.cH.lP (i:=2) aJ,?_⟩
  intro m6
  obtain⟨F,D⟩:=w.iJ 2 [.i 1]
  refine⟨D.dB W,e,bd,c,a,?_,ar.trans D⟩
  rw[an ⟨H.1 aG,G⟩]
  have:=F.cH
  rw[<-u]at this
  exact this
 all_goals
  have aH:¬(mE x.op/\s.bE=s.aY):=by
   first
   |exactλy=>by simp at G;exact G y.2
   |exactλy=>fb H aF y.1
  rw[ae aH]
  have al:=w.cH.ct
  refine⟨d,w.cH.box.bV 0,p,w.cH.box.bV 1,(II (I.ext al) C.call (ha.ext al) V h4.2.2.2.1).mono ?_⟩
  rintro _ m6 ⟨ts,rfl,ot,y⟩
  obtain⟨F,D⟩:=w.ext y
  have B6:=W.to D
  have bf:=Hd k x
  have it:aq m6 ts (bS k x):=aq.gQ ot V
  refine⟨D.dB W,ts,rfl,y.bZ (B.bV 0),y.bZ (B.bV 1),y.bZ (B.bV 2),y.bZ (B.bV 3),y.bZ (B.bV 4),y.bZ (B.bV 5),?_⟩
  refine(GU (b:=j) (F.zk V) (F.Hz V) it C.IS aR.1 V V (λA E=>by have:=C.MI A E;omega)).mono ?_
  rintro _ m7 ⟨os,rfl,oo,aE⟩
  obtain⟨A,t7⟩:=F.ext aE
  have B7:=B6.to t7
  have io:aq m7 os (bB j.ao j.aQ (bS k x)):=aq.gQ oo V
  have aO:ln m7 a (n++[j]):=A.cH.aA.JP bR (λP Y=>by
   have E:=z.aA P (by rw[u];exact Y);obtain⟨pg,_,ai,X,_⟩:=E.Hp z.fC;have q1:=E.lr;have q2:=E.lo;have q3:=E.lh;rw[ai]at q1 q2 q3;have:=X.ao;omega)
  have aj:=A.rv I V V aO
  have aZ:({s with aA:=n++[j]}:St)=s:=by rw[<-u]
  rw[aZ]at aj
  refine⟨t7.dB B6,os,rfl,(Kg aj C (A.zk V) (A.Pr V) (ha.ext A.cH.ct) io aa).mono ?_⟩
  rintro _ m8 ⟨b2,rfl,ak,ai⟩
  obtain⟨P,t8⟩:=A.ext ai
  have X:=B7.to t8
  have au:=((ar.trans D).trans t7).trans t8
  refine⟨t8.dB B7,b2,rfl,λh9=>?_,λh9=>?_⟩
  ·rw[ae (nb ak h9)]
   refine⟨P.cH.lP (i:=2) aJ,?_⟩
   intro m9
   obtain⟨Y,E⟩:=P.iJ 2 [.i 2]
   refine⟨E.dB X,e,bd,c,a,?_,au.trans E⟩
   have:=Y.cH
   rw[<-u]at this
   exact this
  ·have hM:=yb ak h9
   rw[an hM]
   have aU:=io.len
   have aT:K.len=j.aQ.length:=by have:=P.fI.aQ.len;simp at this;omega
   obtain⟨w1,Y,E⟩:=P.Td aa V
   refine⟨(bB j.ao j.aQ (bS k x)).map Ce.i,by rw[aU,aT,aa];simp[Nat.min_def];omega,(io.ext ai).Gk,w1,?_⟩
   intro m9
   have B9:=X.to E
   refine⟨E.dB X,(Iy C rfl hM Y I ha hj aQ aV).mono ?_⟩
   rintro _ bg aM
   obtain⟨a5,a4,aW,aD,aw,av⟩:=aM
   exact⟨av.dB B9,a5,a4,aW,aD,aw,(au.trans E).trans av⟩
end
end
section
variable{a:cq}{s:St}{n:Nat}
structure Sm(n:Nat)(s:St):Prop where
 heap:s.heap.length<=n
 bd:s.bd.length<=n
 IN:∀g∈s.aA,∀w∈g.ao,w<=9223372036854775807
def AH:∀(n:Nat)(h:List bQ)(g:List Int),yM h+g.length<=n->(fY h g).length=h.length
 |n,h,[],_=>by rw[pK]
 |0,h,w::r,b=>by simp at b
 |n+1,h,w::r,b=>by
  simp only[aZ]at b;rcases dt (fQ h w)with a|a
  ·obtain⟨e,f⟩:=bY a;by_cases c:(aG h w).aS=1
   ·have d:=iQ (d:=ic) e;simp only[an f,ic]at d;simp at d;rw[pL a c,AH n _ _ (by simp[ic];omega)];simp
   ·have d:=iQ (d:={aG h w with aS:=(aG h w).aS -1}) e;simp only[an f]at d;rw[an V]at d;rw[nP a c,AH n _ _ (by simp only[eQ];omega)];simp[eQ]
  ·rw[nQ a,AH n _ _ V]
def OM(h:List bQ):(mM h).length<=h.length:=by unfold mM;simp;omega
def JQ:∀(a:List Int)(g:List bQ),(il g a).length=g.length
 |[],g=>rfl
 |w::a,g=>by rw[il,JQ a];simp[lW]
def Lk(h:List bQ)(w:Int):(apart h w).length<=h.length:=by
 unfold apart;split
 ·exact bX (OM _) aJ
 ·rw[JQ];simp[eQ]
def LG(h:List bQ)(a:Nat)(c:bQ):(gL h a c).length<=h.length+1:=by
 unfold gL;split<;>simp
def PA{k:List aW}{f:aW}{x:Instr}(C:xG a s k f x)(B:Sm n s)(hn:n<=900000000)(aQ:List Int)(hM:jr a s f x aQ):Sm (n+1) (dJ a s k f x aQ):=by
 have hh:=B.heap;have ho:=B.bd;have v:=B.IN;rw[C.fr]at v;have hF:=C.F;have Z:=C.kv;have hd:=C.dst;have af:=C.JD;have t:∀r,D f.ao r<=9223372036854775807:=λr=>by
  rcases bA r.toNat f.ao.length with m|m
  ·obtain⟨y,b⟩:=ag m;rw[CK b];exact v f aJ y (av b)
  ·rw[D,eM,di m];simp
 have xp:∀g∈k,∀w∈g.ao,w<=9223372036854775807:=λg p=>v g (by simp[p]);have c:∀{g:aW},(∀w∈g.ao,w<=9223372036854775807)->∀q∈k++[g],∀w∈q.ao,w<=9223372036854775807:=λp q d=>by
  rcases List.mem_append.1 d with d|d
  ·exact xp q d
  ·simp at d;subst d;exact p
 have e:∀w∈f.ao,w<=9223372036854775807:=v f aJ;have j:∀(I:Int),I<=9223372036854775807->∀w∈gF f.ao x.dst I,w<=9223372036854775807:=λI hv w b=>by
  rcases oW b with rfl|b
  ·exact hv
  ·exact e w b
 have ab:∀{w},jm w\/fQ s.heap w->w<=9223372036854775807:=λh=>by
  rcases h with h|h
  ·have:=h.2;omega
  ·have m:=aD (bY h).1;unfold ix at m;omega
 have H:∀(g L:Int)(J:List Int),(∀w∈J,w<=9223372036854775807)->∀w∈(bg a g L J).ao,w<=9223372036854775807:=λg L J b w h=>by
  simp only[bg]at h;rcases List.mem_append.1 h with h|h
  ·exact b w h
  ·rw[pQ h];omega
 have IK:∀{g q:aW},(∀w∈g.ao,w<=9223372036854775807)->(∀w∈q.ao,w<=9223372036854775807)->∀K∈k++[g,q],∀w∈K.ao,w<=9223372036854775807:=λp d K o=>by
  rcases List.mem_append.1 o with o|o
  ·exact xp K o
  ·simp at o;rcases o with rfl|rfl
   ·exact p
   ·exact d
 have aa:∀w∈cy f x.args,w<=9223372036854775807:=λw b=>by
  obtain⟨r,_,rfl⟩:=List.mem_map.1 b;exact t r
 have ac:=pN s.heap;unfold dJ;simp only[];by_cases y:x.op=0
 ·rw[an y];exact⟨by simp only[];omega,by simp only[];omega,c (j _ (by have:=Z.2.2.2.2.2.2 y;omega))⟩
 rw[ae y];by_cases M:x.op=1\/x.op=2\/x.op=3\/x.op=4
 ·rw[an M];exact⟨by simp only[];omega,by simp only[];omega,c (j _ (by have:=(Oq x.op (D f.ao (D x.args 0)) (D f.ao (D x.args 1))).2;omega))⟩
 rw[ae M];by_cases X:x.op=5
 ·rw[an X];exact⟨by simp only[];omega,bR,c (j _ (t _))⟩
 rw[ae X];by_cases A:x.op=6
 ·rw[an A];split
  ·refine⟨bR,by simp only[];omega,c (j _ ?_)⟩;rename_i u;have F:=Z.2.2.2.2.1 A;obtain⟨G,E,z,_⟩:=C.JC _ (eR (c:=f.br) (i:=x.bH -1) V V) u.2;have:=aD z;unfold ix at this;omega
  ·refine⟨?_,by simp only[];omega,c (j _ V)⟩;have:=LG s.heap (dg s.heap) ⟨1,x.bL,cy f x.args⟩;simp only[];omega
 rw[ae A];by_cases N:x.op=10
 ·rw[an N];refine⟨?_,by simp only[];omega,c (j _ V)⟩;have:=LG s.heap (dg s.heap) ⟨1,bz a+x.bL,cy f x.args⟩;simp only[];omega
 rw[ae N];by_cases O:x.op=14
 ·rw[an O];exact⟨by simp[lW];omega,by simp only[];omega,c e⟩
 rw[ae O];by_cases P:x.op=15
 ·rw[an P];refine⟨?_,by simp only[];omega,c e⟩;have m:=OM (fY s.heap [D f.ao (D x.args 0)]);rw[AH _ _ _ (ad _)]at m;simp only[];omega
 rw[ae P];by_cases Q:x.op=16\/x.op=17
 ·rw[an Q];split
  ·exact⟨bR,by simp only[];omega,c e⟩
  ·refine⟨?_,by simp only[];omega,c e⟩;have:=Lk s.heap (D f.ao (D x.args 0));simp only[];omega
 rw[ae Q];by_cases R:x.op=18
 ·rw[an R];exact⟨by simp only[];omega,by simp only[];omega,c (j _ (t _))⟩
 rw[ae R];by_cases u:x.op=19
 ·rw[an u];refine⟨by simp only[];omega,by simp only[];omega,c (j _ ?_)⟩;obtain⟨F,T⟩:=hM.load u;obtain⟨U,_,_,_,_,S⟩:=C.I;have z:=S.op;unfold lp at z;rw[ae V,ae V,ae V,ae V,ae V,ae V,ae V,an u]at z;obtain⟨E,G⟩:=bY F;exact ab (((C.ok.heap.cell _ (av E)).rm G).1 _ (eR z.2.1 T))
 rw[ae u];by_cases S:x.op=20
 ·rw[an S];exact⟨by simp only[];omega,by simp only[];omega,c e⟩
 rw[ae S];by_cases T:x.op=21
 ·rw[an T];exact⟨by simp only[];omega,by simp only[];omega,c e⟩
 rw[ae T];by_cases U:x.op=22
 ·rw[an U];exact⟨by simp only[];omega,by simp only[];omega,c e⟩
 rw[ae U];by_cases Y:x.op=9
 ·rw[an Y];exact⟨by simp only[];omega,by simp only[];omega,IK e (H _ _ _ aa)⟩
 rw[ae Y];by_cases W:x.op=24
 ·rw[an W];exact⟨by simp only[];omega,by simp only[];omega,c (H _ _ _ aa)⟩
 rw[ae W];by_cases z:x.op=11
 ·rw[an z];refine⟨?_,by simp only[];omega,IK e (H _ _ _ λw b=>?_)⟩
  ·have:=Lk s.heap (D f.ao (D x.args 0));simp only[];omega
  ·rcases List.mem_append.1 b with b|b
   ·obtain⟨F,_⟩:=hM.apply z;obtain⟨E,G⟩:=bY F;exact ab (((C.ok.heap.cell _ (av E)).rm G).1 _ b)
   ·simp at b;subst b;exact t _
 rw[ae z];split
 ·exact⟨by simp only[];omega,by simp only[];omega,aJ⟩
 ·rename_i E F;refine⟨by simp only[];omega,by simp only[];omega,λq d=>?_⟩;have G:E∈k:=List.mem_of_getLast? F;rcases List.mem_append.1 d with d|d
  ·exact xp q ((List.dropLast_sublist k).subset d)
  ·simp at d;subst d;intro w b;rcases oW b with rfl|b
   ·exact t _
   ·exact xp E G w b
def Tw(h:dm a s)(c:Sm n s)(l:n<=900000000):Sm (n+1) (mT a s):=by
 have b:Sm (n+1) s:=⟨by have:=c.heap;omega,by have:=c.bd;omega,c.IN⟩;by_cases d:s.bW=3
 ·obtain⟨g,f,e⟩:=h.split d;have k:s.aA.getLast?=some f:=by rw[e];simp
  have j:s.aA.dropLast=g:=by rw[e];simp
  have C:xG a s g f (dh a f):=⟨h,d,e,rfl,c.IN⟩;unfold mT;rw[ae (by simpa using d),k,j];simp only[];split
  ·exact⟨b.heap,b.bd,b.IN⟩
  split
  ·rename_i i;exact PA C c l _ i
  ·exact⟨b.heap,b.bd,b.IN⟩
 ·rw[rY d];exact b
def sY{a:cq}:∀(k:Nat){s:St}{n:Nat},dm a s->Sm n s->n+k<=900000000->Sm (n+k) (ar a k s)
 |0,s,n,_,b,_=>b
 |k+1,s,n,h,b,c=>by
  have:=sY k (Nb h) (Tw h b V) V;rw[ar];have e:n+(k+1)=n+1+k:=V;rw[e];exact this
def vU(a:cq)(aY:Int):Sm 0 (cD a aY):=⟨by simp[cD],by simp[cD],λg b w c=>by
 simp[cD]at b;subst b;simp only[bg,dN]at c;rw[pQ c];omega⟩
end
section
variable{a:cq}
section
variable{e:J}{g:Nat->Nat}{m:J}{f:Nat}{d p bd c b:O}{s:St}
end
def DB{m:J}{w F:O}(L:eV m w F a)(A:gP a)(aY:Int):
 aL cp 58 [.agg #[O.v w,O.v F],vi aY] m λU h=>∃bd p x,U=.agg #[vi 3,vi 0,vi 0,vi aY,O.v bd,O.v p,O.v x]/\N m h/\∃b1 b2 b3 b4 c,bd.cap=0/\bd.len=0/\p.cap=0/\p.len=0/\x=.mk b4 0 1 1/\
  oE m h b1 b2 b3 c (bg a 0 0 []).ao (bg a 0 0 []).aQ (bg a 0 0 []).br/\(b4≠b1/\b4≠b2/\b4≠b3/\m.size<=b4/\b4<h.size)/\cx h b4 cQ [.i 0,.i 0,.i 0,.s (.mk b1 0 c c),.s (.mk b2 0 c c),.s (.mk b3 0 c c)]:=by
 apply yp
 simp -zeta only[aC,aB]
 intro i C D t u f
 have y:N m f:=((((((N.az m).aN _).aN _).aN _).aN _).aN _).aN _
 have P:i.size=m.size+1:=by simp[i]
 have Q:C.size=m.size+2:=by simp[C,P]
 have R:D.size=m.size+3:=by simp[D,Q]
 have S:t.size=m.size+4:=by simp[t,R]
 have T:u.size=m.size+5:=by simp[u,S]
 have s6:f.size=m.size+6:=by simp[f,T]
 clear_value f
 have W:=A.lY.len
 obtain⟨q,r⟩:=ag (l:=a.cB) (k:=0) V
 have Y:=(A.dz q (av r)).ao
 have s:dy a 0=q:=by simp[dy,r]
 have E:∀b,aq f (.mk b 0 0 0) []:=λb=>⟨rfl,aJ,aJ,aJ⟩
 refine(xz (L.ext y) (cC 0) r V 0 (E t.size) (E u.size) bR rfl).mono ?_
 rintro _ d ⟨b1,b2,b3,rfl,g⟩
 have o:=g.ext
 have X:=g.lo
 refine⟨o.dv bR,_,_,_,_,_,_,rfl,?_⟩
 intro e v
 have z:N d e:=(N.az d).aN _
 have s8:e.size=d.size+1:=by simp[e]
 have s9:v.size=e.size:=ay _ _ _ _
 have Z:=o.size
 have M:cx e d.size cQ [.i 0,.i 0,.i 0,.s (.mk b1 0 q.ao.toNat q.ao.toNat),.s (.mk b2 0 q.ao.toNat q.ao.toNat),.s (.mk b3 0 q.ao.toNat q.ao.toNat)]:=cx.push d _ _
 have n:=g.Ms z
 have B:N m v:=(y.trans (o.trans z)).ah (show m.size<=i.size by omega) _ _
 have j:∀b,b≠i.size->v[b]? =e[b]? :=λb K=>bt _ _ _ _ K
 have I:(bg a 0 0 []).ao=[]++cZ (q.ao.toNat -([]:List Int).length):=by simp[bg,s]
 have H:(bg a 0 0 []).aQ=[]++cZ (q.ao.toNat -([]:List Int).length):=by simp[bg,s,dA]
 have G:(bg a 0 0 []).br=cZ q.ao.toNat:=by simp[bg,s]
 refine⟨_,_,_,rfl,B,b1,b2,b3,d.size,q.ao.toNat,rfl,rfl,rfl,rfl,rfl,?_,V,M.congr (j _ V)⟩
 rw[I,H,G]
 exact⟨B,V,n.kr.congr (j _ V),n.ko.congr (j _ V),n.kh.congr (j _ V),g.len⟩
def Sg{p j g:J}{v:Nat}{KC:List Ce}{bd i m:O}{aY:Int}{b1 b2 b3 b4 k e:Nat}(c:bd.cap=0/\bd.len=0/\i.cap=0/\i.len=0/\m=.mk b4 0 1 1)
 (l:oE p j b1 b2 b3 k (bg a 0 0 []).ao (bg a 0 0 []).aQ (bg a 0 0 []).br)(E:b4≠b1/\b4≠b2/\b4≠b3/\p.size<=b4/\b4<j.size)(D:cx j b4 cQ [.i 0,.i 0,.i 0,.s (.mk b1 0 k k),.s (.mk b2 0 k k),.s (.mk b3 0 k k)])
 (d:N j g)(G:j.size<=e)(kb:cx g e v (KC++[.i 3,.i 0,.i 0,.i aY,.s bd,.s i,.s m])):
 rl p (rh (rh (lX (λ_=>0) b1 b2 b3 0) b4 4) e 1) g e v (KC++[.i 3,.i 0,.i 0,.i aY,.s bd,.s i,.s m]) bd i m [] [] [bg a 0 0 []]:=by
 have F:=l.lo
 have C:N p g:=l.ext.trans d
 have H:=kb.lt
 have I:=l.ext.size
 have u:∀b,b≠e->b≠b4->(rh (rh (lX (λ_=>0) b1 b2 b3 0) b4 4) e 1) b=lX (λ_=>0) b1 b2 b3 0 b:=λb q t=>by rw[eF q,eF t]
 have y:=l.Ms d
 obtain⟨A,a2,a3⟩:=y.p7 (a:=λ_=>0) (q:=0)
 have conv:∀{w:Nat}{s:O}{x:List Ce},iD (lX (λ_=>0) b1 b2 b3 0) g aI 1 w s x->s.E≠e->s.E≠b4->iD (rh (rh (lX (λ_=>0) b1 b2 b3 0) b4 4) e 1) g aI 1 w s x:=λz q t=>z.dO (λ_=>rfl) (λ_=>u _ q t)
 refine⟨C,λb B=>?_,λb B=>?_,kb,gX _ _ _,⟨by simp[c.2.1],by rw[c.1,c.2.1];exact ad _,Or.inl c.1⟩,⟨[],⟨by simp[c.2.2.2.1],by rw[c.2.2.1,c.2.2.2.1];exact ad _,Or.inl c.2.2.1⟩,gH.nil _ _,Vl.nil⟩,?_⟩
 ·rw[u b V V];unfold lX;rw[eF V,eF V,eF V]
 ·rw[u b (by have:=d.size;omega) (by have:=d.size;omega)];unfold lX;rw[eF (by have:=d.size;omega),eF (by have:=d.size;omega),eF (by have:=d.size;omega)]
 ·refine sa.uP (a:=[]) (f:=bg a 0 0 []) (r:=.mk b1 0 k k) (j:=.mk b2 0 k k) (h:=.mk b3 0 k k) (k:=[]) ⟨?_,rfl,aJ,aJ,conv A (by simp only[O.jH];omega) (by simp only[O.jH];omega),conv a2 (by simp only[O.jH];omega) (by simp only[O.jH];omega),conv a3 (by simp only[O.jH];omega) (by simp only[O.jH];omega)⟩
  rw[c.2.2.2.2]
  refine⟨rfl,ad _,Or.inr ⟨b4,1,[],rfl,?_,?_,rfl⟩⟩
  ·rw[eF V,gX]
  ·rw[dD];exact D.ext d
end
section
def Qs(a:cq)(aY:Int):∃s,s=ar a 100000 (cD a aY):=⟨_,rfl⟩
noncomputable def nh (a:cq) (aY:Int):St:=Classical.choose (Qs a aY)
def se(a:cq)(aY:Int):nh a aY=ar a 100000 (cD a aY):=dU (Qs a aY)
def Fo{a:cq}{aY:Int}(h:gP a)(c:0<=aY/\aY<=40):dm a (nh a aY)/\Sm 100000 (nh a aY)/\(nh a aY).bW≠3:=by
 have b:=vT h c;rw[se];refine⟨sX _ b,?_,Kn _ b (by have:=PL h c;omega)⟩;have:=sY 100000 b (vU a aY) V;rw[cO]at this;exact this
structure YW where
 bW:Int
 value:Int
 bE:Int
 bd:List Int
 ok:Bool
open Classical in
noncomputable def Hi (a:cq) (aY:Int):YW:=
 if gP a/\0<=aY/\aY<=40 then⟨(nh a aY).bW,(nh a aY).value,(nh a aY).bE,(nh a aY).bd,true⟩else⟨0,0,0,[],false⟩
end
section
variable{m:J}{s:O}{a:List Int}{h:List bQ}{w:Int}{b:Nat}
def kG(d:aq m s a)(n:a.length<=1000000000):nL 77 [O.v s] m a:=by
 apply sO;have c:=d.len;refine⟨λh=>?_,λh=>?_⟩
 ·cases s with
  |nil=>simp at c;have:a=[]:=List.length_eq_zero_iff.1 c.symm;subst this;exact⟨.nil,rfl,ij.nil _ _ _ _,N.az _⟩
  |mk b o f e=>simp at h
  |A2 b o e=>simp at h
 ·intro e;have b:N m e:=(N.az m).aN _;have g:ij m e aI 1 (.mk m.size 0 0 0) []:=ij.new (N.az m) aI 1 [] 0 aJ;refine ij.append (c:=[.i 0]) (i:=a.map Ce.i) g b (by simp[c]) (d.ext b).Gk bR λr o b f i j k l=>⟨r,rfl,by simpa using b,f⟩
def rq(j:aq m s a)(c:Int):aL cp 105 [O.v s,vi c] m λv o=>∃r:Int,v=vi r/\N m o/\((r= -1/\c∉a)\/(c∈a/\r=qA a c)):=by
 apply sQ;have p:=j.len;refine fB (n:=a.length) (p▸j.gV) (λi o=>N m o/\c∉a.take i) ⟨N.az _,aJ⟩ ?_;rintro i y I μ w ⟨g,f⟩ t
 refine dit (λh=>?_) λh=>?_
 ·obtain⟨x,e⟩:=ag (l:=a) (k:=i) V;refine⟨V,V,x,by simpa using g.af (j.D e),λd=>?_,λd=>t V _ ⟨g,?_⟩⟩
  ·simp at d;subst d;refine⟨_,rfl,g,Or.inr ⟨av e,?_⟩⟩;have:qA a c=i:=by
    unfold qA;rw[Z5 (aD e)];refine⟨by have:=(List.getElem?_eq_some_iff.1 e).2;simp[this],λq u=>?_⟩;simp;intro b;apply f;rw[<-b];exact List.mem_take_iff_getElem.2 ⟨q,V,rfl⟩
   rw[this]
  ·rw[bn e];simp at d;intro b;rcases List.mem_append.1 b with b|b
   ·exact f b
   ·simp at b;exact d b
 ·rw[cN V]at f;exact⟨_,rfl,g,Or.inl ⟨rfl,f⟩⟩
def lC(d:aq m s a)(n:Int):dW cp 144 [O.v s,vi n] m (n∈a):=by
 apply qG;refine(rq d n).mono ?_;rintro _ g ⟨r,rfl,e,h⟩;refine⟨_,rfl,fF ?_ e⟩;simp only[Fx,au];rcases h with⟨rfl,h⟩|⟨c,f⟩
 ·exact⟨λb=>V,λb=>absurd b h⟩
 ·exact⟨λ_=>c,λ_=>V⟩
def Bg{t:O}{r:List Int}(g:aq m s a)(o:aq m t r):dW cp 147 [O.v s,O.v t] m (a=r):=by
 apply sP;have p:=g.len;have v:=o.len;refine⟨λh=>cX (λf=>by subst f;simp at h;omega) (N.az _),λh=>?_⟩;simp at h;refine fB (n:=a.length) (p▸g.gV) (λe b=>N m b/\a.take e=r.take e) ⟨N.az _,aJ⟩ ?_;rintro e w I μ u ⟨c,j⟩ q
 refine⟨λh=>?_,λh=>jM (by simp at h;rwa[cN V,cN V]at j) c⟩;simp only[au]at h;obtain⟨x,i⟩:=ag (l:=a) (k:=e) V;obtain⟨y,d⟩:=ag (l:=r) (k:=e) V;refine⟨V,V,x,by simpa using c.af (g.D i),V,V,y,by simpa using c.af (o.D d),λb=>cX (λf=>?_) c,λb=>q V _ ⟨c,?_⟩⟩
 ·subst f;rw[i]at d;simp at d;simp at b;exact b d
 ·rw[bn i,bn d,j];simp at b;rw[b]
def kM{a:O}(i:fN m a h)(y:w<=9223372036854775807):
 aL cp 123 [O.v a,vi w] m λv r=>∃(j:Int)(e:Bool),v=.tuple #[vi j,vb e]/\(e=true<->fQ h w)/\(e=true->j=ix w)/\N m r:=by
 apply Ev
 have n:=i.len
 have x:=i.gV
 refine⟨λc=>?_,λc=>?_⟩
 ·simp at c
  have o:cR (w -1000)=w -1000:=aP V V
  have q:(ix w:Int)=w -1000:=by unfold ix;omega
  rw[o]
  refine⟨λg=>?_,λg=>?_⟩
  ·simp at g
   obtain⟨f,b⟩:=ag (l:=h) (k:=(w -1000).toNat) V
   obtain⟨t,u,p,_⟩:=i.D b
   refine⟨V,V,f.aS,p,_,_,rfl,?_,λ_=>q.symm,N.az _⟩
   simp only[mP,au]
   refine⟨λa=>⟨c,f,b,a⟩,λ⟨_,s,d,a⟩=>?_⟩
   unfold ix at d
   rw[b]at d;simp at d;subst d;exact a
  ·simp at g
   refine⟨_,_,rfl,⟨λh=>by simp at h,λ⟨_,f,b,_⟩=>?_⟩,λh=>by simp at h,N.az _⟩
   have:=aD b
   omega
 ·simp at c
  exact⟨_,_,rfl,⟨λh=>by simp at h,λn=>by have:=n.1;omega⟩,λh=>by simp at h,N.az _⟩
def Jz{a:O}(f:af m b 8=some (O.v a))(g:fN m a h)(i:w<=9223372036854775807):dW cp 92 [vp b 0,vi w] m (fQ h w):=by
 apply tv (b,0);refine⟨a,f,(kM g i).mono ?_⟩;rintro _ k ⟨c,d,rfl,e,_,j⟩;exact⟨c,d,rfl,fF e j⟩
def CV(g:aq m s a)(t:a.length<=100000000):nL 148 [O.v s] m (j7 a):=by
 apply xN;have r:=g.len;refine dS (n:=a.length) V (λd s b=>N m b/\ij m b aI 1 s ((j7 (a.take d)).map Ce.i)) ⟨N.az _,by simpa[j7]using ij.nil m m aI 1⟩ ?_;rintro d s u I μ q ⟨c,b⟩ i
 refine dit (λh=>?_) λh=>?_
 ·obtain⟨x,e⟩:=ag (l:=a) (k:=d) V;refine⟨V,V,x,by simpa using c.af (g.D e),λf=>?_,λj=>?_⟩
  ·intro v;refine nB b c (by have:=nD (a.take d);simp at this;omega) λy w o p=>i V _ _ ⟨p,?_⟩
   rw[bn e,oA];have:j7 [x]=[x]:=by simp at f;simp[j7,f]
   rw[this];exact o
  ·refine i V _ _ ⟨c,?_⟩
   rw[bn e,oA];have:j7 [x]=[]:=by simp at j;simp[j7];omega
   rw[this,dD];exact b
 ·rw[cN V]at b;exact⟨s,rfl,b,c⟩
def xh(i:aq m s a):dW cp 94 [O.v s] m (Qy a):=by
 apply CR;refine(jK i 145 #[] #[] bh (λx=>x≠0) (λx _ j e=>?_)).then λb k g e=>⟨b,rfl,fF ?_ e⟩
 ·simp only[dN,dD];apply yW;exact fF aJ (N.az _)
 ·have f:(!b)=true<->¬(b=true):=aJ;rw[f,g];unfold Qy;constructor
  ·intro h n d;exact de λc=>h ⟨n,d,c⟩
  ·rintro h ⟨n,d,c⟩;exact c (h n d)
def ve{am Y:O}{d:cq}(ac:eV m am Y d)(g1:af m b 1=some (O.v Y)){x:Instr}(hc:yC d x){q o:O}(D:aq m q x.args)(aR:x.args.length<=1000000)(ap:(x.op=16\/x.op=17)->1<=x.args.length):
 aL cp 91 [vp b 0,xv x q o] m λaF X=>∃u a,aF=.tuple #[O.v u,O.v a]/\aq X u (bS d x)/\aq X a (if x.op=9\/x.op=24 then fg d x 0 x.args else[])/\N m X/\(u=.nil\/u.E=q.E\/m.size<=u.E)/\(a=.nil\/m.size<=a.E):=by
 apply rK (b,0)
 simp -zeta only[aC,aB]
 intro f
 have z:N m f:=(N.az m).aN _
 have T:∀r∈[m.size],r<f.size:=by simp[f]
 have s1:f.size=m.size+1:=by simp[f]
 have ab:=D.len
 have aK:=D.cap
 have S:aq f .nil []:=⟨rfl,aJ,aJ,aJ⟩
 clear_value f
 refine⟨λe=>?_,λs=>⟨λe=>?_,λv=>⟨λe=>?_,λt=>?_⟩⟩⟩
 ·simp only[bT,aE]at e
  refine⟨q,.nil,rfl,?_,by rw[ae V];exact S,z,Or.inr (Or.inl rfl),Or.inl rfl⟩
  unfold bS;rw[an V];exact D.ext z
 ·simp only[bT,aE]at e
  simp only[bq,ak]at s
  have i:=ap e
  refine⟨V,V,V,_,.nil,rfl,?_,by rw[ae V];exact S,z,Or.inr (Or.inl ?_),Or.inl rfl⟩
  ·unfold bS;rw[ae V,an e]
   exact eK.Rw (D.ext z) i
  ·cases q with
   |nil=>simp at ab;omega
   |A2 r c g=>simp at ab;omega
   |mk r c a g=>rfl
 ·simp only[bT,aE]at e
  simp only[bq,ak]at s v
  obtain⟨h0,aS,P⟩:=hc e
  have aQ:=ac.cB.len
  have aP:=aD P
  have aA:∃(C:O->O->Int->J->Prop)(μ0:O->O->Int->J->Nat),C O.nil O.nil (0:Int) f/\(∀(ao:O)(cG:O)(j:Int)(g:J),C ao cG j g->∃c:Nat,j=c/\c<=x.args.length/\N f g/\ij f g aI 1 ao ((iC d x c).map Ce.i)/\ij f g aI 1 cG ((fg d x 0 (x.args.take c)).map Ce.i)/\(ao≠.nil->cG≠.nil->ao.E≠cG.E))/\
   (∀(ao cG:O)(c:Nat)(g:J),c<=x.args.length->N f g->ij f g aI 1 ao ((iC d x c).map Ce.i)->ij f g aI 1 cG ((fg d x 0 (x.args.take c)).map Ce.i)->(ao≠.nil->cG≠.nil->ao.E≠cG.E)->C ao cG c g)/\(∀q r j m,μ0 q r j m=((x.args.length:Int) -j).toNat):=
   ⟨λao cG j g=>∃c:Nat,j=c/\c<=x.args.length/\N f g/\ij f g aI 1 ao ((iC d x c).map Ce.i)/\ij f g aI 1 cG ((fg d x 0 (x.args.take c)).map Ce.i)/\(ao≠.nil->cG≠.nil->ao.E≠cG.E),λ_ _ j _=>((x.args.length:Int) -j).toNat,
    ⟨0,rfl,eY _,N.az _,by simpa[iC,gT]using ij.nil f f aI 1,by simpa[fg]using ij.nil f f aI 1,λh=>absurd rfl h⟩,λ_ _ _ _ h=>h,λao cG c g i p w y A=>⟨c,rfl,i,p,w,y,A⟩,λ_ _ _ _=>rfl⟩
  obtain⟨C,μ0,ar,ay,ah,hμ⟩:=aA
  refine⟨C,μ0,ar,?_⟩
  intro ao cG j g hI
  obtain⟨c,rfl,hk,aa,o1,o2,M⟩:=ay ao cG j g hI
  have Q:=z.trans aa
  refine dit (λh=>?_) λh=>?_
  ·obtain⟨y,U⟩:=ag (l:=x.args) (k:=c) V
   obtain⟨a',l',c',aH,aw,aM,k0,k1,_⟩:=(ac.ext Q).cB.D P
   have aj:(x.args.take c).length=c:=bR
   have al:iC d x (c+1)=iC d x c++gT d x c [y]:=by
    unfold iC;rw[bn U,uJ,aj,cO]
   have ai:fg d x 0 (x.args.take (c+1))=fg d x 0 (x.args.take c)++fg d x c [y]:=by
    rw[bn U,qh,aj,cO]
   have aN:(iC d x c).length<=c:=bX (td _ _ _ _) bR
   have aO:(fg d x 0 (x.args.take c)).length<=c:=by
    have:∀(a:List Int)(o:Nat),(fg d x o a).length<=a.length:=by
     intro a;induction a with
     |nil=>intro o;exact ad _
     |cons aG a W=>intro o;have:=W (o+1);simp only[fg];split<;>simp<;>omega
    have:=this (x.args.take c) 0;omega
   have es:cR ((c:Int)+1)=((c+1:Nat):Int):=kV (n:=x.args.length) V V
   refine⟨V,V,y,by simpa using Q.af (D.D U),Y,Q.af g1,h0,V,l',k1,(lC aw _).aK aa T λr R hb w I=>⟨r,rfl,λav=>?_,λau=>?_⟩⟩
   ·have E:=(JE P c).2 (hb.1 av)
    intro p
    have s4:p.size=R.size+1:=by simp[p]
    have A:=o1.ext w
    have B:=o2.ext w
    have ax:cG.len=(fg d x 0 (x.args.take c)).length:=by have:=o2.len;simp at this;omega
    refine ij.append (c:=[.i 0]) (i:=[.i y]) (B.ext (N.push _ _)) (I.aN _) rfl (cx.push R _ _).iv bR λu m5 Z H q3 q4 q5 q6=>⟨N.sM (I.aN _) H T,?_⟩
    rw[es]
    have az:=w.size
    refine⟨ah _ _ _ _ V H ?_ ?_ ?_,by rw[hμ,hμ];omega⟩
    ·rw[al]
     have:gT d x c [y]=[]:=by simp only[gT];rw[an E]
     rw[this,dD]
     rcases A.lt with e|e
     ·subst e;exact⟨A.len,Or.inl rfl⟩
     ·refine A.congr ?_
      rw[q5 _ (show _<p.size by omega) (λG=>?_),ms,ae V]
      by_cases F:ao=.nil
      ·subst F
       rcases o2.E with t|t
       ·exact absurd t G
       ·simp;omega
      ·exact M F G
    ·rw[ai]
     have:fg d x c [y]=[y]:=by simp only[fg];rw[an E]
     rw[this];simpa using Z
    ·intro K L
     rcases q6 with⟨_,e⟩|⟨s,v,_⟩|e
     ·exact absurd e L
     ·rw[v];exact M K s
     ·rw[e]
      rcases A.lt with i|i
      ·exact absurd i K
      ·show ao.E≠p.size;omega
   ·have E:¬na d x c=true:=λhh=>fb hb au ((JE P c).1 hh)
    intro p
    have s4:p.size=R.size+1:=by simp[p]
    have A:=o1.ext w
    have B:=o2.ext w
    have ax:ao.len=(iC d x c).length:=by have:=o1.len;simp at this;omega
    refine ij.append (c:=[.i 0]) (i:=[.i y]) (A.ext (N.push _ _)) (I.aN _) rfl (cx.push R _ _).iv bR λu m5 Z H q3 q4 q5 q6=>⟨N.sM (I.aN _) H T,?_⟩
    rw[es]
    have az:=w.size
    refine⟨ah _ _ _ _ V H ?_ ?_ ?_,by rw[hμ,hμ];omega⟩
    ·rw[al]
     have:gT d x c [y]=[y]:=by simp only[gT];rw[ae E]
     rw[this];simpa using Z
    ·rw[ai]
     have:fg d x c [y]=[]:=by simp only[fg];rw[ae E]
     rw[this,dD]
     rcases B.lt with e|e
     ·subst e;exact⟨B.len,Or.inl rfl⟩
     ·refine B.congr ?_
      rw[q5 _ (show _<p.size by omega) (λG=>?_),ms,ae V]
      by_cases F:cG=.nil
      ·subst F
       rcases o1.E with t|t
       ·exact absurd t G
       ·simp;omega
      ·exactλe5=>M G F e5.symm
    ·intro K L
     rcases q6 with⟨_,e⟩|⟨s,v,_⟩|e
     ·exact absurd e K
     ·rw[v];exact M s L
     ·rw[e]
      rcases B.lt with i|i
      ·exact absurd i L
      ·show p.size≠cG.E;omega
  ·have p:x.args.take c=x.args:=cN V
   rw[p]at o2
   unfold iC at o1
   rw[p]at o1
   have A:=td d x x.args 0
   have w:∀(a:List Int)(o:Nat),(fg d x o a).length<=a.length:=by
    intro a;induction a with
    |nil=>intro o;exact ad _
    |cons aG a W=>intro o;have:=W (o+1);simp only[fg];split<;>simp<;>omega
   have y:=w x.args 0
   refine⟨ao,cG,rfl,?_,?_,Q,?_,?_⟩
   ·unfold bS;rw[ae V,ae V,an e];exact aq.gQ o1 V
   ·rw[an e];exact aq.gQ o2 V
   ·rcases o1.E with i|i
    ·exact Or.inl i
    ·exact Or.inr (Or.inr V)
   ·rcases o2.E with i|i
    ·exact Or.inl i
    ·exact Or.inr V
 ·simp only[bq,ak]at s v t
  refine⟨.nil,.nil,rfl,?_,by rw[ae V];exact S,z,Or.inl rfl,Or.inl rfl⟩
  unfold bS;rw[ae V,ae V,ae V];exact S
end
section
variable{b:J}{i e:Nat}{d p g q h a j:O}{c:cq}{s:St}{t:List aW}{f:aW}{x:Instr}
def FZ:∀(l:List (Int×Int))(k v j:Int),uv (HW l k v) j=if j=k then v else uv l j
 |[],k,v,j=>by simp[HW,uv]
 |(a,c)::g,k,v,j=>by
  simp only[HW];split
  ·rename_i h;subst h;simp only[uv];split<;>simp_all
  ·rename_i h;simp only[uv];split
   ·rename_i b;subst b;rw[ae (λe=>h e.symm)]
   ·exact FZ g k v j
def Ol(l:List Int)(k:Nat)(a:Nat):fR (l.take k) a<=fR l a:=by
 have:fR l a=fR (l.take k) a+fR (l.drop k) a:=by rw[<-mF,cT]
 have:=ju (l.drop k) a;omega
def vk{p:O}{h:List bQ}(hg:af b i 8=some (O.v p))(M:fN b p h){v:Nat->Int}(J:ft h v){c:bQ}(Y:c∈h){f:O}(Z:aq b f c.aR)(aE:h.length<=2000000000):
 dW cp 146 [vp i 0,.agg #[vi c.aS,vi c.kd,O.v f]] b (c.aS=1\/kH h c.aR):=by
 apply rP (i,0)
 unfold nt
 simp -zeta only[aC,aB]
 intro g
 have B:N b g:=(N.az b).aN _
 have s1:g.size=b.size+1:=by simp[g]
 have hl:∀m∈[b.size],m<g.size:=by simp[s1]
 have az:=(J.cell c Y).fl
 have aA:=Z.len
 have aF:=M.len
 clear_value g
 refine⟨λx=>jM (Or.inl (by simpa using x)) B,λx=>?_⟩
 simp only[ak]at x
 intro D
 have ai:N g D:=(N.az g).aN _
 have ar:Cr D g.size []:=⟨#[],0,by simp[D],rfl⟩
 clear_value D
 refine fB (n:=c.aR.length) V (λd e=>N g e/\∃j,Cr e g.size j/\(∀a:Nat,uv j a=fR (c.aR.take d) a)/\∀w∈c.aR.take d,1000<=w->(aG h w).aS+fR (c.aR.take d) (ix w)<=999999) ⟨ai,[],ar,λa=>by simp[uv,fR],aJ⟩ ?_
 rintro d m3 ay μ hk ⟨F,j,ab,Q,z⟩ ah
 have C:=B.trans F
 refine dit (λh2=>?_) λh2=>?_
 ·obtain⟨w,q⟩:=ag (l:=c.aR) (k:=d) V
  have ac:1000<=w->fQ h w:=λp=>J.field Y (av q) p
  have ax:w<=9223372036854775807:=by
   rcases dt (1000<=w)with s|s
   ·have:=aD (bY (ac s)).1;unfold ix at this;omega
   ·omega
  refine⟨V,V,w,by simpa using C.af (Z.D q),p,C.af hg,(kM (fN.ext C M) ax).aK F hl ?_⟩
  rintro _ m4 ⟨a,m,rfl,y,aj,H⟩
  have r:=F.trans H
  have aO:=B.trans r
  have ap:g.size<m3.size:=by obtain⟨W,U,I,_⟩:=ab;exact(Array.getElem?_eq_some_iff.1 I).1
  have R:Cr m4 g.size j:=by obtain⟨W,U,I,t⟩:=ab;exact⟨W,U,by rw[H.same _ ap];exact I,t⟩
  have o:∀a:Nat,fR (c.aR.take (d+1)) a=fR (c.aR.take d) a+(if w=1000+(a:Int)then 1 else 0):=λa=>by
   rw[bn q,mF];simp[fR]
  refine⟨H,a,m,rfl,λX=>?_,λal=>?_⟩
  ·have P:=y.1 X
   have K:=aj X
   subst K
   have ad:=jI P.1
   have aM:=ju (c.aR.take d) (ix w)
   have aL:=wu (c.aR.take d) (ix w)
   have aH:(c.aR.take d).length<=3:=bR
   have e1:cR (uv j (ix w)+1)=fR (c.aR.take (d+1)) (ix w):=by
    rw[Q,o,an ad.symm];exact aP V V
   refine⟨j,R,j,R,?_⟩
   rw[e1]
   intro m5 aa aw ao
   have G:N g m5:=⟨by rw[aw];exact r.size,λm y=>by rw[ao m V,r.same m y]⟩
   have T:=B.trans G
   obtain⟨L,aN⟩:=bY P
   obtain⟨f5,_,k0,_⟩:=(fN.ext T M).D L
   have aI:=aD L
   have aK:=(J.cell _ (av L)).hi
   have am:uv (HW j (ix w) (fR (c.aR.take (d+1)) (ix w))) (ix w)=fR (c.aR.take (d+1)) (ix w):=by rw[FZ,an rfl]
   have au:=o (ix w)
   rw[an ad.symm]at au
   have e2:cR ((aG h w).aS+fR (c.aR.take (d+1)) (ix w))=(aG h w).aS+fR (c.aR.take (d+1)) (ix w):=aP V V
   refine⟨N.sM r G hl,p,T.af hg,V,V,_,by simpa using k0,_,aa,trivial,trivial,?_⟩
   rw[am,e2]
   refine⟨λt=>cX (λu=>?_) T,λt=>ah V _ ⟨G,_,aa,λa=>?_,λE e A=>?_⟩⟩
   ·rcases u with u|u
    ·exact x u
    ·have:=u w (av q) P.1
     have:=Ol c.aR (d+1) (ix w)
     simp at t;omega
   ·rw[FZ]
    by_cases K:(a:Int)=ix w
    ·have:a=ix w:=V
     subst this;rw[an rfl]
    ·rw[ae K,Q,o,ae V];omega
   ·by_cases S:E=w
    ·subst S;simp at t;omega
    ·rw[o,ae (λv=>S (by rw[jI A]at v;exact v.symm))]
     rw[bn q]at e
     rcases List.mem_append.1 e with e|e
     ·have:=z E e A;omega
     ·simp at e;exact absurd e S
  ·have u:¬fQ h w:=fb y al
   have G:w<1000:=by
    rcases dt (1000<=w)with s|s
    ·exact absurd (ac s) u
    ·omega
   refine ah V _ ⟨r,j,R,λa=>by rw[Q,o,ae V];omega,λE e A=>?_⟩
   rw[o,ae V]
   rw[bn q]at e
   rcases List.mem_append.1 e with e|e
   ·have:=z E e A;omega
   ·simp at e;omega
 ·rw[cN V]at z
  exact jM (Or.inr z) C
structure FP(b:J)(fb e:Nat)(f:aW)(g q h:O):Prop where
 g3:af b fb (e+3)=some (O.v g)
 g4:af b fb (e+4)=some (O.v q)
 g5:af b fb (e+5)=some (O.v h)
 ao:aq b g f.ao
 aQ:aq b q f.aQ
 br:aq b h f.br
def FP.ext{b c:J}{fb e:Nat}{f:aW}{g q h:O}(F:FP b fb e f g q h)(a:N b c):FP c fb e f g q h:=⟨a.af F.g3,a.af F.g4,a.af F.g5,F.ao.ext a,F.aQ.ext a,F.br.ext a⟩
def FU{fb:Nat}{bd P fr:O}(m:RV b i 3 d p bd P fr c s)(am:af b i 2=some (vi (bz c)))(C:xG c s t f x)(R:FP b fb e f g q h)(A:aq b a x.args)(aM:x.op=11)(an:s.heap.length<=2000000000):
 dW cp 95 [vp i 0,vp fb e,xv x a j] b (uS c s.heap (D f.ao (D x.args 0))):=by
 apply rO (i,0) (fb,e)
 simp -zeta only[aC,aB]
 intro z
 have v:N b z:=(N.az b).aN _
 have s1:z.size=b.size+1:=by simp[z]
 clear_value z
 have hl:∀G∈[b.size],G<z.size:=by simp[s1]
 have az:=A.len
 have aQ:=R.ao.len
 have h2:=C.kv.2.2.1 V
 have u:0<=D x.args 0/\D x.args 0<f.ao.length:=C.arg _ (eR V V)
 have au:=C.F.pd u.1 u.2 C.KI
 have S:=R.ext v
 have X:=C.ok.heap
 have ab:=C.ok.fC
 refine⟨P,v.af m.qy,g,S.g3,V,V,_,(A.ext v).pD V V,u.1,V,_,S.ao.pD u.1 u.2,?_⟩
 generalize D f.ao (D x.args 0)=w at*
 refine(kM (fN.ext v m.heap) au.2).aK (N.az _) hl ?_
 rintro _ Q ⟨ae,G,rfl,Y,ak,I⟩
 have E:=v.trans I
 refine⟨I,ae,G,rfl,λal=>cX (λn=>nb Y al n.1) E,λZ=>?_⟩
 have ac:=yb Y Z
 have A:=ak (by simpa using Z)
 subst A
 obtain⟨B,ap⟩:=bY ac
 have W:=X.cell _ (av B)
 have aS:=(W.rm ap).2
 have aL:=aD B
 have aJ:=m.heap.len
 obtain⟨H,aa,k0,k1,k2⟩:=(fN.ext E m.heap).D B
 refine⟨P,E.af m.qy,V,V,_,by simpa using k0,_,by simpa using k1,H,by simpa using k2,?_⟩
 intro m3 r
 have T:N Q r:=((N.az Q).aN _).ah (ad _) _ _
 have s4:r.size=Q.size+1:=by simp[r,m3,ay]
 clear_value r
 have o:=E.trans T
 have ax:(eE c.aT).length<=12:=by
  have:=qx ab.lY.types c.aT.length;rw[mz _ _ (ad _)]at this;exact this
 have aF:(bz c)=((eE c.aT).length:Int):=rfl
 have aO:=m.fC.cB.len
 have aN:=ab.lY.len
 have e1:cR ((aG s.heap w).kd -bz c)=(aG s.heap w).kd -bz c:=aP V V
 refine⟨bz c,o.af am,?_⟩
 rw[e1]
 refine⟨λJ=>cX (λn=>by have:=n.2.1;simp at J;omega) o,λJ=>⟨p,o.af m.cB,λK=>cX (λn=>by have:=n.2.2.1;simp at K;omega) o,λK=>?_⟩⟩
 simp at J K
 obtain⟨aw,hq⟩:=ag (l:=c.cB) (k:=((aG s.heap w).kd -bz c).toNat) V
 have ar:dy c ((aG s.heap w).kd -bz c)=aw:=by simp[dy,hq]
 obtain⟨a',l',c',ai,ao,aE,j0,j1,j2,j3,j4⟩:=(m.fC.ext o).cB.D hq
 have aA:=ai.len
 have aK:=ao.len
 have aI:=aa.len
 have aH:=W.fl
 refine⟨p,o.af m.cB,V,V,a',j0,l',j1,_,j2,_,j3,c',j4,?_⟩
 intro m5 F
 have U:N r F:=((N.az r).aN _).ah (ad _) _ _
 have s6:F.size=r.size+1:=by simp[F,m5,ay]
 clear_value F
 have y:=o.trans U
 have e3:cR ((H.len:Int)+1)=(H.len:Int)+1:=aP V V
 rw[e3]
 unfold uS
 rw[ar]
 have aR:=I.size
 refine⟨λL=>⟨λM=>?_,λM=>cX (λn=>by have:=n.2.2.2.1;simp at M;omega) y⟩,λL=>cX (λn=>by have:=n.2.2.2.2.1;simp at L;omega) y⟩
 simp at L M
 refine(vk (y.af m.qy) (fN.ext y m.heap) X (av B) (aa.ext (T.trans U)) an).aK (N.az _) bR λb2 m7 aj ah _=>⟨b2,rfl,fF (aj.trans ?_) (y.trans ah)⟩
 exact⟨λhs=>⟨ac,V,V,V,V,hs⟩,λn=>n.2.2.2.2.2⟩
def CU{fb:Nat}{bd hp fr:O}(E:RV b i 3 d p bd hp fr c s)(F:xG c s t f x)(L:FP b fb e f g q h)(Q:aq b a x.args)(aP:x.op=14\/x.op=19\/x.op=21\/x.op=16\/x.op=17)(aN:s.heap.length<=2000000000):
 dW cp 96 [vp i 0,vp fb e,xv x a j] b ((x.op=14->fQ s.heap (D f.ao (D x.args 0))/\(aG s.heap (D f.ao (D x.args 0))).aS<999999)/\(x.op=19->fQ s.heap (D f.ao (D x.args 0))/\x.bL<(aG s.heap (D f.ao (D x.args 0))).aR.length)/\
  (x.op=21->fQ s.heap (D f.ao (D x.args 0))/\(aG s.heap (D f.ao (D x.args 0))).kd∈cg c.aT x.bL)/\((x.op=16\/x.op=17)->D0 s.heap f x)):=by
 apply qB (i,0) (fb,e)
 simp -zeta only[aC,aB]
 intro U
 have S:N b U:=(N.az b).aN _
 have s1:U.size=b.size+1:=by simp[U]
 clear_value U
 have hl:∀G∈[b.size],G<U.size:=by simp[s1]
 have aZ:=Q.len
 have aY:=Q.cap
 have a8:=L.ao.len
 have a2:=L.br.len
 have h4:=F.kv
 have a5:=F.JD
 have aO:1<=x.args.length:=V
 have aV:=h4.1
 clear h4
 have H:0<=D x.args 0/\D x.args 0<f.ao.length:=F.arg _ (eR V V)
 have aQ:=F.F.pd H.1 H.2 F.KI
 have F1:=L.ext S
 have hI:=F.ok.heap
 have aH:D0 s.heap f x<->(fQ s.heap (D f.ao (D x.args 0))/\j7 (aG s.heap (D f.ao (D x.args 0))).aR=cy f (x.args.drop 1)/\((aG s.heap (D f.ao (D x.args 0))).aS=1\/kH s.heap (aG s.heap (D f.ao (D x.args 0))).aR)/\(x.op=17->D f.br (D x.args 0)=0)):=Q5
 rw[aH]
 refine⟨hp,S.af E.qy,g,F1.g3,V,V,_,(Q.ext S).pD V V,H.1,V,_,F1.ao.pD H.1 H.2,?_⟩
 generalize D f.ao (D x.args 0)=w at*
 refine(kM (fN.ext S E.heap) aQ.2).aK (N.az _) hl ?_
 rintro _ I ⟨aw,G,rfl,Y,aK,ab⟩
 have aa:=S.trans ab
 refine⟨ab,aw,G,rfl,λaM=>cX (λz=>?_) aa,λam=>?_⟩
 ·have v:=nb Y aM
  rcases aP with u|u|u|u
  ·exact v (z.1 u).1
  ·exact v (z.2.1 u).1
  ·exact v (z.2.2.1 u).1
  ·exact v (z.2.2.2 u).1
 have K:=yb Y am
 have aJ:=aK (by simpa using am)
 subst aJ
 obtain⟨hc,a7⟩:=bY K
 have al:=hI.cell _ (av hc)
 have a6:=aD hc
 have a3:=E.heap.len
 obtain⟨f2,ai,k0,k1,k2⟩:=(fN.ext aa E.heap).D hc
 refine⟨hp,aa.af E.qy,V,V,_,by simpa using k0,_,by simpa using k1,f2,by simpa using k2,?_⟩
 intro m3 C
 have ac:N I C:=((N.az I).aN _).ah (ad _) _ _
 have s4:C.size=I.size+1:=by simp[C,m3,ay]
 have kB:af C I.size 1=some (vi (aG s.heap w).kd):=(cx.ah (m:=m3) (o:=0) (r:=[.i (aG s.heap w).aS,.i (aG s.heap w).kd,.s f2]) (cx.push I _ _)).bV 1
 clear_value C
 have B:=aa.trans ac
 have a9:=ab.size
 have J:∀G∈[I.size,b.size],G<C.size:=bR
 have a1:=ai.len
 refine⟨λu=>?_,λax=>⟨λu=>?_,λaz=>⟨λu=>?_,λaA=>?_⟩⟩⟩
 ·simp at u
  refine fF ?_ B
  simp
  exact⟨λy=>⟨λ_=>⟨K,y⟩,λv=>V,λv=>V,λv=>V⟩,λy=>(y.1 u).2⟩
 ·simp at u
  refine fF ?_ B
  simp
  exact⟨λy=>⟨λv=>V,λ_=>⟨K,V⟩,λv=>V,λv=>V⟩,λy=>by have:=(y.2.1 u).2;omega⟩
 ·simp at u
  refine⟨d,B.af E.aT,(sE (E.fC.ext B).aT F.ok.fC.lY.types _).aK (N.az _) J ?_⟩
  rintro _ m5 ⟨M,rfl,P,A⟩
  refine⟨A,M,rfl,A.bZ kB,(lC P _).aK A J λb2 m6 Z ah ae=>⟨b2,rfl,fF (Z.trans ?_) (B.trans ae)⟩⟩
  exact⟨λy=>⟨λv=>V,λv=>V,λ_=>⟨K,y⟩,λv=>V⟩,λy=>(y.2.2.1 u).2⟩
 ·simp at ax az aA
  have W:x.op=16\/x.op=17:=V
  have e1:(Int.toNat (1:Int))=1:=rfl
  have e2:(Int.toNat (a.len:Int))=a.len:=V
  rw[e1,e2]
  have ao:=Te (Q.ext B) aO
  have a4:=ao.len
  have a0:(x.args.drop 1).length<=4:=bR
  refine⟨V,V,V,?_⟩
  refine dS (n:=(x.args.drop 1).length) V (λak s' M=>N C M/\ij C M aI 1 s' ((cy f ((x.args.drop 1).take ak)).map Ce.i)) ⟨N.az _,by simpa[cy]using ij.nil C C aI 1⟩ ?_
  rintro ak s' m5 aU μ hk ⟨A,o5⟩ aS
  have aR:=B.trans A
  refine dit (λy=>?_) λy=>?_
  ·obtain⟨X,M⟩:=ag (l:=x.args.drop 1) (k:=ak) V
   have P:=F.arg X (vY (av M))
   have R:=L.ext aR
   refine⟨V,V,X,by simpa using(ao.ext A).D M,g,R.g3,P.1,V,_,R.ao.pD P.1 P.2,?_⟩
   intro m6
   refine nB o5 A (by simp[cy];omega) λaj m7 q1 T=>⟨N.sM (A.aN _) T J,aS V _ _ ⟨T,?_⟩⟩
   rw[bn M]
   simpa[cy]using q1
  ·rw[cN V]at o5
   have i5:aq m5 s' (cy f (x.args.drop 1)):=aq.gQ o5 (by simp[cy];omega)
   refine(CV (ai.ext (ac.trans A)) (by have:=al.fl;omega)).aK (by have:=nD (aG s.heap w).aR;have:=al.fl;omega) (λG Y=>A.lt (J G Y)) λps m6 o6 i6 ah=>⟨ps,rfl,?_⟩
   have ae:=A.trans ah
   refine(Bg i6 (i5.ext ah)).aK ae J λb2 m7 Z aW X=>⟨b2,rfl,λh8=>cX (λz=>nb Z h8 (z.2.2.2 W).2.1) (B.trans X),λh8=>?_⟩
   have an:=yb Z h8
   have T:=B.trans X
   have au:aL cp 146 [vp i 0,.agg #[vi (aG s.heap w).aS,vi (aG s.heap w).kd,O.v f2]] m7 λaT ap=>dR [I.size,b.size] m7 ap/\∃ar:Bool,aT=vb ar/\((ar=true<->((aG s.heap w).aS=1\/kH s.heap (aG s.heap w).aR))/\N b ap):=
    (vk (T.af E.qy) (fN.ext T E.heap) hI (av hc) (ai.ext (ac.trans X)) aN).aK X J λb3 m8 R aX aF=>⟨b3,rfl,R,B.trans aF⟩
   have F7:=L.ext T
   have aE:D x.args 0<f.br.length:=V
   refine⟨λM=>⟨h,F7.g5,V,V,_,(Q.ext T).pD V V,H.1,V,_,F7.br.pD H.1 aE,λP=>cX (λz=>?_) T,λP=>au.mono ?_⟩,λM=>au.mono ?_⟩
   ·simp at M P;exact P ((z.2.2.2 W).2.2.2 M)
   ·rintro _ m8 ⟨hs,b3,rfl,R,aj⟩
    refine⟨hs,b3,rfl,fF (R.trans ?_) aj⟩
    simp at P
    exact⟨λhf=>⟨λv=>V,λv=>V,λv=>V,λ_=>⟨K,an,hf,λ_=>P⟩⟩,λz=>(z.2.2.2 W).2.2.1⟩
   ·rintro _ m8 ⟨hs,b3,rfl,R,aj⟩
    refine⟨hs,b3,rfl,fF (R.trans ?_) aj⟩
    simp at M
    exact⟨λhf=>⟨λv=>V,λv=>V,λv=>V,λ_=>⟨K,an,hf,λv=>absurd v M⟩⟩,λz=>(z.2.2.2 W).2.2.1⟩
end
section
variable{b:J}{c:Nat}{a:aW}{d e h:O}
def uc(ao:List Int):∀(b a aQ:List Int),bB ao aQ (b++a)=bB ao (bB ao aQ b) a
 |[],a,aQ=>rfl
 |y::b,a,aQ=>by simp only[cA,bB,uc ao b a]
def KP{f fb:Nat}(i:af b f 0=some (vp fb c))(F:FP b fb c a d e h){x:Int}(g:0<=x/\x<a.ao.length):dW cp 93 [vi x,vp f 0] b (1000<=D a.ao x):=by
 apply uj x (f,0);have j:=F.ao.len;exact⟨(fb,c),i,d,F.g3,g.1,V,_,F.ao.pD g.1 g.2,fF aJ (N.az _)⟩
def Oc{mb fb:Nat}{a4 bu bd v fr:O}{g:cq}{Q:St}(T:RV b mb 3 a4 bu bd v fr g Q)(bc:af b mb 2=some (vi (bz g))){fs:List aW}{x:Instr}(C:xG g Q fs a x){aw bp:O}(S:FP b fb c a d e h)(ha:aq b aw x.args)(a1:Q.heap.length<=2000000000):
 dW cp 52 [vp mb 0,vp fb c,xv x aw bp] b (jr g Q a x (bB a.ao a.aQ (bS g x))):=by
 apply wm (mb,0) (fb,c)
 simp -zeta only[aC,aB]
 intro m1 M
 have z:N b M:=((N.az b).aN _).aN _
 have s1:m1.size=b.size+1:=by simp[m1]
 have s2:M.size=b.size+2:=by simp[M,s1]
 have R:∀j∈[m1.size,b.size],j<M.size:=bR
 have kP:af M b.size 0=some (vp fb c):=((cx.push b [.p fb c] _).ext (N.push m1 _)).bV 0
 clear_value M
 have bA:=ha.len
 have bL:=S.ao.len
 have bH:=S.aQ.len
 have bD:=S.br.len
 have bF:=C.JD
 have hd:=C.dst
 have bg:=C.XC
 refine⟨e,z.af S.g4,(kG (S.aQ.ext z) V).aK V R λE m3 oq iq aL=>⟨E,rfl,?_⟩⟩
 have az:=iq.len
 have aO:=z.trans aL
 refine(ve (T.fC.ext aO) (aO.af T.cB) C.call (ha.ext aO) (by have:=C.kv.1;omega) C.kv.2.2.2.1).aK aL R ?_
 rintro _ X ⟨rs,ls,rfl,aF,aR,aM,a3,a2⟩
 have a9:=aL.trans aM
 have bs:=oq.ext aM
 refine⟨aM,rs,ls,rfl,?_⟩
 have bN:=Hd g x
 have bx:=C.kv.1
 have bM:=aF.len
 have ba:=C.IS
 have bi:∀ad∈a.aQ,0<=ad:=λad W=>(C.MI ad W).1
 have bJ:M.size<=E.E:=by
  rcases oq.E with p|p
  ·subst p;simp at az;omega
  ·exact p
 have bK:E.E<m3.size:=by
  rcases oq.lt with p|p
  ·subst p;simp at az;omega
  ·exact p
 have aN:=C.arg
 have bG:=z.size
 have kr:∀{w:J},(∀j,j<X.size->j≠E.E->w[j]? =X[j]?)->aq w rs (bS g x):=λhk=>gR aF λH=>hk _ (iB aF H) λp=>by
  have bb:x.args≠[]:=λU=>by
   obtain⟨y,t⟩:=SF _ H;have:=AU t;rw[U]at this;simp at this
  rcases a3 with Y|Y|Y
  ·subst Y;have:=aF.len;simp at this;exact H (List.length_eq_zero_iff.1 this.symm)
  ·rw[Y]at p;have:=iB ha bb;omega
  ·omega
 have kl:∀{w:J},(∀j,j<X.size->j≠E.E->w[j]? =X[j]?)->aq w ls (if x.op=9\/x.op=24 then fg g x 0 x.args else[]):=λhk=>gR aR λH=>hk _ (iB aR H) λp=>by
  rcases a2 with Y|Y
  ·subst Y;have:=aR.len;simp at this;exact H (List.length_eq_zero_iff.1 this.symm)
  ·omega
 refine fB (n:=(bS g x).length) V (λq w=>N M w/\(∀j,j<X.size->j≠E.E->w[j]? =X[j]?)/\ij M w aI 1 E ((bB a.ao a.aQ ((bS g x).take q)).map Ce.i)/\∀ad∈bB a.ao a.aQ ((bS g x).take q),0<=ad) ⟨a9,λ_ _ _=>rfl,bs,bi⟩ ?_
 rintro q m5 bv μ hk ⟨ah,ao,aH,L⟩ aU
 have bk:=z.trans ah
 have F5:=S.ext bk
 have be:=jA a.ao ((bS g x).take q) a.aQ
 have aA:aq m5 E (bB a.ao a.aQ ((bS g x).take q)):=aq.gQ aH V
 refine dit (λh6=>?_) λh6=>?_
 ·obtain⟨y,t⟩:=ag (l:=bS g x) (k:=q) V
  have s:=ba y (av t)
  have F:bB a.ao a.aQ ((bS g x).take (q+1))=if 1000<=D a.ao y then gF (bB a.ao a.aQ ((bS g x).take q)) y (D (bB a.ao a.aQ ((bS g x).take q)) y -1)else bB a.ao a.aQ ((bS g x).take q):=by
   rw[bn t,uc];rfl
  have I:y<(bB a.ao a.aQ ((bS g x).take q)).length:=V
  have aV:=L _ (eR s.1 I)
  have aY:D (bB a.ao a.aQ ((bS g x).take q)) y<=999999:=by
   obtain⟨q',P,am⟩:=kj ((bS g x).take q) a.aQ y.toNat _ (nN s.1 I);have:=(C.MI q' (av P)).2;omega
  refine⟨V,V,y,by simpa using(kr ao).D t,d,F5.g3,s.1,V,_,F5.ao.pD s.1 s.2,λB=>?_,λB=>aU V _ ⟨ah,ao,by rw[F,ae (by simpa using B)];exact aH,by rw[F,ae (by simpa using B)];exact L⟩⟩
  simp at B
  rw[an B]at F
  refine⟨s.1,V,_,aA.pD s.1 I,s.1,V,?_⟩
  have e1:cR (D (bB a.ao a.aQ ((bS g x).take q)) y -1)=D (bB a.ao a.aQ ((bS g x).take q)) y -1:=aP V V
  rw[e1]
  rcases aH.D with aK|⟨Z,ap,tail,z1,z2,z3,z4,z5⟩
  ·rw[aK]at az;simp at az;omega
  ·have a5:E.off=0:=by rw[z1];rfl
   have ab:E.E=Z:=by rw[z1];rfl
   have al:E.off+y.toNat*1=y.toNat:=V
   rw[al,ab]
   have ay:y.toNat<((bB a.ao a.aQ ((bS g x).take q)).map Ce.i).length:=bR
   refine⟨z3.dZ (by simp only[a8];omega),?_⟩
   intro m6
   have G:N M m6:=ah.ah V _ _
   have ar:∀j,j<X.size->j≠E.E->m6[j]? =X[j]? :=λj u H=>by rw[bt _ _ _ _ V];exact ao j u H
   have o6:ij M m6 aI 1 E ((bB a.ao a.aQ ((bS g x).take (q+1))).map Ce.i):=by
    rw[F];refine⟨by rw[dL,jo,<-dL (f:=Ce.i)];exact aH.len,Or.inr ⟨Z,ap,tail,z1,z2,?_,?_,z5⟩⟩
    ·have:=cx.ah (m:=m5) (o:=y.toNat) (r:=[.i (D (bB a.ao a.aQ ((bS g x).take q)) y -1)]) z3;have e6:iK ((bB a.ao a.aQ ((bS g x).take q)).map Ce.i++tail) y.toNat [.i (D (bB a.ao a.aQ ((bS g x).take q)) y -1)]=(gF (bB a.ao a.aQ ((bS g x).take q)) y (D (bB a.ao a.aQ ((bS g x).take q)) y -1)).map Ce.i++tail:=by
      simp only[iK,gF,th];rw[Kz _ _ ay]
     rw[e6]at this;exact this
    ·simp only[a8,dL,jo]at z4⊢;exact z4
   have a0:=jA a.ao ((bS g x).take (q+1)) a.aQ
   have aT:aq m6 E (bB a.ao a.aQ ((bS g x).take (q+1))):=aq.gQ o6 V
   have aa:D (bB a.ao a.aQ ((bS g x).take (q+1))) y=D (bB a.ao a.aQ ((bS g x).take q)) y -1:=by rw[F,SU s.1 I y s.1,an rfl]
   have aj:=aT.pD (i:=y) s.1 V
   rw[aa,al,ab]at aj
   refine⟨N.sM ah G R,s.1,V,_,aj,λh8=>cX (λA=>?_) (z.trans G),λh8=>aU V _ ⟨G,ar,o6,λad W=>?_⟩⟩
   ·simp at h8
    have ac:bB a.ao a.aQ (bS g x)=bB a.ao (bB a.ao a.aQ ((bS g x).take (q+1))) ((bS g x).drop (q+1)):=by rw[<-uc,cT]
    have ax:y<(bB a.ao a.aQ (bS g x)).length:=by rw[jA];omega
    have K:=nN (c:=bB a.ao a.aQ (bS g x)) s.1 ax
    have aZ:=A.nn _ (av K)
    rw[ac]at K
    obtain⟨q',P,am⟩:=kj _ _ _ _ K
    have aS:=CK P
    rw[aa]at aS
    rw[<-ac]at am
    omega
   ·rw[F]at W
    rcases oW W with W|W
    ·simp at h8;omega
    ·exact L ad W
 ·have bj:(bS g x).take q=bS g x:=cN V
  rw[bj]at aA L be
  have aS:=kl ao
  generalize bI:bB a.ao a.aQ (bS g x)=aQ at*
  have bf:=aS.len
  refine⟨λw=>N m5 w/\(lx x.op->D aQ x.dst<=0),?_,?_⟩
  ·refine(qD _ _ ⟨V,V⟩).aK ah R λj m6 u aj G=>⟨j,rfl,λI=>⟨hd.1,V,_,(aA.ext aj).pD hd.1 V,λB=>cX (λA=>?_) (z.trans G),λB=>⟨aj,λ_=>by simpa using B⟩⟩,λF=>⟨aj,λK=>absurd K (Go.Vc.fb u F)⟩⟩
   have:=A.dst (u.1 I);simp at B;omega
  ·rintro m6 ⟨aj,ab⟩
   have br:∀(ar:List Int)(jj:Nat)(y:Int),y∈fg g x jj ar->y∈ar:=by
    intro ar;induction ar with
    |nil=>intro jj y h;simp[fg]at h
    |cons F ar B=>
     intro jj y h;simp only[fg]at h;split at h
     ·rcases List.mem_cons.1 h with rfl|h
      ·exact aX
      ·exact ai _ (B _ _ h)
     ·exact ai _ (B _ _ h)
   generalize ay:(if x.op=9\/x.op=24 then fg g x 0 x.args else[])=LL at*
   have a_:∀y∈LL,0<=y/\y<a.ao.length:=λy t=>by
    rw[<-ay]at t;split at t
    ·exact aN y (br _ _ _ t)
    ·simp at t
   refine fB (n:=LL.length) (bf▸aS.gV) (λq w=>N m5 w/\∀y∈LL.take q,1000<=D a.ao y->fQ Q.heap (D a.ao y)) ⟨aj,aJ⟩ ?_
   rintro k2 m7 I2 μ2 bE ⟨al,ap⟩ aT
   have aa:=ah.trans al
   have B:=z.trans aa
   have I:=S.ext B
   refine dit (λh8=>?_) λh8=>?_
   ·obtain⟨y,t⟩:=ag (l:=LL) (k:=k2) V
    have s:=a_ y (av t)
    refine⟨V,V,y,by simpa using(aS.ext al).D t,d,I.g3,s.1,V,_,I.ao.pD s.1 s.2,λG=>?_,λG=>aT V _ ⟨al,cF t ap λv=>by simp at G;omega⟩⟩
    simp at G
    refine(Jz (B.af T.qy) (fN.ext B T.heap) (C.F.pd s.1 s.2 C.KI).2).aK aa R λj m8 u am K=>⟨j,rfl,λF=>cX (λA=>?_) (z.trans K),λF=>aT V _ ⟨al.trans am,cF t ap λ_=>yb u F⟩⟩
    have P:=av t
    rw[<-ay]at P
    split at P
    ·rename_i e9;exact nb u F (A.cG e9 y P G)
    ·simp at P
   ·rw[cN V]at ap
    have ac:(x.op=9\/x.op=24)->I5 g Q.heap a x:=λe9=>by rw[an e9]at ay;rw[<-ay]at ap;exact ap
    have bo:=aA.ext al
    have hV:=T.ext B
    have aV:1<=x.args.length->0<=D x.args 0/\D x.args 0<a.ao.length:=λZ=>aN _ (eR V V)
    have ga:∀{w},N b w->1<=x.args.length->af w aw.E (aw.off+Int.toNat (0:Int)*1)=some (vi (D x.args 0)):=λhx Z=>(ha.ext hx).pD V V
    clear aU aT ao kr kl bg a3 a2
    refine⟨λp=>?_,λe1=>?_⟩
    ·simp only[bT,aE]at p
     refine(jK (ha.ext B) 93 #[] #[vp b.size 0] bh (λy=>1000<=D a.ao y) (λy t w ax=>?_)).aK aa (λj u=>R j (by simp at u;simp[u])) λj m8 u am K=>⟨j,rfl,fF ?_ (z.trans K)⟩
     ·simpa using KP (ax.af (aa.af kP)) (I.ext ax) (aN y t)
     ·have aK:(!j)=true<->¬(j=true):=aJ
      rw[aK,u]
      constructor
      ·intro aY
       have v:∀y∈x.args,D a.ao y<1000:=λy t=>by
        rcases dt (1000<=D a.ao y)with Z|Z
        ·exact absurd ⟨y,t,Z⟩ aY
        ·omega
       have P:x.op≠6/\x.op≠24/\x.op≠23/\x.op≠11/\x.op≠14/\x.op≠15/\x.op≠16/\x.op≠17/\x.op≠19/\x.op≠21:=by rcases p with p|p|p|p|p|p<;>rw[p]<;>decide
       exact⟨L,ab,λ_=>v,λs=>absurd s P.1,ac,λs=>s.elim (λh=>absurd h P.2.1) (λh=>absurd h P.2.2.1),λs=>absurd s P.2.2.1,λs=>absurd s P.2.2.2.1,λs=>absurd s P.2.2.2.2.1,λs=>absurd s P.2.2.2.2.2.1,λs=>s.elim (λh=>absurd h P.2.2.2.2.2.2.1) (λh=>absurd h P.2.2.2.2.2.2.2.1),λs=>absurd s P.2.2.2.2.2.2.2.2.1,λs=>absurd s P.2.2.2.2.2.2.2.2.2⟩
      ·rintro A ⟨y,t,Z⟩
       have:=A.nu V y t;omega
    simp only[bq,ak]at e1
    refine⟨λp=>?_,λe6=>?_⟩
    ·simp only[aE]at p
     have bw:=C.kv.2.2.2.2.1 p
     have gW:Ea Q.heap a x->jr g Q a x aQ:=λv=>by
      refine⟨L,ab,?_,?_,ac,?_,?_,?_,?_,?_,?_,?_,?_⟩<;>intro s<;>first|(exfalso;omega)|exact v
     refine⟨λG=>?_,λG=>jM (gW λH=>absurd (by simpa using G) H) B⟩
     simp at G
     have aZ:cR (x.bH -1)=x.bH -1:=aP V V
     rw[aZ]
     have P:0<=x.bH -1/\x.bH -1<a.br.length:=V
     refine⟨h,I.g5,V,V,_,I.br.pD P.1 P.2,λF=>?_,λF=>jM (gW λ_ H=>absurd (by simpa using F) H) B⟩
     simp at F
     obtain⟨W,dd,aK,_⟩:=C.JC _ (eR P.1 P.2) F
     have bC:=aD aK
     have a6:ix (D a.br (x.bH -1))=(D a.br (x.bH -1) -1000).toNat:=rfl
     have a0:cR (D a.br (x.bH -1) -1000)=D a.br (x.bH -1) -1000:=aP V V
     have bm:=T.heap.len
     obtain⟨f9,a5,k0,k1,a7⟩:=(fN.ext B T.heap).D aK
     have bl:=a5.len
     have aY:aG Q.heap (D a.br (x.bH -1))=dd:=by simp[aG,aK]
     refine⟨v,hV.qy,h,I.g5,V,V,_,I.br.pD P.1 P.2,?_⟩
     rw[a0,<-a6]
     refine⟨V,V,f9,a7,fF ?_ B⟩
     simp only[aE]
     refine⟨λax=>gW λ_ _=>by rw[aY];omega,λA=>?_⟩
     have:=A.gL p G F
     rw[aY]at this;omega
    simp only[ak]at e6
    refine⟨λp=>?_,λa6=>?_⟩
    ·simp only[bT,aE]at p
     refine(xh bo).aK aa R λj m8 u am K=>⟨j,rfl,λG=>cX (λA=>nb u G (A.zero p).1) (z.trans K),λG=>?_⟩
     have bl:=yb u G
     have F8:=S.ext (z.trans K)
     refine⟨h,F8.g5,(xh F8.br).aK K R λb2 m9 a0 bw aZ=>⟨b2,rfl,λF=>cX (λA=>nb a0 F (A.zero p).2) (z.trans aZ),λF=>?_⟩⟩
     have bm:=yb a0 F
     have P:=z.trans aZ
     have F9:=S.ext P
     have gW:(x.op=23->1<Q.aA.length\/D a.ao (D x.args 0)<1000)->jr g Q a x aQ:=λv=>by
      refine⟨L,ab,?_,?_,ac,?_,?_,?_,?_,?_,?_,?_,?_⟩<;>intro s<;>first|exact v s|(exfalso;omega)|exact⟨bl,bm⟩
     have bC:=T.aA.len
     refine⟨λax=>jM (gW λs=>by simp at ax;omega) P,λax=>⟨fr,P.af T.Mu,λaK=>jM (gW λ_=>Or.inl (by simp at aK;omega)) P,λaK=>?_⟩⟩
     simp at ax aK
     have a5:x.op=23:=V
     have Z:=C.kv.2.1 V
     have U:=aV V
     refine⟨d,F9.g3,V,V,_,ga P V,U.1,V,_,F9.ao.pD U.1 U.2,fF ?_ P⟩
     simp
     refine⟨λa7=>gW λ_=>Or.inr a7,λA=>?_⟩
     rcases A.ret a5 with aY|aY
     ·omega
     ·exact aY
    simp only[bq,ak]at a6
    refine⟨λp=>?_,λA=>?_⟩
    ·simp only[aE]at p
     refine(FU hV (B.af bc) C I (ha.ext B) p a1).aK aa R λj m8 u am K=>⟨j,rfl,fF (u.trans ?_) (z.trans K)⟩
     refine⟨λv=>?_,λh=>h.apply p⟩
     refine⟨L,ab,?_,?_,ac,?_,?_,?_,?_,?_,?_,?_,?_⟩<;>intro s<;>first|(exfalso;omega)|exact v
    simp only[ak]at A
    refine⟨λp=>?_,λG=>?_⟩
    ·simp only[aE]at p
     have Z:=C.kv.2.1 V
     have U:=aV V
     refine⟨d,I.g3,V,V,_,ga B V,U.1,V,_,I.ao.pD U.1 U.2,fF ?_ B⟩
     simp only[Fx,au]
     refine⟨λv=>?_,λh=>h.drop p⟩
     refine⟨L,ab,?_,?_,ac,?_,?_,?_,?_,?_,?_,?_,?_⟩<;>intro s<;>first|(exfalso;omega)|exact v
    simp only[ak]at G
    refine⟨λp=>?_,λF=>?_⟩
    ·simp only[bT,aE]at p
     refine(CU hV C I (ha.ext B) V a1).aK aa R λj m8 u am K=>⟨j,rfl,fF (u.trans ?_) (z.trans K)⟩
     refine⟨λv=>?_,λh=>⟨h.Th,h.load,h.Ax,h.Ct⟩⟩
     refine⟨L,ab,?_,?_,ac,?_,?_,?_,v.1,?_,v.2.2.2,v.2.1,v.2.2.1⟩<;>intro s<;>exfalso<;>omega
    ·simp only[bq,ak]at F
     refine jM ?_ B
     refine⟨L,ab,?_,?_,ac,?_,?_,?_,?_,?_,?_,?_,?_⟩<;>intro s<;>exfalso<;>omega
end
section
variable{d c:Nat}{b:Nat->Nat}{a:J}{h:List bQ}
def mD(w:Int)(a:J):uR cp 104 [vi w] a (vi (fV w)):=by
 apply vn;unfold fV;exact⟨λh=>by simp at h;rw[an h];exact⟨rfl,N.az _⟩,λh=>by simp at h;rw[ae V];exact⟨rfl,N.az _⟩⟩
def tO{e:O}(v:dH d b a e h)(D:∀f,a.size<=f->b f=0)(kb:cx a c dT [.s e])(F:b c=5)(K:h.length<=2000000000):
 aL cp 151 [vp c 0] a λ_ j=>dH d b j (e.cut 0 (iA h h.length) 3) (mM h)/\cx j c dT [.s (e.cut 0 (iA h h.length) 3)]/\HC b a b j:=by
 apply yY (c,0)
 have J:=v.len
 have w:=v.cells V
 have H:=w.cap
 have q:af a c 0=some (O.v e):=kb.bV 0
 refine⟨e,q,λs j=>j=a/\∃n:Nat,s=n/\n<=h.length/\iA h n=iA h h.length,λs _=>s.toNat,⟨rfl,h.length,V,ad _,rfl⟩,?_⟩
 rintro s g ⟨rfl,n,rfl,E,x⟩
 have A:Int.toNat (0:Int)=0:=rfl
 have en:Int.toNat (n:Int)=n:=V
 have gW:iA h n=n->dH d b (ah g c 0 [.s (e.cut 0 n 3)]) (e.cut 0 (iA h h.length) 3) (mM h)/\cx (ah g c 0 [.s (e.cut 0 n 3)]) c dT [.s (e.cut 0 (iA h h.length) 3)]/\HC b g b (ah g c 0 [.s (e.cut 0 n 3)]):=λz=>by
  have i:eC (λf=>f=5) b g b (ah g c 0 [.s (e.cut 0 n 3)]):=eC.ah D F _ _;have p:iA h h.length=n:=by rw[<-x,z]
  rw[p];refine⟨?_,cx.ah (m:=g) (o:=0) (r:=[.s (e.cut 0 n 3)]) kb,i.mono λf C=>Or.inr (Or.inl C)⟩;have:=(v.gC i bh bh).cut E;unfold mM;rw[p];exact this
 refine⟨λt=>?_,λt=>?_⟩
 ·simp only[mP,au]at t
  obtain⟨f,rfl⟩:∃f,n=f+1:=⟨n -1,V⟩
  have p:cR (((f+1:Nat):Int) -1)=(f:Int):=by rw[aP V V];omega
  obtain⟨y,i⟩:=ag (l:=h) (k:=f) V
  obtain⟨G,I,B,_⟩:=w.D i
  refine⟨e,q,?_⟩
  rw[p]
  refine⟨V,V,y.aS,by simpa using B,λu=>⟨⟨rfl,f,rfl,V,?_⟩,by show(f:Int).toNat<((f+1:Nat):Int).toNat;omega⟩,λu=>⟨e,q,V,V,V,kb.dZ aJ,?_⟩⟩
  ·rw[<-x,OL i (by simpa using u)]
  ·rw[A,en];exact gW (Kv i (by simpa using u))
 ·simp only[mP,bU]at t
  have u:n=0:=V
  subst u
  exact⟨e,q,V,V,V,kb.dZ aJ,gW rfl⟩
def Es{g:O}(hh:dH d b a g h)(hn:∀i,a.size<=i->b i=0)(kb:cx a c dT [.s g])(hr:b c=5){y:Int}{W:Nat->Int}(hI:ft h (λi=>W i+fR [y] i))(he:∀i,0<=W i)(a5:h.length<=2000000000):
 aL cp 102 [vp c 0,vi y] a λ_ r=>∃v ar,dH d v r ar (mM (fY h [y]))/\cx r c dT [.s ar]/\HC b a v r:=by
 apply yX (c,0)
 intro s
 have X:N a s:=(N.az a).aN _
 have s1:s.size=a.size+1:=by simp[s]
 have o1:ij a s aI 1 (.mk a.size 0 1 1) ([y].map Ce.i):=ij.new (N.az a) aI 1 _ 1 aJ
 have c1:HC b a (rh b a.size 6) s:=eC.rh X hn (ad _) V 6
 have a1:iD (rh b a.size 6) s aI 1 6 (.mk a.size 0 1 1) ([y].map Ce.i):=iD.gQ o1 λ_=>gX _ _ _
 have aN:dH d (rh b a.size 6) s g h:=hh.gC (eC.rh (p:=λ_=>False) X hn (ad _) V 6) id id
 have aT:=kb.ext X
 have aO:rh b a.size 6 c=5:=by rw[eF (by have:=kb.lt;omega)];exact hr
 clear_value s
 have aX:=Mw λaC e=>(hI.cell aC e).fl
 have aY:=hh.len
 refine Nl (γ:=List bQ×List Int) (λj H r=>∃v,dH d v r g j.1/\iD v r aI 1 6 H (j.2.reverse.map Ce.i)/\HC b a v r/\ft j.1 (λi=>W i+fR j.2 i)/\fY j.1 j.2=fY h [y]/\j.1.length=h.length/\j.2.length+A3 j.1<=1+A3 h/\cx r c dT [.s g]/\v c=5) (λj=>yM j.1+j.2.length) (h,[y])
  ⟨_,aN,a1,c1,hI,rfl,rfl,aJ,aT,aO⟩ ?_
 rintro⟨e,st⟩ H m2 aU μ ⟨n,C,a2,j,u,z,K,aj,P,A⟩ ae
 simp only[]at C a2 u z K aj
 have ay:H.len=st.length:=by have:=a2.len;simp at this;omega
 refine⟨λY=>?_,λY=>?_⟩
 ·simp only[mP,au]at Y
  cases st with
  |nil=>simp at ay;omega
  |cons x t=>
   simp only[OW]at a2
   obtain⟨p1,p2,p3⟩:=a2.Vx
   simp only[aZ,mu]at ay p1 p2 p3 aj
   have e1:cR ((H.len:Int) -1)=(t.length:Int):=by rw[aP V V];omega
   have aV:=a2.le
   have e2:Int.toNat (0:Int)=0:=rfl
   have e3:Int.toNat (t.length:Int)=t.length:=V
   have az:1000<=x->fQ e x:=λM=>u.NP he M
   have aR:x<=9223372036854775807:=by
    rcases dt (1000<=x)with m|m
    ·have:=aD (bY (az m)).1;unfold ix at this;omega
    ·omega
   refine⟨g,P.bV 0,?_⟩
   rw[e1,e2,e3]
   refine⟨V,V,x,p2,(kM (C.cells V) aR).mono ?_⟩
   rintro _ Q ⟨aB,i,rfl,ah,aK,q⟩
   refine⟨aB,i,rfl,V,V,V,λaM=>?_,λai=>?_⟩
   ·have M:=nb ah aM
    have I:HC n m2 n Q:=eC.fP _ q j.new
    refine ae (e,t) _ _ ⟨n,C.gC (eC.fP (λ_=>False) q j.new) id id,p3.gC (eC.fP (λ_=>False) q j.new) id,j.trans I,u.P2 ?_,?_,K,by simp only[];omega,P.ext q,A⟩ aJ
    ·rcases dt (1000<=x)with m|m
     ·exact absurd (az m) M
     ·omega
    ·rw[<-nQ (w:=x) M];exact z
   ·have F:=yb ah ai
    have aH:=aK (by simpa using ai)
    subst aH
    obtain⟨k,aw⟩:=bY F
    have ao:=aD k
    have a0:=(u.cell _ (av k)).hi
    have aF:Int.toNat ((ix x:Nat):Int)=ix x:=V
    have I:HC n m2 n Q:=eC.fP _ q j.new
    have D:dH d n Q g e:=C.gC (eC.fP (λ_=>False) q j.new) id id
    have a3:=p3.gC (eC.fP (λ_=>False) q j.new) id
    have G:=P.ext q
    obtain⟨f0,g0,_,_,_,_⟩:=D.bV k
    refine⟨g,G.bV 0,?_⟩
    rw[aF]
    refine⟨V,V,_,g0,V,V,D.wr (o:=0) ao bh,?_⟩
    have e5:cR ((aG e x).aS -1)=(aG e x).aS -1:=aP V V
    rw[e5]
    intro m4
    obtain⟨ab,T⟩:=D.sN I.new k ((aG e x).aS -1)
    have a4:=a3.gC T bh
    have B:cx m4 c dT [.s g]:=G.congr (T.dO _ G.lt (by rw[A];decide))
    have S:HC b a n m4:=(j.trans I).trans (T.mono λaA E=>Or.inl E)
    have Z:=iQ (d:=ic) k
    simp only[an aw,ic]at Z
    simp at Z
    have aQ:(e.set (ix x) {aG e x with aS:=(aG e x).aS -1})[ix x]? =some {aG e x with aS:=(aG e x).aS -1}:=dY k
    obtain⟨f1,k0,_,k2,kf,kr⟩:=ab.bV aQ
    refine⟨g,B.bV 0,V,V,_,k0,λm=>?_,λm=>?_⟩
    ·simp only[aE]at m
     have aq:(aG e x).aS=1:=V
     have aW:=(u.cell _ (av k)).fl
     have aa:=kf.len
     simp only[]at aa kf kr
     have J:=yT ic k
     simp only[ic,eG]at J
     refine⟨g,B.bV 0,V,V,f1,k2,iD.append (c:=[.i 0]) (d:=(aG e x).aR.map Ce.i) a4 S.new (by simp[aa]) kf.Gk ?_ λaf a6 m5 q1 R=>?_⟩
     ·have:(H.cut 0 t.length 1).len=t.length:=by have:=a4.len;simp at this;omega
      rw[this,aa];omega
     have al:=ab.gC R bh bh
     have ag:HC b a af m5:=S.trans (R.mono λaA E=>Or.inr (Or.inr E))
     have ac:cx m5 c dT [.s g]:=B.congr (R.dO _ B.lt (by rw[A];decide))
     have ax:af c=5:=by rw[R.jU _ B.lt];exact A
     have ap:ix x<(e.set (ix x) {aG e x with aS:=(aG e x).aS -1}).length:=by simpa using ao
     refine⟨g,ac.bV 0,V,V,al.wr (o:=0) ap bh,?_⟩
     intro m7
     obtain⟨am,U⟩:=al.setCell ag.new ap 0 0 (f:=.nil) (b:=[]) ⟨rfl,aJ,aJ,aJ⟩ (λL=>absurd rfl L)
     rw[VI]at am
     refine ae (e.set (ix x) ic,(aG e x).aR.reverse++t) _ _ ⟨af,am,?_,ag.trans (U.mono λaA E=>Or.inl E),u.P3 he F aq,?_,by simpa using K,?_,ac.congr (U.dO _ ac.lt (by rw[ax];decide)),ax⟩ ?_
     ·have:=q1.gC U bh
      simpa using this
     ·rw[<-pL F aq];exact z
     ·simp only[a8,mu]
      have E:A3 (e.set (ix x) ic)+(aG e x).aR.length=A3 e:=by simpa[ic]using J
      omega
     ·simp only[a8,mu,aZ]
      have E:yM (e.set (ix x) ic)+((aG e x).aS.toNat+(aG e x).aR.length)=yM e:=by simpa[ic]using Z
      omega
    ·simp only[ak]at m
     have L:(aG e x).aS≠1:=V
     have E:=iQ (d:={aG e x with aS:=(aG e x).aS -1}) k
     simp only[an aw]at E
     rw[an V]at E
     have J:=yT {aG e x with aS:=(aG e x).aS -1} k
     refine ae (eQ e x,t) _ _ ⟨n,ab,a4,S,u.NQ he F L,?_,by simpa[eQ]using K,?_,B,A⟩ ?_
     ·rw[<-nP F L];exact z
     ·simp only[eQ];simp only[]at J;omega
     ·simp only[eQ,aZ];omega
 ·simp only[mP,bU]at Y
  have k:st=[]:=List.length_eq_zero_iff.1 V
  subst k
  rw[pK]at z
  subst z
  refine(tO C j.new P A V).mono ?_
  rintro _ Q ⟨D,G,i⟩
  exact⟨n,_,D,G,j.trans i⟩
def NY{j:O}(g:fN a j h):aL cp 203 [O.v j,.func (.func 204) #[] #[]] a λD m=>∃r:Int,D=vi r/\N a m/\(if dg h=h.length then r= -1 else r=dg h):=by
 apply lD j (.func 204,#[],#[]);have A:=g.len;refine fB (n:=h.length) (A▸g.gV) (λd m=>N a m/\∀b∈h.take d,b.aS≠0) ⟨N.az _,aJ⟩ ?_;rintro d q I μ z ⟨f,i⟩ C
 refine dit (λu=>?_) λu=>?_
 ·obtain⟨b,e⟩:=ag (l:=h) (k:=d) V;obtain⟨o,E,t,g1,g2⟩:=(fN.ext f g).D e;refine⟨V,V,b.aS,by simpa using t,_,by simpa using g1,o,by simpa using g2,204,rfl,bh,?_⟩;have x:dW cp 204 [.agg #[vi b.aS,vi b.kd,O.v o]] q (b.aS=0):=by
   apply vf;simp -zeta only[aC,aB];intro B;exact fF aJ ((N.az q).aN _)
  refine aL.mono x ?_;rintro _ B ⟨s,rfl,c,p⟩;refine⟨s,rfl,λw=>⟨_,rfl,f.trans p,?_⟩,λv=>C V _ ⟨f.trans p,cF e i (fb c v)⟩⟩;have y:=FO h d b i e (c.1 w);have:=aD e;rw[ae V,y]
 ·refine⟨_,rfl,f,?_⟩;have:=yS h d z i;have:=pN h;rw[an V]
def CS{f:O}(n:dH d b a f h)(C:∀t,a.size<=t->b t=0)(kb:cx a c dT [.s f])(P:b c=5)(H:Int){Y:O}{F:List Int}(hf:aq a Y F)(ap:h.length<=1000000000)(hl:F.length<=1000000000)(hN:d<=a.size):
 aL cp 150 [vp c 0,vi H,O.v Y] a λak S=>∃j aa,ak=vi (1000+dg h)/\dH d j S aa (gL h (dg h) ⟨1,H,F⟩)/\cx S c dT [.s aa]/\HC b a j S:=by
 apply xK (c,0)
 simp -zeta only[aC,aB]
 refine(kG hf hl).then hl λW z o1 i1 Z=>⟨W,rfl,?_⟩
 intro m2 G
 have A:N z G:=((N.az z).aN _).ah (ad _) _ _
 have s3:G.size=z.size+1:=by simp[G,m2,ay]
 have Q:=Z.trans A
 clear_value G
 have ab:F≠[]->b W.E=0:=λah=>by
  rcases o1.E with k|k
  ·subst k;have:=i1.len;simp at this;exact absurd (List.length_eq_zero_iff.1 this.symm) ah
  ·exact C _ k
 have L:b z.size=0:=C _ Z.size
 have am:=n.len
 have al:=pN h
 refine⟨f,Q.af (kb.bV 0),(NY (fN.ext Q (n.cells V))).mono ?_⟩
 rintro _ i ⟨aj,rfl,s,D⟩
 have y:=Q.trans s
 have u:HC b a b i:=eC.fP _ y C
 have M:dH d b i f h:=n.gC (eC.fP (λ_=>False) y C) id id
 have p:=kb.ext y
 have i4:=i1.ext (A.trans s)
 have ao:=s.size
 refine⟨s.dv bR,aj,rfl,λk=>?_,λk=>?_⟩
 ·simp at k
  have B:dg h=h.length:=by
   rcases dt (dg h=h.length)with v|v
   ·exact v
   ·rw[ae v]at D;omega
  refine⟨f,p.bV 0,f,p.bV 0,?_⟩
  intro q
  have l:N i q:=(N.az i).aN _
  have s5:q.size=i.size+1:=by simp[q]
  have jk:fZ q i.size 0 [.i 1,.i H,.s W]:=(cx.push i _ _).iv
  have X:HC b a b q:=u.trans (eC.fP _ l u.new)
  clear_value q
  refine⟨l.bZ (p.bV 0),dH.push (M.gC (eC.fP (λ_=>False) l u.new) id id) X.new (x:=.mk i.size 0 1 1) rfl jk (i4.ext l) (Qx.of n (λK=>(y.trans l).same _ (n.E K).2) (λ_=>o1.ext ((A.trans s).trans l)) ab hN) V λj af T U e=>?_⟩
  have R:=p.ext l
  have ac:cx T c dT [.s f]:=R.congr (e.dO _ R.lt (by rw[P];decide))
  have ai:j c=5:=by rw[e.jU _ R.lt];exact P
  have ag:j z.size=0:=by rw[e.jU _ V];exact L
  refine⟨λt g=>?_,ac.dZ aJ,?_⟩
  ·simp at g;subst g
   exact e.dO _ V (by rw[L];decide)
  intro m7
  have I:eC (λE=>E=5) j T j m7:=eC.ah e.new ai _ _
  have J:cR (1000+(f.len:Int))=1000+(dg h:Int):=by rw[aP V V];omega
  rw[J]
  refine⟨λt g=>?_,j,af,rfl,?_,cx.ah (m:=T) (o:=0) (r:=[.s af]) ac,(X.trans (e.mono λE w=>Or.inl w)).trans (I.mono λE w=>Or.inr (Or.inl w))⟩
  ·simp at g;subst g
   exact I.dO _ (by have:=e.size;omega) (by rw[ag];decide)
  ·rw[gL,an B];exact U.gC I bh bh
 ·simp at k
  have B:dg h≠h.length:=λv=>by rw[an v]at D;omega
  rw[ae B]at D
  subst D
  have l:dg h<h.length:=V
  have I:Int.toNat ((dg h:Nat):Int)=dg h:=V
  have J:cR (1000+(dg h:Int))=1000+(dg h:Int):=aP V V
  refine⟨f,p.bV 0,?_⟩
  rw[I,J]
  refine⟨V,V,M.wr (o:=0) l bh,?_⟩
  intro q
  obtain⟨U,e⟩:=M.setCell u.new l 1 H i4 (Qx.of n (λK=>y.same _ (n.E K).2) (λ_=>o1.ext (A.trans s)) ab hN)
  refine⟨λt g=>?_,b,f,rfl,?_,p.congr (e.dO _ p.lt (by rw[P];decide)),u.trans (e.mono λE w=>Or.inl w)⟩
  ·simp at g;subst g
   exact e.dO _ V (by rw[L];decide)
  ·rw[gL,ae B];exact U
end
section
variable{a:List Int}
def MA{i a b:Int}(l:jm a)(m:jm b)(o:J):uR cp 149 [vi i,vi a,vi b] o (vi (MN i a b)):=by
 unfold jm at l m;have s: -2000000<=a*b/\a*b<=2000000:=by
  have c:(a*b).natAbs<=999*999:=by rw[Int.natAbs_mul];exact KB V V
  omega
 have k:∀n:Int,(if(999:Int)<(if(-999:Int)>n then(-999:Int)else n)then(999:Int)else(if(-999:Int)>n then(-999:Int)else n))=Ef n:=λn=>by
  unfold Ef;repeat' split;all_goals omega
 have p:cR (a+b)=a+b:=aP V V;have q:cR (a -b)=a -b:=aP V V;have r:cR (a*b)=a*b:=aP V V;apply HR;rw[p,q,r,k,k,k];unfold MN;refine⟨λh=>by simp at h;omega,λ_=>⟨λh=>by simp at h;omega,λ_=>⟨λh=>by simp at h;omega,λ_=>⟨λh=>by simp at h;omega,λ_=>⟨λc=>?_,λc=>⟨λd=>?_,λd=>⟨λe=>?_,λe=>⟨λf=>⟨λj=>?_,λj=>?_⟩,λf=>?_⟩⟩⟩⟩⟩⟩⟩⟩
 ·simp at c;rw[an c];exact⟨rfl,N.az _⟩
 ·simp at c d;rw[ae c,an d];exact⟨rfl,N.az _⟩
 ·simp at c d e;rw[ae c,ae d,an e];exact⟨rfl,N.az _⟩
 ·simp at c d e f j;have g:i=4/\a<b:=⟨f,j⟩;rw[ae c,ae d,ae e,an g];exact⟨rfl,N.az _⟩
 ·simp at c d e f j;have g:¬(i=4/\a<b):=V;rw[ae c,ae d,ae e,ae g];exact⟨rfl,N.az _⟩
 ·simp at c d e f;have g:¬(i=4/\a<b):=V;rw[ae c,ae d,ae e,ae g];exact⟨rfl,N.az _⟩
def um{c:J}{fb h:Nat}{f:aW}{q:O}(z:af c fb (h+3)=some (O.v q))(t:aq c q f.ao){s:O}(u:aq c s a)(C:∀y∈a,0<=y/\y<f.ao.length)(P:a.length<=100000000):
 nL 101 [vp fb h,O.v s] c (cy f a):=by
 apply wj (fb,h)
 have M:=u.len
 have L:=t.len
 have v:Int.toNat (s.len:Int)=a.length:=V
 rw[v]
 refine⟨V,cC _,V,V,?_⟩
 intro g
 have B:N c g:=(N.az c).aN _
 have F:cx g c.size aI ((cZ a.length).map Ce.i):=by rw[<-xe];exact cx.push c _ _
 have Q:g.size=c.size+1:=by simp[g]
 clear_value g
 simp only[O.jH,O.ze,O.jt,cO]
 refine fB (n:=a.length) V (λb d=>N c d/\cx d c.size aI ((cy f (a.take b)++cZ (a.length -b)).map Ce.i)) ⟨B,by simpa[cy]using F⟩ ?_
 rintro b G I μ K ⟨d,e⟩ H
 refine dit (λA=>?_) λA=>?_
 ·obtain⟨y,j⟩:=ag (l:=a) (k:=b) V
  have p:=C y (av j)
  have x:Int.toNat (b:Int)*1=b:=V
  refine⟨V,V,y,by simpa using d.af (u.D j),q,d.af z,p.1,V,_,d.af (t.pD p.1 p.2),V,V,?_⟩
  rw[x]
  have i:(cy f (a.take b)).length=b:=by simp[cy];omega
  refine⟨e.dZ (by simp[i,jE];omega),?_⟩
  refine H V _ ⟨d.ah (ad _) _ _,?_⟩
  have:=cx.ah (m:=G) (o:=b) (r:=[.i (D f.ao y)]) e
  have w:iK ((cy f (a.take b)++cZ (a.length -b)).map Ce.i) b [.i (D f.ao y)]=(cy f (a.take (b+1))++cZ (a.length -(b+1))).map Ce.i:=by
   have E:cZ (a.length -b)=0::cZ (a.length -(b+1)):=by
    have:a.length -b=(a.length -(b+1))+1:=V;rw[this];rfl
   rw[E,fx,kQ _ _ _ _ (by simp[i])];simp only[dL,i,OY,cE,iK,fj];rw[bn j];simp[cy]
  rw[w]at this;exact this
 ·have i:b=a.length:=V
  subst i
  rw[fE,OY]at e
  simp only[cZ,Lc,dD]at e
  refine⟨_,rfl,⟨by simp[cy],Or.inr ⟨c.size,a.length,[],rfl,ad _,by rw[dD];exact e,by simp[cy],ad _⟩⟩,d⟩
abbrev IB(d p:O)(c:Int)(s:St)(bd b a:O):List Ce:=[.s d,.s p,.i c,.i s.bW,.i s.value,.i s.bE,.i s.aY,.s bd,.s b,.s a]
def AX(g:J)(i:Nat->Nat)(m:J)(h:Nat)(f p:O)(e:Int)(s:St)(c:J):Prop:=
 ∃d bd b a,rl g d c h ba (IB f p e s bd b a) bd b a s.bd s.heap s.aA/\To i m d c
def AX.from{b:J}{g h:Nat->Nat}{m e a:J}{f:Nat}{d p:O}{c:Int}{s:St}(j:AX b h e f d p c s a)(o:To g m h e):AX b g m f d p c s a:=
 let⟨q,bd,n,i,k,l⟩:=j
 ⟨q,bd,n,i,k,o.trans l⟩
section
variable{p:J}{d s:Nat->Nat}{m g:J}{q e:Nat}{i:List Ce}{bd k b:O}{n:List Int}{l:List bQ}{c:List aW}{f:aW}{r o h:O}{j:List (List Ce)}
def ST.Yl(S:ST p d m q e i bd k b n l c f r o h j)(a:eC (λ_=>False) d m s g):ST p s g q e i bd k b n l c f r o h j/\To d m s g:=by
 obtain⟨L,t⟩:=S.cH.fS (a.mono λ_=>False.elim) (S.cH.heap.gC a id id);exact⟨⟨L,S.fI.gC a λ_ _=>id⟩,t⟩
def ST.fp(S:ST p d m q e i bd k b n l c f r o h j)(a:f.ao.length<=1000000/\f.aQ.length<=1000000/\f.br.length<=1000000):FP m b.E (b.off+c.length*6) f r o h:=by
 obtain⟨_,_,_,g,s,t⟩:=S.fI.iv;exact⟨g,s,t,S.zk a.1,S.Hz a.2.1,S.Pr a.2.2⟩
def qC(S:ST p d m q e i bd k b n l c f r o h j){s:Int}(a:0<=s)(u:s<f.ao.length)(v:s<f.aQ.length)(w aQ:Int):
 aL cp 98 [vp b.E (b.off+c.length*6),vi s,vi w,vi aQ] m λ_ g=>ST p d g q e i bd k b n l c (f.put s w aQ) r o h j/\To d m d g:=by
 apply yU (b.E,b.off+c.length*6)
 obtain⟨_,_,_,y,z,A⟩:=S.fI.iv
 have C:r.len=f.ao.length:=by have:=S.fI.ao.len;simp at this;omega
 have B:o.len=f.aQ.length:=by have:=S.fI.aQ.len;simp at this;omega
 obtain⟨t,t1⟩:=S.C2 a u w
 obtain⟨x,t2⟩:=t.ph a (by simpa using v) aQ
 exact⟨r,y,o,z,a,V,S.fI.ao.OR a u,a,V,t.fI.aQ.OR a v,x,t1.trans t2⟩
end
section
variable{n:J}{j:Nat->Nat}{b:J}{l:Nat}{d p bd e g:O}{c:Int}{s:St}{k:List aW}{f:aW}{u t h:O}{q:List (List Ce)}
def ST.My{c:Nat}{a:List Ce}{i:List Int}{d:List bQ}(S:ST n j b l c a bd e g i d k f u t h q):
 ST n (rh j b.size 5) (ah (b.push (.cells (bC [.s O.nil]) dT)) b.size 0 [.s e]) l c a bd e g i d k f u t h q/\To j b (rh j b.size 5) (ah (b.push (.cells (bC [.s O.nil]) dT)) b.size 0 [.s e])/\
  cx (ah (b.push (.cells (bC [.s O.nil]) dT)) b.size 0 [.s e]) b.size dT [.s e]:=by
 have v:N b (ah (b.push (.cells (bC [.s O.nil]) dT)) b.size 0 [.s e]):=((N.az b).aN _).ah (ad _) _ _
 have s:eC (λ_=>False) j b (rh j b.size 5) (ah (b.push (.cells (bC [.s O.nil]) dT)) b.size 0 [.s e]):=eC.rh v S.cH.new (ad _) (by rw[ay];simp) 5
 obtain⟨p,t1⟩:=S.Yl s
 exact⟨p,t1,cx.ah (m:=b.push (.cells (bC [.s O.nil]) dT)) (o:=0) (r:=[.s e]) (cx.push b _ _)⟩
def Co(S:ST n j b l ba (IB d p c s bd e g) bd e g s.bd s.heap k f u t h q)(r:Int){z:O}(E:aq b z a)(L:a.length<=1000000)(D:s.heap.length<=1000000000):
 aL cp 100 [vp l 0,vi r,O.v z] b λK x=>K=vi (1000+dg s.heap)/\∃y w,ST n y x l ba (IB d p c s bd w g) bd w g s.bd (gL s.heap (dg s.heap) ⟨1,r,a⟩) k f u t h q/\To j b y x:=by
 apply uh (l,0)
 simp -zeta only[aC,aB]
 refine⟨e,S.cH.box.bV 8,?_⟩
 intro M H
 obtain⟨m,t2,kb⟩:=S.My
 have F:N b H:=((N.az b).aN _).ah (ad _) _ _
 refine(CS m.cH.heap m.cH.new kb (gX _ _ _) r (E.ext F) D V m.cH.ct.size).mono ?_
 rintro _ P ⟨I,o,rfl,C,G,B⟩
 obtain⟨v,t3⟩:=m.fS B C
 refine⟨_,rfl,o,G.bV 0,v.cH.lP (i:=8) aJ,?_⟩
 intro Q
 obtain⟨A,J⟩:=v.iJ 8 [.s o]
 exact⟨rfl,I,o,A,(t2.trans t3).trans J⟩
def Er(S:ST n j b l ba (IB d p c s bd e g) bd e g s.bd s.heap k f u t h q){x:Instr}{X aw:O}(ha:aq n X x.args)(ai:∀y∈x.args,0<=y/\y<f.ao.length)(aE:x.args.length<=4)
 (aH:f.ao.length=f.aQ.length/\f.br.length=f.aQ.length/\f.aQ.length<=2000)(aG:0<=x.bH/\x.bH<=f.br.length)(al:s.heap.length<=1000000000)(ao:∀w∈f.br,w≠0->1000<=w/\ix w<s.heap.length):
 aL cp 99 [vp l 0,vp g.E (g.off+k.length*6),xv x X aw] b λaz m'=>∃(I:Nat->Nat)(F:O)(m:Nat)(a:aW),az=vi (1000+m)/\ST n I m' l ba (IB d p c s bd F g) bd F g s.bd (gL s.heap m ⟨1,x.bL,cy f x.args⟩) k a u t h q/\To j b I m'/\
  a.ao=f.ao/\a.aQ=f.aQ/\a.pc=f.pc/\(∀y,mZ s k {f with pc:=y} x x.bL={s with heap:=gL s.heap m ⟨1,x.bL,cy f x.args⟩,aA:=k++[aW.put {a with pc:=y+1} x.dst (1000+m) 1]}):=by
 apply qU (l,0) (g.E,g.off+k.length*6)
 simp -zeta only[aC,aB]
 intro H
 have au:N b H:=(N.az b).aN _
 have s1:H.size=b.size+1:=by simp[H]
 obtain⟨z,t1⟩:=S.ext au
 have U:yB j H [b.size]:=λaD hb=>by simp at hb;subst hb;exact⟨V,S.cH.new _ (ad _)⟩
 clear_value H
 have W:=z.fp ⟨V,V,V⟩
 have aF:h.len=f.br.length:=by have:=S.fI.br.len;simp at this;omega
 refine(um W.g3 W.ao (ha.ext z.cH.ct) ai V).mono ?_
 rintro _ Q ⟨C,rfl,T,aa⟩
 obtain⟨r,t2⟩:=z.ext aa
 have K:=U.to t2
 have aJ:(cy f x.args).length=x.args.length:=by simp[cy]
 have G:aq Q C (cy f x.args):=aq.gQ T V
 have ag:=t1.trans t2
 have none:¬(x.bH≠0/\D f.br (x.bH -1)≠0)->aL cp 100 [vp l 0,vi x.bL,O.v C] Q λax P=>dR [b.size] Q P/\∃af:Int,ax=vi af/\∃(I:Nat->Nat)(F:O)(m:Nat)(a:aW),vi af=vi (1000+m)/\ST n I P l ba (IB d p c s bd F g) bd F g s.bd (gL s.heap m ⟨1,x.bL,cy f x.args⟩) k a u t h q/\To j b I P/\
  a.ao=f.ao/\a.aQ=f.aQ/\a.pc=f.pc/\(∀y,mZ s k {f with pc:=y} x x.bL={s with heap:=gL s.heap m ⟨1,x.bL,cy f x.args⟩,aA:=k++[aW.put {a with pc:=y+1} x.dst (1000+m) 1]}):=λap=>by
  refine(Co r x.bL G V al).mono ?_
  rintro _ R ⟨rfl,ay,ar,v,t3⟩
  exact⟨t3.dB K,_,rfl,ay,ar,dg s.heap,f,rfl,v,ag.trans t3,rfl,rfl,rfl,λy=>by rw[mZ,ae ap];rfl⟩
 refine⟨t2.dB U,C,rfl,λE=>none λL=>by simp at E;exact L.1 E,λE=>?_⟩
 simp at E
 have e1:cR (x.bH -1)=x.bH -1:=aP V V
 have i:0<=x.bH -1/\x.bH -1<f.br.length:=V
 have J:=r.fp ⟨V,V,V⟩
 have Y:=J.br.pD i.1 i.2
 refine⟨h,J.g5,?_⟩
 rw[e1]
 refine⟨V,V,_,Y,λB=>none λL=>by simp at B;exact L.2 B,λB=>?_⟩
 simp at B
 obtain⟨ab,ac⟩:=ao _ (eR i.1 i.2) B
 have aI:=r.cH.heap.len
 refine⟨h,J.g5,V,V,_,Y,h,J.g5,V,V,r.fI.br.OR i.1 i.2,?_⟩
 intro R
 obtain⟨v,t3⟩:=r.AP i.1 i.2 0
 have B3:=K.to t3
 have am:ix (D f.br (x.bH -1))=(D f.br (x.bH -1) -1000).toNat:=rfl
 have e2:cR (D f.br (x.bH -1) -1000)=D f.br (x.bH -1) -1000:=aP V V
 refine⟨t3.dB K,e,v.cH.box.bV 8,?_⟩
 rw[e2,<-am]
 refine⟨V,V,v.cH.heap.wr (o:=0) ac bh,?_⟩
 intro m4
 have M:cy f x.args≠[]->j C.E=0:=λw=>by
  rcases T.E with A|A
  ·subst A;have:=G.len;simp at this;exact absurd (List.length_eq_zero_iff.1 this.symm) w
  ·exact S.cH.new _ V
 have av:aq R C (cy f x.args):=gR G λw=>t3.dO _ (iB G w) (by rw[M w];simp)
 have ak:h.cap≠0:=λA=>by have:=(r.fI.br.xg A).1;simp at this;rw[this]at i;simp at i;omega
 have ah:Qx n.size j R e s.heap C (cy f x.args):=Qx.of z.cH.heap (λZ=>(bt _ _ _ _ λA=>by have q1:=(r.fI.br.E ak).2;have q2:=(r.cH.heap.E Z).1;rw[A,q1]at q2;omega).trans (aa.same _ (z.cH.heap.E Z).2)) (λw=>T.congr (t3.dO _ (iB G w) (by rw[M w];simp))) M z.cH.ct.size
 obtain⟨aj,c4⟩:=v.cH.heap.setCell v.cH.new ac 1 x.bL av ah
 obtain⟨S4,t4⟩:=v.fS (c4.mono λaK Z=>Or.inl Z) aj
 have Z:gL s.heap (ix (D f.br (x.bH -1))) ⟨1,x.bL,cy f x.args⟩=s.heap.set (ix (D f.br (x.bH -1))) ⟨1,x.bL,cy f x.args⟩:=by rw[gL,ae V]
 refine⟨t4.dB B3,j,e,ix (D f.br (x.bH -1)),{f with br:=gF f.br (x.bH -1) 0},by rw[jI ab],by rw[Z];exact S4,(ag.trans t3).trans t4,rfl,rfl,rfl,λy=>?_⟩
 rw[mZ,an ⟨E,B⟩,Z,jI ab];rfl
end
end
end Go.Proofs.YtgnjacfobdjeeaaGreat
