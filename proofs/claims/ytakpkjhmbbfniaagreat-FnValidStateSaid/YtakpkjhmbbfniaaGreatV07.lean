/- Part of a proof, joined by a program. -/
import Derived.Test.YtakpkjhmbbfniaaGreatV01
import Derived.Test.YtakpkjhmbbfniaaGreatV02
import Derived.Test.YtakpkjhmbbfniaaGreatV03
import Derived.Test.YtakpkjhmbbfniaaGreatV04
import Derived.Test.YtakpkjhmbbfniaaGreatV05
import Derived.Test.YtakpkjhmbbfniaaGreatV06
set_option linter.unusedVariables false
set_option linter.unusedSimpArgs false
set_option linter.defProp false
set_option maxHeartbeats 8000000
set_option maxRecDepth 100000
namespace Go.Proofs.YtakpkjhmbbfniaaGreat
open Go.Vc
section
set_option linter.unusedVariables false
set_option linter.defProp false
variable{m:ah}{R:Value->ah->Prop}
def wV(l:Nat×Nat)(ik il:Sl)(jv jw jY:Int)(jZ j7:Sl)(at0:Int):=bV m R ⟨[(9,[(14,.I)])],[],[(9,[89,88])]⟩ [.c (.p l.1 l.2),.agg [.s ik,.s il],.agg [.i jv,.i jw,.i jY,.s jZ,.s j7],.c (.i at0)] Tryz.func237
def Ei(ik il:Sl)(jv jw jY:Int)(jZ j7:Sl)(i:Int):=bV m R ⟨[],[],[]⟩ [.agg [.s ik,.s il],.agg [.i jv,.i jw,.i jY,.s jZ,.s j7],.c (.i i)] Tryz.func238
def Gi(qC:Sl)(nF Qz many:Int):=bV m R ⟨[(2,[(7,.I)])],[],[(2,[47])]⟩ [.agg [.s qC,.i nF],.c (.i Qz),.c (.i many)] Tryz.func239
def wW(op:Int):=bV m R ⟨[],[],[]⟩ [.c (.i op)] Tryz.func240
def tV(l:Nat×Nat)(jv jw jY:Int)(jZ j7:Sl):=bV m R ⟨[],[],[]⟩ [.c (.p l.1 l.2),.agg [.i jv,.i jw,.i jY,.s jZ,.s j7]] Tryz.func241
def J2(r:Nat×Nat)(sg sj vars:Sl)(t vO:Int):=bV m R ⟨[],[],[]⟩ [.c (.p r.1 r.2),.agg [.s sg,.s sj],.c (.s vars),.c (.i t),.c (.i vO)] Tryz.func242
def IA(op bh:Int)(aW:Sl):=bV m R ⟨[],[],[]⟩ [.c (.i op),.c (.i bh),.c (.s aW)] Tryz.func243
def CA(r:Nat×Nat)(t:Int):=bV m R ⟨[(8,[(9,.I)])],[(5,[(7,.P)])],[(5,[51,50,49]),(8,[50,49])]⟩ [.c (.p r.1 r.2),.c (.i t)] Tryz.func244
def AP(v:Int):=bV m R ⟨[],[],[]⟩ [.c (.i v)] Tryz.func245
def IB(r:Nat×Nat)(sg sj vars:Sl)(t:Int):=bV m R ⟨[],[],[]⟩ [.c (.p r.1 r.2),.agg [.s sg,.s sj],.c (.s vars),.c (.i t)] Tryz.func246
def yK(e_0 e_1:Int)(e_2:Sl)(left:Int):=bV m R ⟨[(5,[(1,.I),(5,.I)])],[],[(5,[29])]⟩ [.agg [.i e_0,.i e_1,.s e_2],.c (.i left)] Tryz.func247
def AQ(jv jw jY:Int)(jZ j7:Sl):=bV m R ⟨[(3,[(3,.S),(4,.I)])],[],[(3,[35,34])]⟩ [.agg [.i jv,.i jw,.i jY,.s jZ,.s j7]] Tryz.func248
def AT(qC:Sl)(nF f:Int):=bV m R ⟨[(2,[(5,.I)]),(7,[(6,.I)])],[],[(2,[55]),(7,[55])]⟩ [.agg [.s qC,.i nF],.c (.i f)] Tryz.func249
def vu(jv jw jY:Int)(jZ j7:Sl)(n:Int)(list:Sl):=bV m R ⟨[(4,[(2,.S),(7,.I)]),(9,[(2,.S),(8,.I)])],[],[(4,[61]),(9,[61])]⟩ [.agg [.i jv,.i jw,.i jY,.s jZ,.s j7],.c (.i n),.c (.s list)] Tryz.func250
def CC(ik il:Sl)(jv jw jY:Int)(jZ j7:Sl)(i:Int)(owned dV:Sl):=bV m R ⟨[],[],[]⟩ [.agg [.s ik,.s il],.agg [.i jv,.i jw,.i jY,.s jZ,.s j7],.c (.i i),.c (.s owned),.c (.s dV)] Tryz.func251
def AU(ik il vars aB akj:Sl)(akk:Int)(owned dV:Sl):=bV m R ⟨[(7,[(16,.S),(17,.S),(18,.I)]),(14,[(19,.S),(20,.I)])],[],[(7,[127,124,121]),(14,[127,124,121])]⟩ [.agg [.s ik,.s il],.c (.s vars),.c (.s aB),.agg [.s akj,.i akk],.c (.s owned),.c (.s dV)] Tryz.func252
def Ej(a b:Sl):=bV m R ⟨[(3,[(5,.S),(6,.I)])],[],[]⟩ [.c (.s a),.c (.s b)] Tryz.func253
def CD(aI:Sl)(Qz to0:Int):=bV m R ⟨[(2,[(7,.I)])],[],[]⟩ [.c (.s aI),.c (.i Qz),.c (.i to0)] Tryz.func254
end
section
set_option linter.unusedVariables false
set_option linter.defProp false
variable{m:ah}{R:Value->ah->Prop}
def tq(l:Nat×Nat):=bV m R ⟨[],[],[]⟩ [.c (.p l.1 l.2)] Tryz.func255
def tW(l:Nat×Nat)(ik il qC:Sl)(nF m0:Int):=bV m R ⟨[(2,[(9,.I)])],[],[(2,[51,50])]⟩ [.c (.p l.1 l.2),.agg [.s ik,.s il],.agg [.s qC,.i nF],.c (.i m0)] Tryz.func256
def CE(r:Nat×Nat)(sg sj vars:Sl):=bV m R ⟨[],[],[]⟩ [.c (.p r.1 r.2),.agg [.s sg,.s sj],.c (.s vars)] Tryz.func257
def Ek(r:Nat×Nat)(sg sj vars types:Sl)(vO:Int):=bV m R ⟨[(3,[(11,.S),(12,.I)])],[],[(3,[42])]⟩ [.c (.p r.1 r.2),.agg [.s sg,.s sj],.c (.s vars),.c (.s types),.c (.i vO)] Tryz.func258
def AW(r:Nat×Nat)(sg sj vars:Sl)(t vO:Int):=bV m R ⟨[(7,[(13,.S),(14,.I)])],[(4,[(11,.I)])],[(4,[79,75]),(7,[79,75])]⟩ [.c (.p r.1 r.2),.agg [.s sg,.s sj],.c (.s vars),.c (.i t),.c (.i vO)] Tryz.func259
def AX(sg sj:Sl)(t:Int):=bV m R ⟨[(3,[(5,.S),(6,.I)]),(7,[(7,.T),(8,.I)])],[],[(3,[59]),(7,[59])]⟩ [.agg [.s sg,.s sj],.c (.i t)] Tryz.func260
def AY(r:Nat×Nat)(sg sj vars:Sl)(t vO:Int):=bV m R ⟨[(3,[(11,.I)])],[(7,[])],[(3,[130,126]),(7,[130,126])]⟩ [.c (.p r.1 r.2),.agg [.s sg,.s sj],.c (.s vars),.c (.i t),.c (.i vO)] Tryz.func261
def CF(r:Nat×Nat):=bV m R ⟨[],[],[]⟩ [.c (.p r.1 r.2)] Tryz.func262
def wX(vars:Sl)(t:Int):=bV m R ⟨[(3,[(5,.S),(6,.I)])],[],[]⟩ [.c (.s vars),.c (.i t)] Tryz.func263
def CG(sg sj vars:Sl)(t:Int):=bV m R ⟨[],[],[]⟩ [.agg [.s sg,.s sj],.c (.s vars),.c (.i t)] Tryz.func264
def AZ(r:Nat×Nat)(sg sj:Sl)(t:Int):=bV m R ⟨[(11,[(9,.S),(11,.I)]),(21,[(15,.S),(16,.I)])],[(6,[(8,.I)]),(8,[(8,.I)]),(17,[(80,.T)])],[(6,[124,122]),(8,[124,122]),(11,[124,122]),(17,[124,122]),(21,[124,122])]⟩ [.c (.p r.1 r.2),.agg [.s sg,.s sj],.c (.i t)] Tryz.func265
def tX(ik il:Sl)(jv jw jY:Int)(jZ j7:Sl)(i:Int):=bV m R ⟨[(2,[(7,.I)])],[],[(2,[46,45])]⟩ [.agg [.s ik,.s il],.agg [.i jv,.i jw,.i jY,.s jZ,.s j7],.c (.i i)] Tryz.func266
def Gj(list:Sl)(n:Int):=bV m R ⟨[(3,[(5,.S),(6,.I)])],[],[]⟩ [.c (.s list),.c (.i n)] Tryz.func267
def wY(l:Nat×Nat)(m0:Int):=bV m R ⟨[(2,[(5,.I)])],[],[]⟩ [.c (.p l.1 l.2),.c (.i m0)] Tryz.func268
def A2(sg sj:Sl)(t:Int):=bV m R ⟨[(3,[(5,.S),(6,.I)])],[],[(3,[55])]⟩ [.agg [.s sg,.s sj],.c (.i t)] Tryz.func269
end
end Go.Proofs.YtakpkjhmbbfniaaGreat
namespace Go.Proofs.YtakpkjhmbbfniaaGreat
open Go.Vc
theorem aJ(n lo hi:Int)(m:ah):cB Tryz.prog 27 [vi n,vi lo,vi hi] m (lo<=n/\n<=hi):=by
 apply Cf;refine⟨λh=>ez ?_ (af.av _),λh=>bC ?_ (af.av _)⟩<;>simp at h
 ·simp[h]
 ·omega
theorem gD(op:Int)(m:ah):cB Tryz.prog 118 [vi op] m (0<=op/\op<=11):=by
 apply Cm;exact(aJ _ _ _ _).then λb m1 hb h1=>⟨_,rfl,ez hb h1⟩
def jA(op:Int):Prop:=0<=op/\op<=11/\op≠7/\op≠8\/op=18\/op=19
theorem vv(op:Int)(m:ah):cB Tryz.prog 99 [vi op] m (jA op):=by
 apply Iu;refine(gD _ _).then λb m1 hb h1=>⟨_,rfl,λh=>?_,λh=>?_⟩
 ·have h:=hb.1 h;refine⟨λh2=>⟨λh3=>gP ?_ h1,λh3=>⟨λh4=>gP ?_ h1,λh4=>ez ?_ h1⟩⟩,λh2=>⟨λh3=>gP ?_ h1,λh3=>ez ?_ h1⟩⟩<;>simp[jA]at* <;>omega
 ·have h:=fb hb h;refine⟨λh2=>gP ?_ h1,λh2=>ez ?_ h1⟩<;>simp[jA]at* <;>omega
theorem bW{m:ah}{list:Sl}{l:List Int}(hl:aj m list l)(n:Int):cB Tryz.prog 142 [Sl.v list,vi n] m (n∈l):=by
 apply Iw;have ly:=hl.len;refine dg (n:=l.length) (ly▸hl.eP) (λk m'=>af m m'/\∀y∈l.take k,y≠n) ⟨af.av _,az⟩ ?_;rintro k m1 I μ hk ⟨hx,hn⟩ next
 refine⟨λh=>?_,λh=>?_⟩
 ·simp only[aFP]at h;obtain⟨x,dF⟩:=ae (l:=l) (k:=k) ab;refine⟨ab,ab,x,by simpa using hx.ad (hl.aE dF),λh2=>?_,λh2=>?_⟩
  ·simp only[aFZ]at h2;exact gP (h2▸ak dF) hx
  ·simp only[aFU]at h2;exact next ab _ ⟨hx,aZ dF hn h2⟩
 ·simp only[aFQ]at h;exact bC (λhm=>bM ab hn n hm rfl) hx
def yL(n:Nat)(t:Int):Prop:=0<=t/\t<=n
def El(n:Nat)(l:List Int):Prop:=∀t∈l,yL n t
theorem tY{m:ah}{list:Sl}{l:List Int}(hl:aj m list l)(aI:Sl):cB Tryz.prog 69 [Sl.v aI,Sl.v list] m (El aI.len l):=by
 apply Ai;have ly:=hl.len;refine dg (n:=l.length) (ly▸hl.eP) (λk m'=>af m m'/\∀t∈l.take k,yL aI.len t) ⟨af.av _,az⟩ ?_;rintro k m1 I μ hk ⟨hx,hn⟩ next
 refine⟨λh=>?_,λh=>?_⟩
 ·simp only[aFP]at h;obtain⟨x,dF⟩:=ae (l:=l) (k:=k) ab;refine⟨ab,ab,x,by simpa using hx.ad (hl.aE dF),?_⟩;refine(aJ _ _ _ _).then λb m2 hb h2=>⟨_,rfl,λh=>?_,λh=>?_⟩
  ·exact bC (λhp=>nb hb h (hp x (ak dF))) (hx.trans h2)
  ·exact next ab _ ⟨hx.trans h2,aZ dF hn (yb hb h)⟩
 ·simp only[aFQ]at h;exact gP (bM ab hn) hx
def Oj(l:List Int)(many at0 Lk:Int):Prop:=(l.length:Int)=many/\∀t∈l,at0+1<=t/\t<=Lk -1
theorem CH{m:ah}{list:Sl}{l:List Int}(hl:aj m list l)(many at0 Lk:Int)(h1: -1<=at0/\at0<9223372036854775807)(h2:0<=Lk/\Lk<=9223372036854775807):
 cB Tryz.prog 107 [Sl.v list,vi many,vi at0,vi Lk] m (Oj l many at0 Lk):=by
 apply wK
 have ly:=hl.len
 refine⟨λh=>?_,λh=>?_⟩
 ·simp only[aHG]at h
  exact bC (λhp=>h (by rw[ly];exact hp.1)) (af.av _)
 ·simp only[aGF]at h
  have QA:many=(l.length:Int):=by rw[<-h,ly]
  subst QA
  have e1:bS (at0+1)=at0+1:=aF ab ab
  have e2:bS (Lk -1)=Lk -1:=aF ab ab
  rw[e1,e2]
  refine dg (n:=l.length) (ly▸hl.eP) (λk m'=>af m m'/\∀t∈l.take k,at0+1<=t/\t<=Lk -1) ⟨af.av _,az⟩ ?_
  rintro k m1 I μ hk ⟨hx,hn⟩ next
  refine⟨λh=>?_,λh=>?_⟩
  ·simp only[aFP]at h
   obtain⟨x,dF⟩:=ae (l:=l) (k:=k) ab
   refine⟨ab,ab,x,by simpa using hx.ad (hl.aE dF),?_⟩
   refine(aJ _ _ _ _).then λb m2 hb h2=>⟨_,rfl,λh=>?_,λh=>?_⟩
   ·exact bC (λhp=>nb hb h (hp.2 x (ak dF))) (hx.trans h2)
   ·exact next ab _ ⟨hx.trans h2,aZ dF hn (yb hb h)⟩
  ·simp only[aFQ]at h
   exact gP ⟨rfl,bM ab hn⟩ hx
def CI(params bX:List Int):Prop:=∀(k:Nat)(v:Int),bX[k]? =some v->(∃t,0<=v/\params[v.toNat]? =some t/\t≠0)/\(∀u:Int,0<k->bX[k -1]? =some u->u<v)
theorem sG{m:ah}{params bX:Sl}{p l:List Int}(hp:aj m params p)(hl:aj m bX l):cB Tryz.prog 70 [Sl.v params,Sl.v bX] m (CI p l):=by
 apply yg;have ly:=hl.len;have tA:=hp.len;have YN:=hp.eP;have e1:bS ((params.len:Int) -1)=(p.length:Int) -1:=by rw[aF ab ab,tA]
 rw[e1];have zG:=hl.eP;refine dg (n:=l.length) (ly▸hl.eP) (λk m'=>af m m'/\∀(j:Nat)(v:Int),j<k->l[j]? =some v->(∃t,0<=v/\p[v.toNat]? =some t/\t≠0)/\(∀u:Int,0<j->l[j -1]? =some u->u<v)) ⟨af.av _,az⟩ ?_;rintro k m1 I μ hk ⟨hx,hn⟩ next
 refine⟨λh=>?_,λh=>?_⟩
 ·simp only[aFP]at h;obtain⟨x,dF⟩:=ae (l:=l) (k:=k) ab;have g1:ad m1 bX.ao (bX.off+Int.toNat k*1)=some (vi x):=by simpa using hx.ad (hl.aE dF)
  refine⟨ab,ab,x,g1,?_⟩;refine(aJ _ _ _ _).then λb m2 hb h2=>⟨_,rfl,λh=>?_,λh=>?_⟩
  ·refine bC (λhp=>nb hb h ?_) (hx.trans h2);obtain⟨⟨t,h3,h4,_⟩,_⟩:=hp k x dF;have:=ap h4;omega
  ·have hr:=yb hb h;obtain⟨t,ht⟩:=ae (l:=p) (k:=x.toNat) ab;have g3:=(hx.trans h2).ad (hp.aE ht);have dA:=hx.trans h2;refine⟨ab,ab,x,h2.ad g1,ab,ab,t,by simpa using g3,λh3=>?_,λh3=>?_⟩
   ·simp only[aFZ]at h3;refine bC (λhq=>?_) dA;obtain⟨⟨t',_,h5,h6⟩,_⟩:=hq k x dF;rw[ht]at h5;simp at h5;exact h6 (h5▸h3)
   ·simp only[aFU]at h3;refine⟨λh4=>?_,λh4=>?_⟩
    ·simp only[aFP]at h4;have e2:bS ((k:Int) -1)=((k -1:Nat):Int):=by rw[aF ab ab];omega
     obtain⟨y,hy⟩:=ae (l:=l) (k:=k -1) ab;rw[e2];refine⟨ab,ab,x,h2.ad g1,ab,ab,y,by simpa using dA.ad (hl.aE hy),λh5=>?_,λh5=>?_⟩
     ·simp only[aFP]at h5;refine bC (λhq=>?_) dA;have:=(hq k x dF).2 y ab hy;omega
     ·simp only[aFQ]at h5;refine next ab _ ⟨dA,λj v hj hv=>?_⟩
      by_cases e:j=k
      ·subst e;rw[dF]at hv;simp at hv;subst hv;refine⟨⟨t,hr.1,ht,h3⟩,λu _ hu=>?_⟩;rw[hy]at hu;simp at hu;subst hu;omega
      ·exact hn j v ab hv
    ·simp only[aFQ]at h4;refine next ab _ ⟨dA,λj v hj hv=>?_⟩
     by_cases e:j=k
     ·subst e;rw[dF]at hv;simp at hv;subst hv;exact⟨⟨t,hr.1,ht,h3⟩,λu h0 _=>ab⟩
     ·exact hn j v ab hv
 ·simp only[aFQ]at h;exact gP (λj v hv=>hn j v (by have:=ap hv;omega) hv) hx
structure Gk(ds:List aS)(k:Nat)(d:aS):Prop where
 eZ:0<d.cons.length->d.cons.length<=3/\d.rH=0/\d.to=0/\∀f∈d.cons,f.length<=3/\El ds.length f
 Ti:d.cons.length=0->(∀e∈ds.take k,¬(e.cons.length=0/\e.rH=d.rH/\e.to=d.to))/\yL ds.length d.rH/\yL ds.length d.to
structure cE(ds:List aS):Prop where
 len:ds.length<=4
 cq:∀(k:Nat)(d:aS),ds[k]? =some d->Gk ds k d
theorem Em{m:ah}{aI:Sl}{ds:List aS}(hd:br m aI ds){k:Nat}{d:aS}(hk:ds[k]? =some d):cB Tryz.prog 102 [Sl.v aI,vi k] m (Gk ds k d):=by
 apply yp;simp -zeta only[aw,ax];have jk:=ap hk;have kU:=hd.len;obtain⟨f,hf,g0,g1,g2⟩:=hd.aE hk;refine⟨ab,ab,_,by simpa using g0,_,by simpa using g1,_,by simpa using g2,?_⟩;intro m1 m2;have lM:af m m2:=((af.av m).aC _).ag (aFR _) _ _;have hl:∀b∈[m.size],b<m2.size:=by simp[m2,m1,aq]
 have gL:=hf.len;refine⟨λh=>?_,λh=>?_⟩
 ·simp only[aFP]at h;refine⟨λh1=>?_,λh1=>?_⟩
  ·simp only[aFP]at h1;exact bC (λhp=>by have:=(hp.eZ ab).1;omega) lM
  simp only[aFQ]at h1;refine⟨λh2=>?_,λh2=>?_⟩
  ·simp only[aHG]at h2;exact bC (λhp=>h2 (hp.eZ ab).2.1) lM
  simp only[aGF]at h2;refine⟨λh3=>?_,λh3=>?_⟩
  ·simp only[aHG]at h3;exact bC (λhp=>h3 (hp.eZ ab).2.2.1) lM
  simp only[aGF]at h3;refine dg (n:=d.cons.length) (gL▸hf.eP) (λk m'=>af m2 m'/\∀f∈d.cons.take k,f.length<=3/\El ds.length f) ⟨af.av _,az⟩ ?_;rintro j m3 I μ hj ⟨hx,hn⟩ next
  refine⟨λh4=>?_,λh4=>?_⟩
  ·simp only[aFP]at h4;obtain⟨c,hc⟩:=ae (l:=d.cons) (k:=j) ab;obtain⟨g,hg,gg⟩:=(mV.ext (lM.trans hx) hf).aE hc;have hgl:=hg.len;refine⟨ab,ab,g,by simpa using gg,λh5=>?_,λh5=>?_⟩
   ·simp only[aFP]at h5;exact bC (λhp=>by have:=((hp.eZ ab).2.2.2 c (ak hc)).1;omega) (lM.trans hx)
   ·simp only[aFQ]at h5;refine⟨ab,ab,g,by simpa using gg,?_⟩;refine(tY hg _).ay hx hl λb m4 hb h6 h7=>⟨_,rfl,λh8=>?_,λh8=>?_⟩
    ·exact bC (λhp=>nb hb h8 (kU▸((hp.eZ ab).2.2.2 c (ak hc)).2)) (lM.trans h7)
    ·exact next ab _ ⟨h7,aZ hc hn ⟨ab,kU▸yb hb h8⟩⟩
  ·simp only[aFQ]at h4;exact gP ⟨λ_=>⟨ab,h2,h3,bM ab hn⟩,λh0=>ab⟩ (lM.trans hx)
 ·simp only[aFQ]at h;have hz:d.cons.length=0:=ab;have aur:=hd.eP;refine dg (n:=k) ab (λk m'=>af m2 m'/\∀e∈ds.take k,¬(e.cons.length=0/\e.rH=d.rH/\e.to=d.to)) ⟨af.av _,az⟩ ?_;rintro j m3 I μ hj ⟨hx,hn⟩ next
  refine⟨λh4=>?_,λh4=>?_⟩
  ·simp only[aFP]at h4;obtain⟨e,he⟩:=ae (l:=ds) (k:=j) ab;obtain⟨f',OO,q0,q1,q2⟩:=(br.ext (lM.trans hx) hd).aE he;have Va:=OO.len;have sW:¬(e.cons.length=0/\e.rH=d.rH/\e.to=d.to)->I (bS ((j:Int)+1)) m3/\μ (bS ((j:Int)+1)) m3<μ j m3:=λhq=>next ab _ ⟨hx,aZ he hn hq⟩
   refine⟨ab,ab,f',by simpa using q2,λh5=>?_,λh5=>?_⟩
   ·simp only[aFZ]at h5;refine⟨ab,ab,_,by simpa using q0,λh6=>?_,λh6=>?_⟩
    ·simp only[aFZ]at h6;refine⟨ab,ab,_,by simpa using q1,λh7=>?_,λh7=>?_⟩
     ·simp only[aFZ]at h7;have hm:e∈ds.take k:=by
       rw[List.mem_iff_getElem?];exact⟨j,by rw[aHb,aFW ab];exact he⟩
      exact bC (λhp=>(hp.Ti hz).1 e hm ⟨ab,h6,h7⟩) (lM.trans hx)
     ·simp only[aFU]at h7;exact sW (λhq=>h7 hq.2.2)
    ·simp only[aFU]at h6;exact sW (λhq=>h6 hq.2.1)
   ·simp only[aFU]at h5;exact sW (λhq=>h5 ab)
  ·simp only[aFQ]at h4;have ej:j=k:=ab;subst ej;refine(aJ _ _ _ _).ay hx hl λb m4 hb h6 h7=>⟨_,rfl,λh8=>?_,λh8=>?_⟩
   ·have h8:=hb.1 h8;refine(aJ _ _ _ _).ay h7 hl λb m5 hb h9 ln=>⟨_,rfl,ez ?_ (lM.trans ln)⟩;rw[hb];rw[kU]at h8⊢;exact⟨λh=>⟨λh0=>ab,λ_=>⟨hn,h8,h⟩⟩,λh=>(h.Ti hz).2.2⟩
   ·exact bC (λhp=>fb hb h8 (kU▸(hp.Ti hz).2.1)) (lM.trans h7)
theorem CJ{m:ah}{aI:Sl}{ds:List aS}(hd:br m aI ds):cB Tryz.prog 68 [Sl.v aI] m (cE ds):=by
 apply wH;have kU:=hd.len;refine⟨λh=>?_,λh=>?_⟩
 ·simp only[aFP]at h;exact bC (λhp=>by have:=hp.len;omega) (af.av _)
 ·simp only[aFQ]at h;refine dg (n:=ds.length) ab (λk m'=>af m m'/\∀(j:Nat)(d:aS),j<k->ds[j]? =some d->Gk ds j d) ⟨af.av _,az⟩ ?_;rintro j m3 I μ hj ⟨hx,hn⟩ next
  refine⟨λh4=>?_,λh4=>?_⟩
  ·simp only[aFP]at h4;obtain⟨e,he⟩:=ae (l:=ds) (k:=j) ab;refine(Em (br.ext hx hd) he).then λb m4 hb h5=>⟨_,rfl,λh6=>?_,λh6=>?_⟩
   ·exact bC (λhp=>nb hb h6 (hp.cq j e he)) (hx.trans h5)
   ·refine next ab _ ⟨hx.trans h5,λi d hi aY=>?_⟩
    by_cases eij:i=j
    ·subst eij;rw[he]at aY;simp at aY;subst aY;exact yb hb h6
    ·exact hn i d ab aY
  ·simp only[aFQ]at h4;exact gP ⟨ab,λi d aY=>hn i d (by have:=ap aY;omega) aY⟩ hx
def fc:List aS->Nat->Nat
 |_,0=>0
 |[],_=>0
 |d::ds,k+1=>d.cons.length+fc ds k
def dv(ds:List aS):List (List Int):=ds.flatMap aS.cons
theorem RB(k:Nat):fc [] k=0:=by cases k<;>rfl
theorem qu:∀{ds:List aS}{k:Nat}{d:aS},ds[k]? =some d->fc ds (k+1)=fc ds k+d.cons.length
 |[],k,d,h=>by simp at h
 |e::ds,0,d,h=>by
  simp at h;subst h;simp only[fc];cases ds<;>simp[fc]
 |e::ds,k+1,d,h=>by
  have:=qu (ds:=ds) (k:=k) (d:=d) (by simpa using h);simp only[fc]at this⊢;omega
theorem lY:∀(ds:List aS)(k:Nat),ds.length<=k->fc ds k=(dv ds).length
 |[],k,_=>by rw[RB];rfl
 |d::ds,0,h=>by simp at h
 |d::ds,k+1,h=>by
  have:=lY ds k (by simpa using h);simp only[fc,dv,aG5,aF4]at this⊢;omega
theorem Tj:∀(ds:List aS){i j:Nat},i<=j->fc ds i<=fc ds j
 |[],i,j,_=>by simp[RB]
 |d::ds,0,j,_=>by simp[fc]
 |d::ds,i+1,0,h=>ab
 |d::ds,i+1,j+1,h=>by
  have:=Tj ds (i:=i) (j:=j) ab;simp only[fc];omega
theorem je{ds:List aS}(h:cE ds){k:Nat}{d:aS}(hk:ds[k]? =some d):d.cons.length<=3:=by
 rcases aGT d.cons.length with h0|h0
 ·omega
 ·exact((h.cq k d hk).eZ h0).1
theorem WG{ds:List aS}(h:cE ds):∀k,fc ds k<=3*k
 |0=>by cases ds<;>simp[fc]
 |k+1=>by
  have ih:=WG h k;rcases aF1 k ds.length with hk|hk
  ·obtain⟨d,hd⟩:=ae hk;rw[qu hd];have:=je h hd;omega
  ·rw[lY ds (k+1) ab,<-lY ds k hk];omega
theorem qL{ds:List aS}(h:cE ds)(k:Nat):fc ds k<=12:=by
 rcases aF1 k ds.length with hk|hk
 ·have:=WG h k;have:=h.len;omega
 ·rw[lY ds k hk,<-lY ds ds.length (aFR _)];have:=WG h ds.length;have:=h.len;omega
theorem oW:∀(ds:List aS)(i j:Nat)(d:aS),ds[i]? =some d->j<d.cons.length->(dv ds)[fc ds i+j]? =d.cons[j]?
 |[],i,j,d,h,_=>by simp at h
 |e::ds,0,j,d,h,hj=>by
  simp at h;subst h;simp only[fc,dv,aG5,aGa];rw[aFV hj]
 |e::ds,i+1,j,d,h,hj=>by
  have:=oW ds i j d (by simpa using h) hj;simp only[fc,dv,aG5]at this⊢;rw[aFX ab,<-this];congr 1;omega
theorem tr:∀(ds:List aS)(c:Nat),c<(dv ds).length->∃i d,ds[i]? =some d/\fc ds i<=c/\c<fc ds i+d.cons.length
 |[],c,h=>by simp[dv]at h
 |e::ds,c,h=>by
  rcases aF1 c e.cons.length with hc|hc
  ·exact⟨0,e,az,by simp[fc],by simpa[fc]using hc⟩
  ·obtain⟨i,d,h1,h2,h3⟩:=tr ds (c -e.cons.length) (by simp only[dv,aG5,aF4]at h⊢;omega);exact⟨i+1,d,by simpa using h1,by simp only[fc];omega,by simp only[fc];omega⟩
theorem gY{m:ah}{aI:Sl}{ds:List aS}(hd:br m aI ds)(ht:cE ds){k:Nat}(hk:k<=ds.length):Mc Tryz.prog 132 [Sl.v aI,vi k] m (vi (fc ds k)):=by
 apply Av;have kU:=hd.len;have:=ht.len;refine cN (n:=k) ab (λj n m'=>af m m'/\n=(fc ds j:Nat)) ⟨af.av _,by cases ds<;>rfl⟩ ?_;rintro j n m1 I μ hj ⟨hx,rfl⟩ next
 refine⟨λh=>?_,λh=>?_⟩
 ·simp only[aFP]at h;obtain⟨d,nK⟩:=ae (l:=ds) (k:=j) ab;obtain⟨f,hf,g0,g1,g2⟩:=(br.ext hx hd).aE nK;refine⟨ab,ab,f,by simpa using g2,?_⟩;refine next ab _ _ ⟨hx,?_⟩
  have h1:=qL ht j;have h2:=je ht nK;rw[aF ab (by have:=hf.len;omega),qu nK,hf.len];rfl
 ·simp only[aFQ]at h;have:j=k:=ab;subst this;exact⟨rfl,hx⟩
theorem nU{m:ah}{aI:Sl}{ds:List aS}(hd:br m aI ds)(ht:cE ds):Mc Tryz.prog 146 [Sl.v aI] m (vi (dv ds).length):=by
 apply Aw;have kU:=hd.len;have:=ht.len;refine cN (n:=ds.length) ab (λj n m'=>af m m'/\n=(fc ds j:Nat)) ⟨af.av _,by cases ds<;>rfl⟩ ?_;rintro j n m1 I μ hj ⟨hx,rfl⟩ next
 refine⟨λh=>?_,λh=>?_⟩
 ·simp only[aFP]at h;obtain⟨d,nK⟩:=ae (l:=ds) (k:=j) ab;obtain⟨f,hf,g0,g1,g2⟩:=(br.ext hx hd).aE nK;refine⟨ab,ab,f,by simpa using g2,?_⟩;refine next ab _ _ ⟨hx,?_⟩
  have h1:=qL ht j;have h2:=je ht nK;rw[aF ab (by have:=hf.len;omega),qu nK,hf.len];rfl
 ·simp only[aFQ]at h;refine⟨?_,hx⟩;rw[lY ds j ab]
def ajj(ds:List aS)(c t:Int):Prop:=
 (∃(i:Nat)(d:aS),t=i+1/\ds[i]? =some d/\(fc ds i:Int)<=c/\c<fc ds i+d.cons.length)\/(t= -1/\¬(0<=c/\c<(dv ds).length))
theorem jB{m:ah}{aI:Sl}{ds:List aS}(hd:br m aI ds)(ht:cE ds)(c:Int):aD Tryz.prog 103 [Sl.v aI,vi c] m λv m'=>∃t,v=vi t/\ajj ds c t/\af m m':=by
 apply Ck;have kU:=hd.len;have:=ht.len;refine dg (n:=ds.length) ab (λj m'=>af m m'/\∀(i:Nat)(d:aS),i<j->ds[i]? =some d->¬((fc ds i:Int)<=c/\c<fc ds i+d.cons.length)) ⟨af.av _,az⟩ ?_;rintro j m1 I μ hj ⟨hx,hn⟩ next
 refine⟨λh=>?_,λh=>?_⟩
 ·simp only[aFP]at h;obtain⟨d,nK⟩:=ae (l:=ds) (k:=j) ab;refine(gY (br.ext hx hd) ht ab).then λm2 h2=>⟨_,rfl,?_⟩;obtain⟨f,hf,g0,g1,g2⟩:=(br.ext (hx.trans h2) hd).aE nK;refine⟨ab,ab,f,by simpa using g2,?_⟩;have h1:=qL ht j;have h3:=je ht nK;have gL:=hf.len;have e1:bS (bS ((fc ds j:Int)+(f.len:Int)) -1)=(fc ds j:Int)+d.cons.length -1:=by
   rw[aF (x:=(fc ds j:Int)+(f.len:Int)) ab ab,aF ab ab,gL]
  rw[e1];refine(aJ _ _ _ _).then λb m3 hb h4=>⟨_,rfl,λh5=>?_,λh5=>?_⟩
  ·have h5:=hb.1 h5;refine⟨_,rfl,Or.inl ⟨j,d,?_,nK,ab,ab⟩,(hx.trans h2).trans h4⟩;rw[aF ab ab]
  ·refine next ab _ ⟨(hx.trans h2).trans h4,λi d' hi Je=>?_⟩
   by_cases e:i=j
   ·subst e;rw[nK]at Je;simp at Je;subst Je;intro hq;exact fb hb h5 ⟨hq.1,ab⟩
   ·exact hn i d' ab Je
 ·simp only[aFQ]at h;refine⟨_,rfl,Or.inr ⟨rfl,λhq=>?_⟩,hx⟩;obtain⟨i,d,h1,h2,h3⟩:=tr ds c.toNat ab;exact hn i d (by have:=ap h1;omega) h1 ⟨ab,ab⟩
def bz(ds:List aS)(c:Int):List Int:=if 0<=c then((dv ds)[c.toNat]?).getD []else[]
theorem En{m:ah}{aI:Sl}{ds:List aS}(hd:br m aI ds)(ht:cE ds)(c:Int):aD Tryz.prog 104 [Sl.v aI,vi c] m λv m'=>∃s,v=Sl.v s/\aj m' s (bz ds c)/\af m m':=by
 apply oT;have kU:=hd.len;have:=ht.len;refine(jB hd ht c).mono ?_;rintro _ m1 ⟨t,rfl,hct,hx⟩;refine⟨_,rfl,λh=>?_,λh=>?_⟩
 ·simp only[aFP]at h;refine⟨_,rfl,?_,hx.aC _⟩;have e:bz ds c=[]:=by
   rcases hct with⟨i,d,h1,_⟩|⟨_,h2⟩
   ·omega
   ·unfold bz;split
    ·rw[aGc ab];rfl
    ·rfl
  rw[e];exact⟨rfl,aFR _,az,az⟩
 ·simp only[aFQ]at h;rcases hct with⟨i,d,rfl,h2,h3,h4⟩|⟨h1,_⟩
  ·have hil:=ap h2;obtain⟨f,hf,g0,g1,g2⟩:=(br.ext hx hd).aE h2;have e1:bS ((i:Int)+1 -1)=i:=by rw[aF ab ab];omega
   rw[e1];refine⟨ab,ab,f,by simpa using g2,?_⟩;refine(gY (br.ext hx hd) ht ab).then λm2 h5=>⟨_,rfl,h5.cr (by simpa using g2),?_⟩;have nJ:=qL ht i;have h6:=je ht h2;have gL:=hf.len;obtain⟨x,dF⟩:=ae (l:=d.cons) (k:=(c -fc ds i).toNat) ab;obtain⟨g,hg,gg⟩:=(mV.ext h5 hf).aE dF;have e2:bS (c -(fc ds i:Int))=c -fc ds i:=aF ab ab;rw[e2];refine⟨ab,ab,g,gg,_,rfl,?_,hx.trans h5⟩;have e3:bz ds c=x:=by
    unfold bz;rw[aFW ab];have:=oW ds i (c -fc ds i).toNat d h2 ab;rw[show c.toNat=fc ds i+(c -fc ds i).toNat by omega,this,dF];rfl
   rw[e3];exact hg
  ·omega
def bB(ds:List aS)(t:Int):List Int:=
 if 1<=t/\t<=ds.length then((ds[t.toNat -1]?).map λd=>(List.range d.cons.length).map λi=>((fc ds (t.toNat -1)+i:Nat):Int)).getD []else[]
theorem yM{m:ah}{aI:Sl}{ds:List aS}(hd:br m aI ds)(ht:cE ds)(t:Int):aD Tryz.prog 106 [Sl.v aI,vi t] m λv m'=>∃s,v=Sl.v s/\aj m' s (bB ds t)/\af m m':=by
 apply sE;intro m1;have kU:=hd.len;have:=ht.len;have dF:af m m1:=(af.av m).aC _;have ho:gQ m m1 au 1 (.mk m.size 0 0 0) []:=gQ.new (af.av m) au 1 [] 0 az;refine(aJ _ _ _ _).then λb m2 hb h2=>⟨_,rfl,λh=>?_,λh=>?_⟩
 ·refine⟨_,rfl,?_,dF.trans h2⟩;have e:bB ds t=[]:=by
   unfold bB;rw[aFS (by have:=nb hb h;omega)]
  rw[e];exact⟨rfl,aFR _,az,az⟩
 ·have h:=yb hb h;have e1:bS (t -1)=((t.toNat -1:Nat):Int):=by rw[aF ab ab];omega
  rw[e1];obtain⟨d,nK⟩:=ae (l:=ds) (k:=t.toNat -1) ab;have e2:bB ds t=(List.range d.cons.length).map λi=>((fc ds (t.toNat -1)+i:Nat):Int):=by
   unfold bB;rw[aFW ab,nK];rfl
  rw[e2];have nJ:=qL ht (t.toNat -1);have h6:=je ht nK;refine cN (n:=d.cons.length) ab (λj s m'=>af m m'/\gQ m m' au 1 s (((List.range j).map λi=>((fc ds (t.toNat -1)+i:Nat):Int)).map Ce.i)/\s.len=j) ⟨dF.trans h2,by simpa using ho.ext h2,rfl⟩ ?_;rintro j s m3 I μ hj ⟨hx,hs,kQ⟩ next
  obtain⟨f,hf,g0,g1,g2⟩:=(br.ext hx hd).aE nK;have gL:=hf.len;refine⟨ab,ab,f,by simpa using g2,λh3=>?_,λh3=>?_⟩
  ·simp only[aFP]at h3;refine(gY (br.ext hx hd) ht ab).then λm4 h4=>⟨_,rfl,?_⟩;intro m5;have e3:bS (((fc ds (t.toNat -1):Nat):Int)+(j:Int))=((fc ds (t.toNat -1)+j:Nat):Int):=by rw[aF ab ab];omega
   have hm5:m5=m4.push (.cells (aU [.i (((fc ds (t.toNat -1)+j:Nat):Int))]) au):=by rw[<-e3]
   clear_value m5;subst hm5;refine gQ.append (zs:=[.i 0]) (new:=[.i ((fc ds (t.toNat -1)+j:Nat):Int)]) ((hs.ext h4).ext (af.push _ _)) ((hx.trans h4).aC _) rfl (bK.push _ _ _).iu (by simp[kQ];omega) ?_;intro r m' h7 h8 h9 ln jV _;refine next ab _ _ ⟨h8,?_,by simp[h9,kQ]⟩
   rw[aH6,aGz,aGz];exact h7
  ·simp only[aFQ]at h3;have:j=d.cons.length:=ab;subst this;exact⟨_,rfl,aj.fQ hs bg,hx⟩
theorem _root_.Go.Vc.aj.bH{S X:List Nat}{m m1:ah}{s:Sl}{l:List Int}(h:aj (aY S m) s l)(hf:Fz X m m1)(hX:∀b∈X,b∈S){k:Nat}{x:Int}(hk:l[k]? =some x):ad m1 s.ao (s.off+k*1)=some (vi x):=
 (cT.1 ((h.le (hf.bO hX)).aE hk)).2
theorem _root_.Go.Vc.aj.Me{S:List Nat}{m m1:ah}{s:Sl}{l:List Int}(h:aj (aY S m) s l)(hf:af m m1){k:Nat}{x:Int}(hk:l[k]? =some x):ad m1 s.ao (s.off+k*1)=some (vi x):=
 h.bH (hf.fz []) az hk
def Eo(f:Nat)(args:List Value)(m:ah)(S:List Nat)(Q:List Int->Prop):Prop:=aD Tryz.prog f args m λv m'=>∃s l,v=Sl.v s/\aj (aY S m') s l/\Q l/\af m m'
def iV(f:Nat)(args:List Value)(m:ah)(S:List Nat)(Q:List Int->Prop):Prop:=aD Tryz.prog f args m λv m'=>∃s l,v=Sl.v s/\Gr S m m' au 1 rP s l/\Q l/\af m m'
def qM(f:Nat)(args:List Value)(m:ah)(Q:Int->Prop):Prop:=aD Tryz.prog f args m λv m'=>∃n:Int,v=vi n/\Q n/\af m m'
abbrev GI(S:List Nat)(m0 m:ah)(s:Sl)(l:List Int):Prop:=Gr S m0 m au 1 rP s l
theorem GI.nil(S:List Nat)(m:ah):GI S m (m.push (.cells (aU []) au)) (.mk m.size 0 0 0) []:=Gr.new S (aFR _) au 1 rP
theorem GI.iN{S X:List Nat}{m0 m:ah}{s:Sl}{l:List Int}{a:Int}{K:Sl->ah->Prop}(h:GI S m0 m s l)(hf:Fz X m0 m)(hS:∀b∈S,b<m0.size)(hb:l.length<=1000000000000)
 (hk:∀r m',GI S m0 m' r (l++[a])->Fz X m0 m'->(m.size<=m'.size/\(r.ao=s.ao\/m.size<=r.ao))->(∀b,b<m.size->b≠s.ao->m'[b]? =m[b]?)->K r m'):gA (m.push (.cells (aU [.i a]) au)) au [.i 0] 8 s (.mk m.size 0 1 1) K:=
 Gr.iN (zs:=[.i 0]) rP.mono aO h hf rfl ab hk
theorem GI.done{S:List Nat}{m0 m:ah}{s:Sl}{l:List Int}(h:GI S m0 m s l)(hS:∀b∈S,b<m0.size)(hb:l.length<=1000000000000):aj (aY S m) s l:=Gr.done rP.mono h hS aO ab
theorem GI.all{S X:List Nat}{m0 m:ah}{s x:Sl}{l l':List Int}{K:Sl->ah->Prop}(h:GI S m0 m s l)(hf:Fz X m0 m)(hS:∀b∈S,b<m0.size)(hx:aj (aY (s.ao::S) m) x l')(hb:l.length+l'.length<=1000000000000)
 (hk:∀r m',GI S m0 m' r (l++l')->Fz X m0 m'->(m.size<=m'.size/\(r.ao=s.ao\/m.size<=r.ao))->(∀b,b<m.size->b≠s.ao->m'[b]? =m[b]?)->K r m'):gA m au [.i 0] 8 s x K:=
 Gr.all (zs:=[.i 0]) rP.mono aO h hf hx ab hk
theorem GI.fK{S:List Nat}{m0 m m':ah}{s:Sl}{l:List Int}(h:GI S m0 m s l)(hb:m'[s.ao]? =m[s.ao]?):GI S m0 m' s l:=by
 obtain⟨h0,css,h1,h2⟩:=h;exact⟨h0,css,h1.congr hb,h2.mono λ_ _ h=>h⟩
theorem GI.ext{S:List Nat}{m0 m m':ah}{s:Sl}{l:List Int}(h:GI S m0 m s l)(hx:af m m'):GI S m0 m' s l:=Gr.ext rP.mono h hx
theorem _root_.Go.Vc.Gr.bN{α:Type}{S S':List Nat}{m0 m1 m:ah}{e sz:Nat}{R:ah->List Ce->α->Prop}{s:Sl}{l:List α}(hR:lV sz R)(h:Gr S' m1 m e sz R s l)(hS:∀b∈S,b∈S'\/m.size<=b)(hm:m0.size<=m1.size):Gr S m0 m e sz R s l:=by
 obtain⟨h0,css,h1,h2⟩:=h;refine⟨h0,css,h1.bN hm,h2.mono λcs x=>hR.le ((af.av m).aY λb hb=>?_)⟩;rcases List.mem_cons.1 hb with hb|hb
 ·exact Or.inl (by rw[hb];exact aF3)
 ·exact(hS b hb).imp (aFT _) id
theorem GI.bN{S S':List Nat}{m0 m1 m:ah}{s:Sl}{l:List Int}(h:GI S' m1 m s l)(hS:∀b∈S,b∈S')(hm:m0.size<=m1.size):GI S m0 m s l:=Gr.bN rP.mono h (λb hb=>Or.inl (hS b hb)) hm
theorem iV.then{f:Nat}{args:List Value}{m:ah}{S:List Nat}{Q:List Int->Prop}{K:Value->ah->Prop}(h:iV f args m S Q)(hk:∀s l m',GI S m m' s l->Q l->af m m'->K (Sl.v s) m'):aD Tryz.prog f args m K:=
 h.mono λ_ m'⟨s,l,e,h1,h2,h3⟩=>e▸hk s l m' h1 h2 h3
theorem Eo.then{f:Nat}{args:List Value}{m:ah}{S:List Nat}{Q:List Int->Prop}{K:Value->ah->Prop}(h:Eo f args m S Q)(hk:∀s l m',aj (aY S m') s l->Q l->af m m'->K (Sl.v s) m'):aD Tryz.prog f args m K:=
 h.mono λ_ m'⟨s,l,e,h1,h2,h3⟩=>e▸hk s l m' h1 h2 h3
theorem qM.then{f:Nat}{args:List Value}{m:ah}{Q:Int->Prop}{K:Value->ah->Prop}(h:qM f args m Q)(hk:∀n m',Q n->af m m'->K (vi n) m'):aD Tryz.prog f args m K:=
 h.mono λ_ m'⟨n,e,h1,h2⟩=>e▸hk n m' h1 h2
theorem qN{S:List Nat}{m m1:ah}{b:Nat}(h:af m m1)(hb:m.size<=b):Le (aY S m) (aY (b::S) m1):=h.aY λc hc=>by
 rcases List.mem_cons.1 hc with h|h
 ·exact Or.inr (by rw[h];exact hb)
 ·exact Or.inl h
theorem jC{S:List Nat}{m:ah}(hS:∀b∈S,b<m.size){list:Sl}{l:List Int}(hl:aj (aY S m) list l)(hb:l.length<=1000000000000):iV 72 [Sl.v list] m S (l=·):=by
 apply kZ;intro m1;have hx:af m m1:=af.push m _;exact GI.all (l:=[]) (X:=[]) (GI.nil S m) (hx.fz []) hS (hl.le (qN hx (aFR _))) (by simpa using hb) λr m' g f _ _=>⟨r,l,rfl,by simpa using g,rfl,f.ext⟩
def ng(l l':List Int):Prop:=(∀x∈l',x∈l)/\l'.length<=l.length
theorem my{l l':List Int}(h:∀x∈l',x∈l){x:Int}(hx:x∈l):∀y∈l'++[x],y∈l:=by
 intro y hy;rcases List.mem_append.1 hy with hy|hy
 ·exact h y hy
 ·simp at hy;subst hy;exact hx
theorem yN{S:List Nat}{m:ah}(hS:∀b∈S,b<m.size){list:Sl}{l:List Int}(hl:aj (aY S m) list l)(n:Int)(hb:l.length<=1000000000000):iV 226 [Sl.v list,vi n] m S (ng l):=by
 apply Cy;intro m1;have ly:=hl.len;refine cN (n:=l.length) (ly▸hl.eP) (λk s m'=>af m m'/\∃l',GI S m m' s l'/\(∀x∈l',x∈l)/\l'.length<=k) ⟨af.push m _,[],GI.nil S m,az,aFR _⟩ ?_;rintro k s m2 I μ hk ⟨hx,l',hg,hn,hc⟩ next
 refine⟨λh=>?_,λh=>?_⟩
 ·simp only[aFP]at h;obtain⟨x,dF⟩:=ae (l:=l) (k:=k) ab;refine⟨ab,ab,x,hl.Me hx dF,λh2=>⟨ab,ab,x,hl.Me hx dF,?_⟩,λh2=>next ab _ _ ⟨hx,l',hg,hn,ab⟩⟩;intro m3;exact GI.iN hg (hx.fz []) hS ab λr m4 g f _ _=>next ab _ _ ⟨f.ext,_,g,my hn (ak dF),bg⟩
 ·simp only[aFQ]at h;exact⟨s,l',rfl,hg,⟨hn,ab⟩,hx⟩
theorem Ok{S:List Nat}{m:ah}(hS:∀b∈S,b<m.size){list:Sl}{l:List Int}(hl:aj (aY S m) list l)(n:Int)(hb:l.length<=1000000000000):iV 267 [Sl.v list,vi n] m S (ng l):=by
 apply Gj;intro m1;have ly:=hl.len;refine cN (n:=l.length) (ly▸hl.eP) (λk s m'=>af m m'/\∃l',GI S m m' s l'/\(∀x∈l',x∈l)/\l'.length<=k) ⟨af.push m _,[],GI.nil S m,az,aFR _⟩ ?_;rintro k s m2 I μ hk ⟨hx,l',hg,hn,hc⟩ next
 refine⟨λh=>?_,λh=>?_⟩
 ·simp only[aFP]at h;obtain⟨x,dF⟩:=ae (l:=l) (k:=k) ab;refine⟨ab,ab,x,hl.Me hx dF,λh2=>⟨ab,ab,x,hl.Me hx dF,?_⟩,λh2=>next ab _ _ ⟨hx,l',hg,hn,ab⟩⟩;intro m3;exact GI.iN hg (hx.fz []) hS ab λr m4 g f _ _=>next ab _ _ ⟨f.ext,_,g,my hn (ak dF),bg⟩
 ·simp only[aFQ]at h;exact⟨s,l',rfl,hg,⟨hn,ab⟩,hx⟩
theorem Mf{S:List Nat}{m:ah}(hS:∀b∈S,b<m.size){a b:Sl}{l lb:List Int}(hl:aj (aY S m) a l)(Hw:aj (aY S m) b lb)(hb:l.length<=1000000000000):iV 253 [Sl.v a,Sl.v b] m S (ng l):=by
 apply Ej;intro m1;have ly:=hl.len;refine cN (n:=l.length) (ly▸hl.eP) (λk s m'=>af m m'/\∃l',GI S m m' s l'/\(∀x∈l',x∈l)/\l'.length<=k) ⟨af.push m _,[],GI.nil S m,az,aFR _⟩ ?_;rintro k s m2 I μ hk ⟨hx,l',hg,hn,hc⟩ next
 refine⟨λh=>?_,λh=>?_⟩
 ·simp only[aFP]at h;obtain⟨x,dF⟩:=ae (l:=l) (k:=k) ab;refine⟨ab,ab,x,hl.Me hx dF,?_⟩;refine(bW ((Hw.le (aV _ _)).ext hx) x).then λc m3 _ h3=>⟨_,rfl,λh2=>⟨ab,ab,x,hl.Me (hx.trans h3) dF,?_⟩,λh2=>next ab _ _ ⟨hx.trans h3,l',hg.ext h3,hn,ab⟩⟩;intro m4;exact GI.iN (hg.ext h3) ((hx.trans h3).fz []) hS ab λr m4 g f _ _=>next ab _ _ ⟨f.ext,_,g,my hn (ak dF),bg⟩
 ·simp only[aFQ]at h;exact⟨s,l',rfl,hg,⟨hn,ab⟩,hx⟩
theorem _root_.Go.Vc.vw{σ τ:Type}{n:Nat}(hn:n<=9223372036854775807){m:ah}{s0:σ}{t0:τ}{Body:(σ->τ->Int->ah->Prop)->(σ->τ->Int->ah->Nat)->σ->τ->Int->ah->Prop}(Q:Nat->σ->τ->ah->Prop)(h0:Q 0 s0 t0 m)
 (h:∀(k:Nat)(s:σ)(t:τ)(m1:ah)(I:σ->τ->Int->ah->Prop)(μ:σ->τ->Int->ah->Nat),k<=n->Q k s t m1->
  (k<n->∀s' t' m',Q (k+1) s' t' m'->I s' t' (bS ((k:Int)+1)) m'/\μ s' t' (bS ((k:Int)+1)) m'<μ s t k m1)->Body I μ s t k m1):
 ∃(I:σ->τ->Int->ah->Prop)(μ:σ->τ->Int->ah->Nat),I s0 t0 0 m/\∀s t i m1,I s t i m1->Body I μ s t i m1:=by
 refine⟨λs t i m'=>∃k:Nat,i=k/\k<=n/\Q k s t m',λ_ _ i _=>(n -i).toNat,⟨0,rfl,aGq _,h0⟩,?_⟩
 rintro s t i m1 ⟨k,rfl,hk,hq⟩
 refine h k s t m1 _ _ hk hq λcA s' t' m' zB=>?_
 rw[iG cA hn]
 exact⟨⟨k+1,rfl,cA,zB⟩,Bw cA⟩
def ae6(l:List Int)(n:Int)(l':List Int):Prop:=(∀x∈l',x∈l\/x=n)/\l'.length<=l.length+1
theorem zS{l l':List Int}{n:Int}(h:∀x∈l',x∈l\/x=n){x:Int}(hx:x∈l\/x=n):∀y∈l'++[x],y∈l\/y=n:=by
 intro y hy;rcases List.mem_append.1 hy with hy|hy
 ·exact h y hy
 ·simp at hy;subst hy;exact hx
theorem jH{S:List Nat}{m:ah}(hS:∀b∈S,b<m.size){list:Sl}{l:List Int}(hl:aj (aY S m) list l)(n:Int)(hb:l.length<1000000000000):iV 207 [Sl.v list,vi n] m S (ae6 l n):=by
 apply Ef;intro m1;have ly:=hl.len;refine vw (n:=l.length) (ly▸hl.eP) (λk s d m'=>af m m'/\∃l',GI S m m' s l'/\(∀x∈l',x∈l\/x=n)/\l'.length<=k+(if d=true then 1 else 0)) ⟨af.push m _,[],GI.nil S m,az,aFR _⟩ ?_;rintro k s d m2 I μ hk ⟨hx,l',hg,hn,hc⟩ next
 have uI:l'.length<=k+1:=by split at hc<;>omega
 refine⟨λh=>?_,λh=>?_⟩
 ·simp only[aFP]at h;obtain⟨x,dF⟩:=ae (l:=l) (k:=k) ab;have G:∀{m':ah},af m m'->ad m' list.ao (list.off+k*1)=some (vi x):=λh=>hl.Me h dF;have hxl:x∈l\/x=n:=Or.inl (ak dF);have A:∀d':Bool,(l'++[x]).length<=k+1+(if d'=true then 1 else 0)->gA (m2.push (.cells (aU [.i x]) au)) au [.i 0] 8 s (.mk m2.size 0 1 1) λr m'=>I r d' (bS ((k:Int)+1)) m'/\μ r d' (bS ((k:Int)+1)) m'<μ s d k m2:=λd' hd=>
   GI.iN hg (hx.fz []) hS ab λr m4 g f _ _=>next ab _ _ _ ⟨f.ext,_,g,zS hn hxl,hd⟩
  refine⟨λh2=>⟨ab,ab,x,G hx,λh3=>⟨ab,ab,x,G hx,λh4=>?_,λh4=>⟨ab,ab,x,G hx,A true bg⟩⟩,λh3=>⟨ab,ab,x,G hx,A d ?_⟩⟩,λh2=>⟨ab,ab,x,G hx,A d ?_⟩⟩
  ·have hd:d=false:=by simpa using h2
   subst hd;simp at hc;intro m3;refine GI.iN hg (hx.fz []) hS ab λr m4 g f _ _=>⟨ab,ab,x,G f.ext,?_⟩;intro m5;exact GI.iN g f hS bg λr m6 g f _ _=>next ab _ _ _ ⟨f.ext,_,g,zS (zS hn (Or.inr rfl)) hxl,bg⟩
  ·simp only[aF4,aF5,aGv];omega
  ·simp only[aF4,aF5,aGv];omega
 ·simp only[aFQ]at h;refine⟨λh2=>?_,λh2=>⟨s,l',rfl,hg,⟨hn,ab⟩,hx⟩⟩;have hd:d=false:=by simpa using h2
  subst hd;simp at hc;intro m3;exact GI.iN hg (hx.fz []) hS ab λr m4 g f _ _=>⟨r,_,rfl,g,⟨zS hn (Or.inr rfl),bg⟩,f.ext⟩
theorem pU{S:List Nat}{m:ah}(hS:∀b∈S,b<m.size){list:Sl}{l:List Int}(hl:aj (aY S m) list l)(n:Int)(hb:l.length<=1000000000000):iV 203 [Sl.v list,vi n] m S (ng l):=by
 apply tT;intro m1;have ly:=hl.len;refine vw (n:=l.length) (ly▸hl.eP) (λk s _ m'=>af m m'/\∃l',GI S m m' s l'/\(∀x∈l',x∈l)/\l'.length<=k) ⟨af.push m _,[],GI.nil S m,az,aFR _⟩ ?_;rintro k s d m2 I μ hk ⟨hx,l',hg,hn,hc⟩ next
 refine⟨λh=>?_,λh=>?_⟩
 ·simp only[aFP]at h;obtain⟨x,dF⟩:=ae (l:=l) (k:=k) ab;have G:=hl.Me hx dF;have A:gA (m2.push (.cells (aU [.i x]) au)) au [.i 0] 8 s (.mk m2.size 0 1 1) λr m'=>I r d (bS ((k:Int)+1)) m'/\μ r d (bS ((k:Int)+1)) m'<μ s d k m2:=
   GI.iN hg (hx.fz []) hS ab λr m4 g f _ _=>next ab _ _ _ ⟨f.ext,_,g,my hn (ak dF),bg⟩
  exact⟨ab,ab,x,G,λh2=>⟨λh3=>next ab _ _ _ ⟨hx,l',hg,hn,ab⟩,λh3=>⟨ab,ab,x,G,A⟩⟩,λh2=>⟨ab,ab,x,G,A⟩⟩
 ·simp only[aFQ]at h;exact⟨s,l',rfl,hg,⟨hn,ab⟩,hx⟩
theorem Ol{S:List Nat}{m:ah}(hS:∀b∈S,b<m.size){a b:Sl}{l lb:List Int}(hl:aj (aY S m) a l)(Hw:aj (aY S m) b lb)(hb:l.length+lb.length<=1000000000000):iV 221 [Sl.v a,Sl.v b] m S (λl'=>(∀x∈l',x∈l\/x∈lb)/\l'.length<=l.length+lb.length):=by
 apply Gg;refine(jC hS hl ab).then λs0 _ m1 g0 e x1=>⟨_,rfl,?_⟩;subst e;have ly:=Hw.len;refine cN (n:=lb.length) (ly▸Hw.eP) (λk s m'=>af m m'/\∃l',GI S m m' s l'/\(∀x∈l',x∈l\/x∈lb)/\l'.length<=l.length+k) ⟨x1,_,g0,λx hx=>Or.inl hx,aFR _⟩ ?_;rintro k s m2 I μ hk ⟨hx,l',hg,hn,hc⟩ next
 refine⟨λh=>?_,λh=>?_⟩
 ·simp only[aFP]at h;obtain⟨x,dF⟩:=ae (l:=lb) (k:=k) ab;refine⟨ab,ab,x,Hw.Me hx dF,?_⟩;refine(jH (λb hb=>aFY (hS b hb) hx.size) (hg.done hS ab) x ab).then λr l2 m3 g q x3=>⟨_,rfl,next ab _ _ ⟨hx.trans x3,l2,g.bN (λ_ h=>h) hx.size,λy hy=>?_,by have:=q.2;omega⟩⟩;rcases q.1 y hy with h|h
  ·exact hn y h
  ·subst h;exact Or.inr (ak dF)
 ·simp only[aFQ]at h;exact⟨s,l',rfl,hg,⟨hn,ab⟩,hx⟩
theorem qO(op:Int)(m:ah):cB Tryz.prog 240 [vi op] m (14<=op/\op<=17):=by
 apply wW;exact(aJ _ _ _ _).then λb m1 hb h1=>⟨_,rfl,ez hb h1⟩
theorem cS{S:List Nat}{m:ah}(hS:∀b∈S,b<m.size){list dY:Sl}{l lm:List Int}(hl:aj (aY S m) list l)(hm:aj (aY S m) dY lm)(hb:l.length+lm.length<=1000000000000):iV 116 [Sl.v list,Sl.v dY] m S (l++lm=·):=by
 apply sF;refine(jC hS hl ab).then λs0 _ m1 g0 e x1=>⟨_,rfl,?_⟩;subst e;exact GI.all g0 (x1.fz []) hS (hm.le (qN x1 g0.aN.1)) hb λr m' g f _ _=>⟨r,_,rfl,g,rfl,f.ext⟩
theorem pE{S:List Nat}{m:ah}(hS:∀b∈S,b<m.size){list:Sl}{l:List Int}(hl:aj (aY S m) list l)(n:Nat)(hb:n+l.length<=1000000000000):iV 117 [Sl.v list,vi n] m S (λl'=>(∀x∈l',(n:Int)<=x/\x<n+l.length)/\l'.length<=l.length):=by
 apply Aq;intro m1;have ly:=hl.len;refine cN (n:=l.length) (ly▸hl.eP) (λk s m'=>af m m'/\∃l',GI S m m' s l'/\(∀x∈l',(n:Int)<=x/\x<n+l.length)/\l'.length<=k) ⟨af.push m _,[],GI.nil S m,az,aFR _⟩ ?_;rintro k s m2 I μ hk ⟨hx,l',hg,hn,hc⟩ next
 refine⟨λh=>?_,λh=>?_⟩
 ·simp only[aFP]at h;obtain⟨x,dF⟩:=ae (l:=l) (k:=k) ab;refine⟨ab,ab,x,hl.Me hx dF,λh2=>?_,λh2=>next ab _ _ ⟨hx,l',hg,hn,ab⟩⟩;rw[aF (x:=(n:Int)+k) ab ab];intro m3;refine GI.iN hg (hx.fz []) hS ab λr m4 g f _ _=>next ab _ _ ⟨f.ext,_,g,?_,bg⟩
  intro y hy;rcases List.mem_append.1 hy with hy|hy
  ·exact hn y hy
  ·simp at hy;omega
 ·simp only[aFQ]at h;exact⟨s,l',rfl,hg,⟨hn,ab⟩,hx⟩
theorem jt{S:List Nat}{m:ah}(hS:∀b∈S,b<m.size)(n k0:Nat)(hb:n+k0<=1000000000000):iV 88 [vi n,vi k0] m S (λl'=>(∀x∈l',(n:Int)<=x/\x<n+k0)/\l'.length=k0):=by
 apply uY;intro m1;refine cN (n:=k0) ab (λk s m'=>af m m'/\∃l',GI S m m' s l'/\(∀x∈l',(n:Int)<=x/\x<n+k0)/\l'.length=k) ⟨af.push m _,[],GI.nil S m,az,rfl⟩ ?_;rintro k s m2 I μ hk ⟨hx,l',hg,hn,hc⟩ next
 refine⟨λh=>?_,λh=>?_⟩
 ·simp only[aFP]at h;rw[aF (x:=(n:Int)+k) ab ab];intro m3;refine GI.iN hg (hx.fz []) hS ab λr m4 g f _ _=>next ab _ _ ⟨f.ext,_,g,?_,bg⟩
  intro y hy;rcases List.mem_append.1 hy with hy|hy
  ·exact hn y hy
  ·simp at hy;omega
 ·simp only[aFQ]at h;exact⟨s,l',rfl,hg,⟨hn,ab⟩,hx⟩
theorem Gl(l:List Int):(l.map λx=>[Ce.i x]).flatten=l.map Ce.i:=by induction l<;>simp_all
theorem GI.set{S X:List Nat}{m0 m:ah}{s:Sl}{l:List Int}(h:GI S m0 m s l)(hf:Fz X m0 m){k:Nat}(hk:k<l.length)(n:Int):
 dW m s.ao (s.off+k*1) 1/\GI S m0 (ag m s.ao (s.off+k*1) [.i n]) s (l.set k n)/\Fz X m0 (ag m s.ao (s.off+k*1) [.i n])/\(∀b,b≠s.ao->(ag m s.ao (s.off+k*1) [.i n])[b]? =m[b]?):=by
 have hy:=h.aN
 have hlen:=h.len aO
 obtain⟨h0,css,h1,h2⟩:=h
 have cx:∀b,b≠s.ao->(ag m s.ao (s.off+k*1) [.i n])[b]? =m[b]? :=λb hb=>aP _ _ _ _ hb
 obtain⟨b,c,tail,e1,e2,e3,e4,e5⟩:=h1.aE.resolve_left h0
 have gL:css.flatten.length=l.length:=by rw[bZ h2.size,h2.len];omega
 have afK:css.flatten=l.map Ce.i:=by
  apply aGC;intro i;rcases aF1 i l.length with hi|hi
  ·obtain⟨x,hx⟩:=ae hi;obtain⟨cs,kJ⟩:=ae (l:=css) (k:=i) (by rw[h2.len];exact hi);have h3:cs=[.i x]:=h2.cq i cs x kJ hx;have h4:=fy (sz:=1) h2.size kJ (i:=0) (c:=.i x) (by rw[h3];rfl);simp only[aGr,aGX]at h4;rw[h4];simp[hx]
  ·rw[aGc ab,aGc (by simpa using hi)]
 have ho:s.off+k*1=k:=by rw[e1];simp
 have jx:s.ao=b:=by rw[e1];rfl
 refine⟨?_,⟨h0,(l.set k n).map λx=>[.i x],⟨?_,Or.inr ⟨b,c,tail,e1,e2,?_,?_,e5⟩⟩,⟨by rw[aGy],λcs hc=>?_,λj cs x hj hx=>?_⟩⟩,hf.ag (Or.inr hy.1) _ _,cx⟩
 ·rw[ho,jx]
  exact e3.dW (by simp only[aF4,aF5,aGv];omega)
 ·rw[Gl,aGy,aGO];omega
 ·have h5:=bK.ag (m:=m) (b:=b) (r:=[.i n]) (o:=k) e3
  rw[ho,jx,Gl]
  have h6:fP (css.flatten++tail) k [.i n]=(l.set k n).map Ce.i++tail:=by
   apply aGC;intro i;rw[tI,afK];by_cases hik:i=k
   ·subst hik;rw[aFW ⟨aFR _,az,bg⟩,aFV (by simpa using hk)];simp[hk]
   ·rw[aFS bg];rcases aF1 i l.length with hi|hi
    ·rw[aFV (by simpa using hi),aFV (by simpa using hi)];simp only[aGb,aGn (aHh hik)]
    ·rw[aFX (by simpa using hi),aFX (by simpa using hi)];simp
  rw[<-h6];exact h5
 ·rw[<-e4,Gl]
  simp only[aF4,gL,aGy,aGO]
 ·simp only[aIq]at hc
  obtain⟨x,_,rfl⟩:=hc
  rfl
 ·simp only[aGb,hx,aHe,aHU]at hj
  exact hj.symm
theorem sH{S:List Nat}{m:ah}(hS:∀b∈S,b<m.size){list:Sl}{l:List Int}(hl:aj (aY S m) list l)(hb:l.length<=1000000000000){at0:Nat}(ha:at0<l.length)(n:Int):iV 155 [Sl.v list,vi at0,vi n] m S (l.set at0 n=·):=by
 apply wN;refine(jC hS hl hb).then λs _ m1 g e x1=>⟨_,rfl,ab,?_,?_⟩
 ·subst e;have:=g.len aO;omega
 subst e;obtain⟨h1,h2,h3,_⟩:=g.set (x1.fz []) ha n;exact⟨h1,s,_,rfl,h2,rfl,h3.ext⟩
end Go.Proofs.YtakpkjhmbbfniaaGreat
section
namespace Go.Vc
open Go.Proofs.YtakpkjhmbbfniaaGreat
theorem Bk.ind{Q:Bk->Prop}(h:∀ar r,(∀s∈ar,∀b∈s.aW,Q b)->Q (.mk ar r)):∀b,Q b
 | .mk ar r=>h ar r λs _ b _=>Bk.ind h b
termination_by b=>SizeOf.sizeOf b
decreasing_by
 rename_i h1 h2
 have h3:=aHa h1
 have h4:=aHa h2
 have h5:SizeOf.sizeOf s.aW<SizeOf.sizeOf s:=by cases s;simp;omega
 simp;omega
theorem Ex.ind{Q:Ex->Prop}(h:∀op bh aW,(∀e∈aW,Q e)->Q (.mk op bh aW)):∀e,Q e
 | .mk op bh aW=>h op bh aW λe _=>Ex.ind h e
termination_by e=>SizeOf.sizeOf e
decreasing_by
 rename_i h1
 have h3:=aHa h1
 simp;omega
def sw(l:List bu):Nat:=(l.map Md.w).sum
def bw(l:List Bk):Nat:=(l.map Bk.w).sum
def en(l:List Ex):Nat:=(l.map Ex.n).sum
@[simp] theorem tv:sw []=0:=rfl
@[simp] theorem yO:bw []=0:=rfl
@[simp] theorem ae7:en []=0:=rfl
theorem jR(x:bu)(l:List bu):sw (x::l)=x.w+sw l:=by simp[sw]
theorem sI(x:Bk)(l:List Bk):bw (x::l)=x.w+bw l:=by simp[bw]
theorem Om(x:Ex)(l:List Ex):en (x::l)=x.n+en l:=by simp[en]
theorem cb(a b:List bu):sw (a++b)=sw a+sw b:=by simp[sw]
theorem mz(a b:List Bk):bw (a++b)=bw a+bw b:=by simp[bw]
theorem Nc(a b:List Ex):en (a++b)=en a+en b:=by simp[en]
theorem Bk.nV(s:List bu)(r:Int):(Bk.mk s r).w=1+sw s:=Bk.aiF _
theorem Bk.jD(b:Bk):b.w=1+sw b.ar:=Bk.aiF b
theorem bu.jD(s:bu):s.w=1+s.args.length+bw s.aW:=rfl
theorem Ex.UM(o n:Int)(k:List Ex):(Ex.mk o n k).n=1+en k:=by rw[Ex.n];rfl
theorem Ex.ajk(e:Ex):e.n=1+en e.aW:=by cases e;exact Ex.UM _ _ _
theorem nh{l:List bu}{k:Nat}{x:bu}(h:l[k]? =some x):sw (l.take (k+1))=sw (l.take k)+x.w:=by rw[bn h,cb,jR,tv];rfl
theorem sJ{l:List Bk}{k:Nat}{x:Bk}(h:l[k]? =some x):bw (l.take (k+1))=bw (l.take k)+x.w:=by rw[bn h,mz,sI,yO];rfl
theorem Jp{l:List Ex}{k:Nat}{x:Ex}(h:l[k]? =some x):en (l.take (k+1))=en (l.take k)+x.n:=by rw[bn h,Nc,Om,ae7];rfl
theorem yP(l:List bu)(k:Nat):sw (l.take k)<=sw l:=by
 have:=cb (l.take k) (l.drop k);rw[aGi]at this;omega
theorem J3(l:List Bk)(k:Nat):bw (l.take k)<=bw l:=by
 have:=mz (l.take k) (l.drop k);rw[aGi]at this;omega
theorem Tk(l:List Ex)(k:Nat):en (l.take k)<=en l:=by
 have:=Nc (l.take k) (l.drop k);rw[aGi]at this;omega
theorem On{l:List bu}{k:Nat}{x:bu}(h:l[k]? =some x):x.w<=sw l:=by
 have:=nh h;have:=yP l (k+1);omega
theorem vx{l:List Bk}{k:Nat}{x:Bk}(h:l[k]? =some x):x.w<=bw l:=by
 have:=sJ h;have:=J3 l (k+1);omega
theorem dN:∀l:List bu,l.length<=sw l
 |[]=>az
 |x::l=>by have:=dN l;rw[jR,aF5,bu.jD];omega
theorem Bk.Ep(b:Bk):1<=b.w:=by rw[Bk.jD];omega
theorem nW:∀l:List Bk,l.length<=bw l
 |[]=>az
 |x::l=>by have:=nW l;have:=x.Ep;rw[sI,aF5];omega
theorem RC:∀l:List Ex,l.length<=en l
 |[]=>az
 |x::l=>by have:=RC l;rw[Om,aF5,Ex.ajk];omega
def nj(op:Int):Prop:=0<=op/\op<=11
instance(op:Int):Decidable (nj op):=inferInstanceAs (Decidable (_/\_))
def dn(s:bu):Nat:=if nj s.op then 1 else 0
def dc(l:List bu):Nat:=(l.map dn).sum
@[simp] theorem qP:dc []=0:=rfl
theorem iH(x:bu)(l:List bu):dc (x::l)=dn x+dc l:=by simp[dc]
theorem bD(a b:List bu):dc (a++b)=dc a+dc b:=by simp[dc]
theorem oG{l:List bu}{k:Nat}{x:bu}(h:l[k]? =some x):dc (l.take (k+1))=dc (l.take k)+dn x:=by rw[bn h,bD,iH,qP];rfl
theorem WH(l:List bu)(k:Nat):dc (l.take k)<=dc l:=by
 have:=bD (l.take k) (l.drop k);rw[aGi]at this;omega
theorem ajl(x:bu):dn x<=1:=by unfold dn;split<;>omega
theorem qQ:∀l:List bu,dc l<=l.length
 |[]=>az
 |x::l=>by have:=qQ l;have:=ajl x;rw[iH,aF5];omega
def zT(ds:List aS)(op bh:Int)(i:Nat):Nat:=if op=8 then(bz ds (((bB ds bh)[i]?).getD 0)).length else 0
structure aai(ds:List aS)(nr:Nat)(c:Prop)(a:Nat)(s:bu):Prop where
 op:nj s.op\/c/\14<=s.op/\s.op<=17
 args:∀x∈s.args,0<=x/\x<(a:Int)
 jm:14<=s.op\/s.op=7\/s.op=8->s.args.length=1
 bA:0<=s.bA/\s.bA<=(a:Int)
 IC:s.op=7->s.aW.length=2
 all:s.op=8->s.aW.length=(bB ds s.bh).length/\0<s.aW.length
 call:s.op=9->0<=s.bh/\s.bh<(nr:Int)
inductive WB(ds:List aS)(nr:Nat)(c:Prop):Nat->Bk->Prop
 |mk {a:Nat} {ar:List bu} {r:Int} (db:∀(i:Nat)(s:bu),ar[i]? =some s->aai ds nr c (a+dc (ar.take i)) s)
  (aW:∀(i:Nat)(s:bu)(k:Nat)(b:Bk),ar[i]? =some s->s.aW[k]? =some b->WB ds nr c (a+dc (ar.take i)+zT ds s.op s.bh k) b)
  (kV:0<=r/\r<((a+dc ar:Nat):Int)):WB ds nr c a (.mk ar r)
structure WS(ds:List aS)(nr:Nat)(c:Prop)(a:Nat)(s:bu):Prop where
 db:aai ds nr c a s
 aW:∀(k:Nat)(b:Bk),s.aW[k]? =some b->WB ds nr c (a+zT ds s.op s.bh k) b
def WL(ds:List aS)(nr:Nat)(c:Prop)(a:Nat)(l:List bu):Prop:=∀(i:Nat)(s:bu),l[i]? =some s->WS ds nr c (a+dc (l.take i)) s
theorem WB.aT{ds:List aS}{nr:Nat}{c:Prop}{a:Nat}{b:Bk}(h:WB ds nr c a b):WL ds nr c a b.ar/\0<=b.aH/\b.aH<((a+dc b.ar:Nat):Int):=by
 cases h with
 |mk db aW kV=>exact⟨λi s hs=>⟨db i s hs,λk b hb=>aW i s k b hs hb⟩,kV⟩
theorem WB.of{ds:List aS}{nr:Nat}{c:Prop}{a:Nat}{ar:List bu}{r:Int}(h:WL ds nr c a ar)(hr:0<=r/\r<((a+dc ar:Nat):Int)):WB ds nr c a (.mk ar r):=
 .mk (λi s hs=>(h i s hs).db) (λi s k b hs hb=>(h i s hs).aW k b hb) hr
theorem WL.nil(ds:List aS)(nr:Nat)(c:Prop)(a:Nat):WL ds nr c a []:=λi s h=>by simp at h
theorem WL.append{ds:List aS}{nr:Nat}{c:Prop}{a:Nat}{l l':List bu}(h:WL ds nr c a l)(h':WL ds nr c (a+dc l) l'):WL ds nr c a (l++l'):=λi s hs=>by
 rcases aF1 i l.length with hi|hi
 ·rw[aFV hi]at hs;rw[aG2 ab];exact h i s hs
 ·rw[aFX hi]at hs;have:=h' _ s hs;rw[List.take_append,aG6 hi,bD,<-aGm];exact this
theorem WL.jm{ds:List aS}{nr:Nat}{c:Prop}{a:Nat}{s:bu}(h:WS ds nr c a s):WL ds nr c a [s]:=λi x hx=>by
 have:i=0:=by have:=ap hx;simp at this;omega
 subst this;simp at hx;subst hx;simpa using h
theorem WL.xI{ds:List aS}{nr:Nat}{c:Prop}{a:Nat}{l:List bu}{s:bu}(h:WL ds nr c a l)(hs:WS ds nr c (a+dc l) s):WL ds nr c a (l++[s]):=h.append (.jm hs)
theorem WL.take{ds:List aS}{nr:Nat}{c:Prop}{a:Nat}{l:List bu}(h:WL ds nr c a l)(k:Nat):WL ds nr c a (l.take k):=λi s hs=>by
 rw[aHb]at hs;split at hs
 ·rw[aHT,aGV ab];exact h i s hs
 ·simp at hs
theorem WL.drop{ds:List aS}{nr:Nat}{c:Prop}{a:Nat}{l:List bu}(h:WL ds nr c a l)(k:Nat):WL ds nr c (a+dc (l.take k)) (l.drop k):=λi s hs=>by
 rw[aHk]at hs;have:=h _ s hs;rw[List.take_add,bD,<-aGm]at this;exact this
end Go.Vc
end
namespace Go.Proofs.YtakpkjhmbbfniaaGreat
open Go.Vc
def tZ(im:bq)(bh:Int)(n:Nat):Prop:=∃q:bY,0<=bh/\im.bJ[bh.toNat]? =some q/\q.params.length=n
theorem WI:bS 9223372036854775808= -9223372036854775808:=aO
theorem ua{m:ah}{d p:Sl}{im:bq}(h:dU m d p im)(bh:Int)(n dY:Nat)(hn:n<=9223372036854775807)(hm:dY<=1):
 cB Tryz.prog 105 [.agg #[Sl.v d,Sl.v p],vi bh,vi n,vi dY] m (tZ im bh (n+dY)):=by
 apply Ao
 simp -zeta only[aw,ax]
 intro m1
 have lM:af m m1:=(af.av m).aC _
 have hl:∀b∈[m.size],b<m1.size:=by simp[m1]
 have tA:=h.bJ.len
 have YN:=h.bJ.eP
 refine(aJ _ _ _ _).ay (af.av _) hl λb m2 hb h1 h2=>⟨_,rfl,λh3=>?_,λh3=>?_⟩
 ·have h3:=hb.1 h3
  rw[aF ab ab]at h3
  obtain⟨q,hq⟩:=ae (l:=im.bJ) (k:=bh.toNat) ab
  obtain⟨a,b',c,ha,jx,hc,g0,g1,g2,g3,g4⟩:=(eV.ext (lM.trans h1) h.bJ).aE hq
  refine⟨ab,ab,a,g0,ez ?_ (lM.trans h1)⟩
  have jK:=ha.len
  have akl:=ha.eP
  simp only[aFZ]
  have e:(a.len:Int)=bS ((n:Int)+(dY:Int))<->a.len=n+dY:=by
   rcases aF1 (n+dY) 9223372036854775808 with cA|FG
   ·rw[aF ab ab];omega
   ·have e1:(n:Int)+(dY:Int)=9223372036854775808:=ab;rw[e1,WI];omega
  rw[e,jK]
  exact⟨λhh=>⟨q,h3.1,hq,hh⟩,λ⟨q',_,h5,h6⟩=>by rw[hq]at h5;simp at h5;rw[h5];exact h6⟩
 ·refine bC (λ⟨q,h4,h5,_⟩=>fb hb h3 ?_) (lM.trans h1)
  have:=ap h5
  rw[aF ab ab]
  omega
def kj(im:bq)(p:bY)(k:Nat)(i:Instr):Prop:=
 if i.op=0 then i.args.length=0/\-999<=i.bh/\i.bh<=999
 else if i.op=1\/i.op=2\/i.op=3\/i.op=4\/i.op=11 then i.args.length=2/\i.bh=0
 else if i.op=5\/i.op=14\/i.op=15\/i.op=18\/i.op=23 then i.args.length=1/\i.bh=0
 else if i.op=6 then(0<=i.bh/\i.bh<(dv im.aI).length)/\i.args.length=(bz im.aI i.bh).length/\0<=i.bA/\i.bA<=p.an
 else if i.op=9\/i.op=24 then tZ im i.bh i.args.length
 else if i.op=10 then tZ im i.bh (i.args.length+1)/\∀q,im.bJ[i.bh.toNat]? =some q->q.bX.length=0
 else if i.op=16\/i.op=17 then(1<=i.args.length/\i.args.length<=4)/\i.bh=0
 else if i.op=19 then i.args.length=1/\0<=i.bh/\i.bh<=2
 else if i.op=20 then i.args.length=1/\(k:Int)+1<=i.bh/\i.bh<=(p.bP.length:Int) -1
 else if i.op=22 then i.args.length=0/\(k:Int)+1<=i.bh/\i.bh<=(p.bP.length:Int) -1
 else if i.op=21 then i.args.length=1/\0<(bB im.aI i.bh).length/\Oj i.cW (bB im.aI i.bh).length k p.bP.length
 else False
structure fe(im:bq)(p:bY)(k:Nat)(i:Instr):Prop where
 args:∀a∈i.args,0<=a/\a<=p.an -1
 dst:0<=i.dst/\i.dst<=p.an -1
 ajm:i.dst=0\/jA i.op
 bA:i.bA=0\/i.op=6
 cW:i.op=21\/i.cW.length=0
 op:kj im p k i
structure PQ(m:ah)(a l:Sl)(c:Sl)(p:bY):Prop where
 params:aj m a p.params
 bX:aj m l p.bX
 bP:dq m c p.bP
theorem PQ.ext{m m':ah}(hx:af m m'){a l c:Sl}{p:bY}(h:PQ m a l c p):PQ m' a l c p:=⟨h.params.ext hx,h.bX.ext hx,dq.ext hx h.bP⟩
theorem CK{m:ah}{d p:Sl}{im:bq}(h:dU m d p im)(ht:cE im.aI){a l c:Sl}{q:bY}(hq:PQ m a l c q)(hr:1<=q.an/\q.an<=2000){k:Nat}{i:Instr}(hk:q.bP[k]? =some i):
 cB Tryz.prog 71 [.agg #[Sl.v d,Sl.v p],.agg #[Sl.v a,Sl.v l,vi q.aH,vi q.an,Sl.v c],vi k] m (fe im q k i):=by
 apply wI
 simp -zeta only[aw,ax]
 intro m1 m2
 have dA:af m m2:=((af.av m).aC _).aC _
 have jk:=ap hk
 have pt:=hq.bP.len
 have akm:=hq.bP.eP
 obtain⟨xa,xj,ha,hj,g0,g1,g2,g3,g4,g5⟩:=(dq.ext dA hq.bP).aE hk
 refine⟨ab,ab,_,g0,_,g1,_,g2,_,g3,_,g4,_,g5,?_⟩
 intro m3 m4
 have lM:af m m4:=(dA.aC _).ag dA.size _ _
 have akn:af m2 m4:=((af.av m2).aC _).ag (aFR _) _ _
 have hl:∀b∈[m2.size,m1.size,m.size],b<m4.size:=by
  simp[m4,m3,m2,m1,aq];omega
 clear_value m4
 have jK:=ha.len
 have hjl:=hj.len
 have akl:=ha.eP
 have er:bS (q.an -1)=q.an -1:=aF ab ab
 rw[er]
 refine dg (n:=i.args.length) (jK▸ha.eP) (λj m'=>af m4 m'/\∀x∈i.args.take j,0<=x/\x<=q.an -1) ⟨af.av _,az⟩ ?_
 rintro j m5 I μ hjj ⟨hx,hn⟩ next
 refine⟨λh1=>?_,λh1=>?_⟩
 ·simp only[aFP]at h1
  obtain⟨x,dF⟩:=ae (l:=i.args) (k:=j) ab
  refine⟨ab,ab,x,by simpa using(akn.trans hx).ad (ha.aE dF),?_⟩
  refine(aJ _ _ _ _).ay hx hl λb m6 hb h2 h3=>⟨_,rfl,λh4=>?_,λh4=>?_⟩
  ·exact bC (λhp=>nb hb h4 (hp.args x (ak dF))) (lM.trans h3)
  ·exact next ab _ ⟨h3,aZ dF hn (yb hb h4)⟩
 ·simp only[aFQ]at h1
  have fV:=bM ab hn
  refine⟨λm'=>af m4 m'/\(0<=i.dst/\i.dst<=q.an -1)/\(i.dst=0\/jA i.op)/\(i.bA=0\/i.op=6)/\(i.op=21\/i.cW.length=0),?_,?_⟩
  ·refine(aJ _ _ _ _).ay hx hl λb m6 hb h2 h3=>⟨_,rfl,λh4=>?_,λh4=>?_⟩
   ·exact bC (λhp=>nb hb h4 hp.dst) (lM.trans h3)
   ·have nG:=yb hb h4
    have tail:∀m':ah,af m4 m'->(i.dst=0\/jA i.op)->
     ((i.bA !=0)=true->((i.op !=6)=true->∃b':Bool,vb false=.bool b'/\(b'=true<->fe im q k i)/\af m m')/\((i.op !=6)=false->
      ((i.op !=21)=true->((decide ((xj.len:Int)>0))=true->∃b':Bool,vb false=.bool b'/\(b'=true<->fe im q k i)/\af m m')/\((decide ((xj.len:Int)>0))=false->af m4 m'/\(0<=i.dst/\i.dst<=q.an -1)/\(i.dst=0\/jA i.op)/\(i.bA=0\/i.op=6)/\(i.op=21\/i.cW.length=0)))/\
      ((i.op !=21)=false->af m4 m'/\(0<=i.dst/\i.dst<=q.an -1)/\(i.dst=0\/jA i.op)/\(i.bA=0\/i.op=6)/\(i.op=21\/i.cW.length=0))))/\
     ((i.bA !=0)=false->
      ((i.op !=21)=true->((decide ((xj.len:Int)>0))=true->∃b':Bool,vb false=.bool b'/\(b'=true<->fe im q k i)/\af m m')/\((decide ((xj.len:Int)>0))=false->af m4 m'/\(0<=i.dst/\i.dst<=q.an -1)/\(i.dst=0\/jA i.op)/\(i.bA=0\/i.op=6)/\(i.op=21\/i.cW.length=0)))/\
      ((i.op !=21)=false->af m4 m'/\(0<=i.dst/\i.dst<=q.an -1)/\(i.dst=0\/jA i.op)/\(i.bA=0\/i.op=6)/\(i.op=21\/i.cW.length=0))):=by
     intro m' ph LP
     have jl:(i.bA=0\/i.op=6)->((i.op !=21)=true->((decide ((xj.len:Int)>0))=true->∃b':Bool,vb false=.bool b'/\(b'=true<->fe im q k i)/\af m m')/\((decide ((xj.len:Int)>0))=false->af m4 m'/\(0<=i.dst/\i.dst<=q.an -1)/\(i.dst=0\/jA i.op)/\(i.bA=0\/i.op=6)/\(i.op=21\/i.cW.length=0)))/\
      ((i.op !=21)=false->af m4 m'/\(0<=i.dst/\i.dst<=q.an -1)/\(i.dst=0\/jA i.op)/\(i.bA=0\/i.op=6)/\(i.op=21\/i.cW.length=0)):=by
      intro hi
      refine⟨λh5=>⟨λh6=>?_,λh6=>?_⟩,λh5=>?_⟩
      ·simp at h5 h6
       exact bC (λhp=>by rcases hp.cW with h7|h7<;>omega) (lM.trans ph)
      ·simp at h6
       exact⟨ph,nG,LP,hi,Or.inr ab⟩
      ·simp at h5
       exact⟨ph,nG,LP,hi,Or.inl h5⟩
     refine⟨λh5=>⟨λh6=>?_,λh6=>jl (Or.inr (by simpa using h6))⟩,λh5=>jl (Or.inl (by simpa using h5))⟩
     simp at h5 h6
     exact bC (λhp=>by rcases hp.bA with h7|h7<;>contradiction) (lM.trans ph)
    refine⟨λh5=>?_,λh5=>tail m6 h3 (Or.inl (by simpa using h5))⟩
    refine(vv _ _).ay h3 hl λb m7 hb h6 h7=>⟨_,rfl,λh8=>?_,λh8=>tail m7 h7 (Or.inr (yb hb h8))⟩
    simp at h5
    exact bC (λhp=>by rcases hp.ajm with h9|h9;exact h5 h9;exact nb hb h8 h9) (lM.trans h7)
  ·rintro m8 ⟨xg,nG,LP,rI,hju⟩
   have tD:=lM.trans xg
   have Bm:fe im q k i<->kj im q k i:=⟨λhp=>hp.op,λhp=>⟨fV,nG,LP,rI,hju,hp⟩⟩
   rw[Bm]
   have hI:dU m8 d p im:=dU.ext tD h
   refine⟨λe0=>?_,λe0=>?_⟩
   ·simp only[aFZ]at e0
    have eo:kj im q k i<->i.args.length=0/\-999<=i.bh/\i.bh<=999:=by rw[kj,aFW e0]
    rw[eo]
    refine⟨λh2=>?_,λh2=>?_⟩
    ·simp only[aFZ]at h2
     refine(aJ _ _ _ _).ay xg hl λb m9 hb h3 h4=>⟨_,rfl,ez ?_ (lM.trans h4)⟩
     rw[hb];omega
    ·simp only[aFU]at h2
     exact bC ab tD
   simp only[aFU]at e0
   refine⟨λe1=>?_,λe1=>?_⟩
   ·simp only[aGe,aFZ]at e1
    have eo:kj im q k i<->i.args.length=2/\i.bh=0:=by rw[kj,aFS e0,aFW e1]
    rw[eo]
    refine⟨λh2=>ez ?_ tD,λh2=>bC ?_ tD⟩
    ·simp only[aFZ]at h2⊢;omega
    ·simp only[aFU]at h2;omega
   simp only[aF9,aFU]at e1
   replace e1:¬(i.op=1\/i.op=2\/i.op=3\/i.op=4\/i.op=11):=ab
   refine⟨λe2=>?_,λe2=>?_⟩
   ·simp only[aGe,aFZ]at e2
    have eo:kj im q k i<->i.args.length=1/\i.bh=0:=by rw[kj,aFS e0,aFS e1,aFW e2]
    rw[eo]
    refine⟨λh2=>ez ?_ tD,λh2=>bC ?_ tD⟩
    ·simp only[aFZ]at h2⊢;omega
    ·simp only[aFU]at h2;omega
   simp only[aF9,aFU]at e2
   replace e2:¬(i.op=5\/i.op=14\/i.op=15\/i.op=18\/i.op=23):=ab
   refine⟨λe3=>?_,λe3=>?_⟩
   ·simp only[aFZ]at e3
    have eo:kj im q k i<->(0<=i.bh/\i.bh<(dv im.aI).length)/\i.args.length=(bz im.aI i.bh).length/\0<=i.bA/\i.bA<=q.an:=by rw[kj,aFS e0,aFS e1,aFS e2,aFW e3]
    rw[eo]
    refine(jB hI.aI ht _).ay xg hl ?_
    rintro _ m9 ⟨t,rfl,hct,h3⟩
    refine⟨h3,_,rfl,λh4=>?_,λh4=>?_⟩
    ·simp only[aFP]at h4
     have apY:0<=i.bh/\i.bh<(dv im.aI).length:=by
      rcases hct with⟨j',d',h5,h6,h7,h8⟩|⟨h5,_⟩
      ·have:=Tj im.aI (show j'+1<=im.aI.length from ap h6);rw[qu h6,lY im.aI _ (aFR _)]at this;omega
      ·omega
     refine(En (br.ext h3 hI.aI) ht _).ay (xg.trans h3) hl ?_
     rintro _ cK ⟨s,rfl,hs,h5⟩
     have kQ:=hs.len
     refine⟨h5,_,rfl,λh6=>?_,λh6=>?_⟩
     ·simp only[aFZ]at h6
      refine(aJ _ _ _ _).ay ((xg.trans h3).trans h5) hl λb dm hb h7 h8=>⟨_,rfl,ez ?_ (lM.trans h8)⟩
      rw[hb]
      exact⟨λhh=>⟨apY,ab,hh⟩,λhh=>hh.2.2⟩
     ·simp only[aFU]at h6
      exact bC (λhh=>h6 ab) ((tD.trans h3).trans h5)
    ·simp only[aFQ]at h4
     refine bC (λhh=>?_) (tD.trans h3)
     rcases hct with⟨j',d',h5,h6,h7,h8⟩|⟨_,h5⟩
     ·omega
     ·exact h5 hh.1
   simp only[aFU]at e3
   refine⟨λe4=>?_,λe4=>?_⟩
   ·simp only[aGe,aFZ]at e4
    have eo:kj im q k i<->tZ im i.bh (i.args.length+0):=by rw[kj,aFS e0,aFS e1,aFS e2,aFS e3,aFW e4];rfl
    rw[eo]
    have wg:=ua hI i.bh i.args.length 0 ab ab
    rw[jK]
    refine wg.ay xg hl λb m9 hb h3 h4=>⟨_,rfl,ez hb (lM.trans h4)⟩
   simp only[aF9,aFU]at e4
   replace e4:¬(i.op=9\/i.op=24):=ab
   refine⟨λe5=>?_,λe5=>?_⟩
   ·simp only[aFZ]at e5
    have eo:kj im q k i<->tZ im i.bh (i.args.length+1)/\∀q,im.bJ[i.bh.toNat]? =some q->q.bX.length=0:=by rw[kj,aFS e0,aFS e1,aFS e2,aFS e3,aFS e4,aFW e5]
    rw[eo]
    have wg:=ua hI i.bh i.args.length 1 ab ab
    rw[jK]
    refine wg.ay xg hl λb m9 hb h3 h4=>⟨_,rfl,λh5=>?_,λh5=>bC (λhh=>fb hb h5 hh.1) (lM.trans h4)⟩
    have h5:=hb.1 h5
    obtain⟨q',h6,h7,h8⟩:=h5
    obtain⟨a',b',c',FH,jx,uI,f0,f1,f2,f3,f4⟩:=(eV.ext h3 hI.bJ).aE h7
    have:=hI.bJ.len
    have:=ap h7
    refine⟨ab,ab,b',f1,ez ?_ (lM.trans h4)⟩
    have Ln:=jx.len
    simp only[aFZ]
    refine⟨λhh=>⟨⟨q',h6,h7,h8⟩,λq'' h9=>?_⟩,λhh=>?_⟩
    ·rw[h7]at h9;simp at h9;subst h9;omega
    ·have:=hh.2 q' h7;omega
   simp only[aFU]at e5
   refine⟨λe6=>?_,λe6=>?_⟩
   ·simp only[aGe,aFZ]at e6
    have eo:kj im q k i<->(1<=i.args.length/\i.args.length<=4)/\i.bh=0:=by rw[kj,aFS e0,aFS e1,aFS e2,aFS e3,aFS e4,aFS e5,aFW e6]
    rw[eo]
    refine(aJ _ _ _ _).ay xg hl λb m9 hb h3 h4=>⟨_,rfl,λh5=>ez ?_ (lM.trans h4),λh5=>bC ?_ (lM.trans h4)⟩
    ·have h5:=hb.1 h5
     simp only[aFZ];omega
    ·have h5:=fb hb h5;omega
   simp only[aF9,aFU]at e6
   replace e6:¬(i.op=16\/i.op=17):=ab
   refine⟨λe7=>?_,λe7=>?_⟩
   ·simp only[aFZ]at e7
    have eo:kj im q k i<->i.args.length=1/\0<=i.bh/\i.bh<=2:=by rw[kj,aFS e0,aFS e1,aFS e2,aFS e3,aFS e4,aFS e5,aFS e6,aFW e7]
    rw[eo]
    refine⟨λh2=>?_,λh2=>?_⟩
    ·simp only[aFZ]at h2
     refine(aJ _ _ _ _).ay xg hl λb m9 hb h3 h4=>⟨_,rfl,ez ?_ (lM.trans h4)⟩
     rw[hb];omega
    ·simp only[aFU]at h2
     exact bC ab tD
   simp only[aFU]at e7
   have ek:bS ((k:Int)+1)=(k:Int)+1:=aF ab ab
   have ec:bS ((c.len:Int) -1)=(q.bP.length:Int) -1:=by rw[aF ab ab,pt]
   rw[ek,ec]
   refine⟨λe8=>?_,λe8=>?_⟩
   ·simp only[aFZ]at e8
    have eo:kj im q k i<->i.args.length=1/\(k:Int)+1<=i.bh/\i.bh<=(q.bP.length:Int) -1:=by rw[kj,aFS e0,aFS e1,aFS e2,aFS e3,aFS e4,aFS e5,aFS e6,aFS e7,aFW e8]
    rw[eo]
    refine⟨λh2=>?_,λh2=>?_⟩
    ·simp only[aFZ]at h2
     refine(aJ _ _ _ _).ay xg hl λb m9 hb h3 h4=>⟨_,rfl,ez ?_ (lM.trans h4)⟩
     rw[hb];omega
    ·simp only[aFU]at h2
     exact bC ab tD
   simp only[aFU]at e8
   refine⟨λe9=>?_,λe9=>?_⟩
   ·simp only[aFZ]at e9
    have eo:kj im q k i<->i.args.length=0/\(k:Int)+1<=i.bh/\i.bh<=(q.bP.length:Int) -1:=by rw[kj,aFS e0,aFS e1,aFS e2,aFS e3,aFS e4,aFS e5,aFS e6,aFS e7,aFS e8,aFW e9]
    rw[eo]
    refine⟨λh2=>?_,λh2=>?_⟩
    ·simp only[aFZ]at h2
     refine(aJ _ _ _ _).ay xg hl λb m9 hb h3 h4=>⟨_,rfl,ez ?_ (lM.trans h4)⟩
     rw[hb];omega
    ·simp only[aFU]at h2
     exact bC ab tD
   simp only[aFU]at e9
   refine⟨λtE=>?_,λtE=>?_⟩
   ·simp only[aFZ]at tE
    have eo:kj im q k i<->i.args.length=1/\0<(bB im.aI i.bh).length/\Oj i.cW (bB im.aI i.bh).length k q.bP.length:=by rw[kj,aFS e0,aFS e1,aFS e2,aFS e3,aFS e4,aFS e5,aFS e6,aFS e7,aFS e8,aFS e9,aFW tE]
    rw[eo]
    refine(yM hI.aI ht _).ay xg hl ?_
    rintro _ m9 ⟨s,rfl,hs,h3⟩
    have kQ:=hs.len
    refine⟨h3,_,rfl,λh4=>?_,λh4=>?_⟩
    ·simp only[aFZ]at h4
     refine⟨λh5=>?_,λh5=>?_⟩
     ·simp only[aFP]at h5
      rw[kQ,pt]
      refine(CH (hj.ext (akn.trans (xg.trans h3))) _ _ _ ab ab).ay (xg.trans h3) hl λb cK hb h6 h7=>⟨_,rfl,ez ?_ (lM.trans h7)⟩
      rw[hb]
      exact⟨λhh=>⟨ab,ab,hh⟩,λhh=>hh.2.2⟩
     ·simp only[aFQ]at h5
      exact bC (λhh=>ab) (tD.trans h3)
    ·simp only[aFU]at h4
     exact bC (λhh=>ab) (tD.trans h3)
   ·simp only[aFU]at tE
    have eo:kj im q k i<->False:=by rw[kj,aFS e0,aFS e1,aFS e2,aFS e3,aFS e4,aFS e5,aFS e6,aFS e7,aFS e8,aFS e9,aFS tE]
    rw[eo]
    exact bC (λhh=>hh) tD
end Go.Proofs.YtakpkjhmbbfniaaGreat
