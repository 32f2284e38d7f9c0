/- Part of a proof. -/
import Derived.Carry
import Derived.ChangeSame
import Derived.ChangeSlices
import Derived.Deep.Slices
import Derived.OpenShut
import Derived.RowKit
import Derived.WideShapes
import Derived.Test.YtbbbdejieenniaaGreatRB00
import Derived.Test.YtbbbdejieenniaaGreatRB02
import Derived.Test.YtbbbdejieenniaaGreatRB04
set_option linter.all false
set_option maxHeartbeats 8000000
set_option maxRecDepth 100000
namespace Go.Proofs.YtbbbdejieenniaaGreat
open Go.Vc
section
variable{P mN:aj}{c:bS}{b:dS}
def ad9(a:cO)(rZ:Nat->Nat->Option Kn)(h:ah)(d:aj)(f:bS):Prop:=∃k,rZ f.fN.toNat f.pc.toNat=some k/\FW a h d f k
def Sus(a:cO)(rZ:Nat->Nat->Option Kn)(h:ah)(d:aj)(f g:bS):Prop:=∃k,FW a h d f k/\(k.r g.bA).bF<=0/\
 ∃b,rZ f.fN.toNat f.pc.toNat=some b/\vZ (k.eE g.bA (dE a g.fN).bP (KT (dE a g.fN).bP)) b
variable{a:cO}{s t:St}{rZ:Nat->Nat->Option Kn}{h e:ah}{d:aj}{f g:bS}
def OL.of(j:eJ a s):∀g∈s.bo,OL s.aR g:=λg o i n u=>by
 have H:=j.bo g o;have r:i<g.bF.length:=by
  grind [Int.lt_or_le,List.length,br,List.getElem?_eq_none]
 have w:=H.lr;have x:=H.lo;have k:=jJ n r;have m:=jJ (l:=g.aU) n V;have p:=(H.bF _ _ _ k m).2 u;refine⟨p,j.aR.lv _ ?_⟩;have e:=Qu H.NV m k (nK p).symm;have:∀(b:aj),g∈b->(∀q∈b,gB a q)->br g.bF i<=oO b (ix (br g.aU i)):=λb=>by
  induction b with
  |nil=>intro h;simp at h
  |cons q b v=>
   intro t f;have y:=AM (aU:=q.aU) (f q cQ).NV (ix (br g.aU i));have z:=KW (λc d=>f c (aX _ d)) (ix (br g.aU i));simp only[oO];rcases aZ.1 t with e|e
   .subst e;omega
   .have:=v e λc d=>f c (aX _ d);omega
 have:=this _ o j.bo;omega
def VO(t:VS a rZ s)(J:s.bo=P++c::mN)(p:∀g∈P,OL s.aR g)(r:∀g∈P,OL e g)(y:FC s.aR)(z:FC e)(H:ZB s.aR e)(hd:g.bA=c.bA)(K:(dE a g.fN).bP=(dE a c.fN).bP)
 (l:aj){j:Nat}{b f:bS}(n:(P++g::l)[j]? =some b)(I:(P++g::l)[j+1]? =some f)(A:j<P.length):Sus a rZ e ((P++g::l).take j) b f:=by
 rw[dZ A]at n
 have k:∀q∈P.take j,q∈P:=by grind [List.mem_of_mem_take]
 have o:=ba n
 have G:∃d,s.bo[j+1]? =some d/\f.bA=d.bA/\(dE a f.fN).bP=(dE a d.fN).bP:=by
  grind [Nat.lt_or_ge,List.length,List.getElem?_append_left,List.getElem?_append_right]
 let⟨d,v,i,u⟩:=G
 have w:s.bo.take j=(P++g::l).take j:=cC
 have m:(P++g::l).take j=P.take j:=rI V
 let⟨D,F,B,E,x,C⟩:=t.sus j b d cC v
 rw[w]at F
 refine⟨D,F.pW (λq h=>p q (k q (m▸h))) (p b o) y (λq h=>r q (k q (m▸h))) (r b o) z H,by rw[i];exact B,E,x,by rw[i,u];exact C⟩
def Vh(V:VS a rZ s){l:aj}(b:s.bo=P++c::mN)(e:(dE a g.fN).bP=(dE a c.fN).bP)(f:t.bo=P++g::l):∀q,t.bo[0]? =some q->(dE a q.fN).bP=0:=λq d=>by
 grind [VS.first]
def VS.of1(V:VS a rZ s)(j:s.bo=P++c::mN)(q:∀g∈P,OL s.aR g)(r:∀g∈P,OL t.aR g)(n:FC s.aR)(o:FC t.aR)(u:ZB s.aR t.aR)(hd:g.bA=c.bA)(k:(dE a g.fN).bP=(dE a c.fN).bP)
 (b:t.bo=P++[g])(p:HT a t.aR)(T:ad9 a rZ t.aR P g):VS a rZ t:=by
 refine⟨p,Vh V j k b,λd f e=>?_,λx v w h i=>?_⟩
 .rw[b]at e
  let⟨l,m⟩:=List.append_inj' e O
  cases m;subst l;exact T
 .rw[b]at h i⊢
  exact VO V j q r n o u hd k [] h i cC
def VS.of2{n:bS}(j:VS a rZ s)(k:s.bo=P++[c])(v:∀g∈P,OL s.aR g)(w:∀g∈P,OL t.aR g)(q:FC s.aR)(r:FC t.aR)(x:ZB s.aR t.aR)(hd:g.bA=c.bA)(l:(dE a g.fN).bP=(dE a c.fN).bP)
 (i:t.bo=P++[g,n])(u:HT a t.aR)(S:Sus a rZ t.aR P g n)(T:ad9 a rZ t.aR (P++[g]) n):VS a rZ t:=by
 refine⟨u,Vh j k l i,λd f e=>?_,λm y z h b=>?_⟩
 .rw[i,show P++[g,n]=(P++[g])++[n]by simp]at e
  let⟨o,p⟩:=List.append_inj' e O
  cases p;subst o;exact T
 .rw[i]at h b⊢
  rcases eH m P.length with e|e
  .exact VO j k v w q r x hd l [n] h b e
  .have o:=bC b
   simp at o
   have:m=P.length:=V
   subst this
   simp at h b
   subst h;subst b
   rw[show(P++[g,n]).take P.length=P by simp];exact S
def EW(cW:ab):∀(a:ab)(k i:Nat)(w:Int),a[i]? =some w->(fK cW k a)[i]? =some (if cW.any (λy=>y==((k+i:Nat):Int))then 0 else ig w)
 |[],_,_,_,h=>by simp at h
 |v::a,k,0,w,h=>by simp at h;subst h;rfl
 |v::a,k,i+1,w,h=>by
  rw[fK,kd,EW cW a (k+1) i w cC,show k+1+i=k+(i+1)by omega]
def aeA(c:(b.aY.length:Int)<=b.aU){i:Int}(a:0<=i):(Pc b).r i=if i<b.aY.length then⟨br b.aY i,if br b.aY i≠0/\i∉b.cW then 1 else 0,decide (i∈b.cW),-1,-1,-1⟩else yM:=by
 grind [Kn.r,Pc,Nat.lt_or_ge,List.getElem?_range,List.length,List.getElem?_eq_none]
def FW.bI{n l:Int}{j:ab}(r:dE a n=b)(v:(b.aY.length:Int)<=b.aU)(k:j.length=b.aY.length)(x:∀t∈b.aY,0<=t)(y:∀(c:Nat)(w t:Int),j[c]? =some w->b.aY[c]? =some t->ZC a h w t)(z:∀c:Int,c∈b.cW->0<=c->c<j.length->Wq h d (br j c)):FW a h d (ct a n l j) (Pc b):=by
 have R:=λc e=>aeA (b:=b) v (i:=c) e;have m:∀c,0<=c->br (ct a n l j).aU c=if c<j.length then br j c else 0:=λc e=>by
  grind [ct,br,List.getElem?_append_left,List.getElem?_append_right,eU,dE,List.length,pQ,ba]
 have u:∀c,0<=c->br (ct a n l j).bF c=if c<j.length then(if c∈b.cW then 0 else ig (br j c))else 0:=λc e=>by
  simp only[ct,br,fG];split
  .rename_i f;let⟨w,g⟩:=dY j c.toNat;rw[dZ (by rw[mh];omega),EW _ _ _ _ _ g,g,r];grind [List.any_eq_true]
  .grind [List.getElem?_append_right,mh,eU,dE,List.length,fK,pQ,ba]
 have W:∀c:Int,0<=c->c<b.aY.length->ZC a h (br j c) (br b.aY c):=λc e g=>y c.toNat _ _ (jJ e V) (jJ e g);have s:∀c,0<=c->((Pc b).r c).fr= -1:=λc e=>by rw[R c e];split<;>rfl
 have nc:∀c,0<=c->((Pc b).r c).lF= -1:=λc e=>by rw[R c e];split<;>rfl
 refine⟨by simp[Pc,ct,eU,r];omega,λc e=>?_,λc e f=>?_,λc e f=>?_,λc e _ f=>?_,λc e f=>absurd (nc c e) V,λc e _ f=>absurd (nc c e) V,λc e f=>absurd (s c e) V,λc e f=>absurd (s c e) V,λc e f=>?_,λc e _=>?_,by simp[Pc]⟩
 .rw[R c e,u c e,k];split
  .rename_i g;have w:=W c e g;have A:=UQ x c;simp only;by_cases q:c∈b.cW
   .grind
   .rw[aV q];by_cases o:br b.aY c=0
    .rw[aV λh=>h.1 o];have:=w.1 o;unfold ig;rw[aV V]
    .rw[a8 ⟨o,q⟩];have:=(w.2 V).1.1;unfold ig;rw[a8 this]
  .rfl
 .rw[m c e,k];rw[R c e]at f;split at f
  .rename_i g;rw[a8 g];exact(W c e g).1 f
  grind
 .rw[m c e,k];rw[R c e]at f;split at f
  .rename_i g;rw[a8 g];exact((W c e g).2 f).1.1
  .simp[yM]at f
 .rw[m c e,k];rw[R c e]at f⊢;split at f
  .rename_i g;rw[a8 g,a8 g];exact((W c e g).2 f).2
  .simp[yM]at f
 .grind [yM]
 .grind [ct,br,eU,dE,pQ,ba]
end
section
variable{d g c e i:Int}{l:ab}{k:Kn}
def OL.afl{h:ah}{g:bS}{w o:Int}(hd:0<=d/\d<g.aU.length/\d<g.bF.length)(e:br g.bF d<=0)(H:OL h (g.cE d w o)):OL h g:=λi a c=>by
 have b:i≠d:=cC;have:=H i a (by simp only[bS.cE];rw[ng hd.1 hd.2.2 i a,aV b];exact c);grind [bS.cE,ng]
theorem OL.iQ{h:ah}{f:bS}{bF:ab}(H:OL h f)(b:∀i,0<=i->br bF i<=br f.bF i):OL h {f with bF:=bF}:=λi a c=>H i a cC
def Va{a:af}(h:eT a)(c:Int):∀u∈da a c,An a.length u:=by
 unfold da;split
 .cases g:(gU a)[c.toNat]? with
  |none=>simp
  |some f=>
   have e:=ba g;unfold gU at e;let⟨d,hd,b⟩:=List.mem_flatMap.1 e;let⟨k,i⟩:=db.1 hd;have:=(h.eR k d i).iY (adW b);exact(this.2.2.2 f b).2
 .simp
def U8{a:af}{c:Int}{i:Nat}(h:(da a c)[i]? =some g):0<=c/\c<(gU a).length:=by
 grind [da,gU,bC]
def WG{a:af}(h:eT a)(b:rV a g c e):1<=g/\An a.length c/\An a.length e:=by
 let⟨d,j,f,i,k,l⟩:=b;have:=(h.eR _ d f).Qp (by simp[i]);grind
def adB{a:af}{b q:Int}(f:rV a g c e)(h:rV a g b q):c=b/\e=q:=by
 obtain⟨d,-,l,-,m,n⟩:=f;obtain⟨i,-,g2,-,j,k⟩:=h;grind
variable{b:cO}{s:St}{rZ:Nat->Nat->Option Kn}{h:ah}{j:aj}{f:bS}{x:Instr}{p:dS}
def aaN(d:ny b.bR b.cU){j cG:Int}(H:gD b j cG l g):(∀u∈l,0<=u)/\0<=g:=by
 have T:=d.dj;have E:=λq i(h:b.cU[i]? =some q)=>d.eR q (ba h);have F:=λu f=>(Va T cG u f).1;have G:cG∈cY b.bR g->1<=g:=λh=>(IY h).1;have A:=λg c e h=>WG (g:=g) (c:=c) (e:=e) T h;unfold gD at H;unfold Ij An at*;grind
def YK(a:ny b.bR b.cU)(c:p∈b.cU)(H:uP b p x l g):∀u∈l,0<=u:=by
 have:=(a.eR p c).2.2;have S:=λd g h=>(aaN a (j:=d) (cG:=x.cG) (g:=g) (l:=l) h).1;unfold uP at H;unfold An at this;grind
def Yr:∀(l:ab)(k:Nat),∀e∈l,e∈je b x k l\/e∈fx b x k l
 |[],_,e,h=>by simp at h
 |y::l,k,e,h=>by
  simp only[je,fx];rcases aZ.1 h with a|h
  .grind [List.mem_cons_self]
  .rcases Yr l (k+1) e h with a|a
   .grind [List.mem_cons_of_mem]
   grind [List.mem_cons_of_mem]
def FW.rtd(F:FW b h j f k)(c:rE k i)(a:0<=i)(g:1000<=br f.aU i):Wq h (j++[f]) (br f.aU i):=by
 induction c with
 |wY e=>
  rcases e with e|e
  .grind [Wq.bF,FW.bF]
  .exact(F.cW _ a e).aP λl d=>dO _ d
 |qC e c d=>exact .Ez (d e (F.Hc _ a e)) (ba (F.qC _ a e c)) (F.Hc _ a e) g
def FW.afY(F:FW b h j f k)(g:∀i,0<=i->(k.r i).bF<=0)(c:rE k i)(a:0<=i)(d:1000<=br f.aU i):Wq h j (br f.aU i):=by
 induction c with
 |wY e=>
  rcases e with e|e
  .have:=g _ a;omega
  .exact F.cW _ a e
 |qC e c l=>exact .Ez (l e (F.Hc _ a e)) (ba (F.qC _ a e c)) (F.Hc _ a e) d
def FW.wty(F:FW b h j f k)(l:∀g∈j,OL h g)(g:OL h f)(e:FC h)(a:0<=i)(d:0<(k.r i).lP->rE k i):ZC b h (br f.aU i) (k.r i).lP:=
 ⟨F.qt i a,λc=>⟨F.iR l g e (d c) a (F.TY i a c),F.jH i a (d c) c⟩⟩
def abn(hd:0<=d){e:tE}:(tF d e).fr≠d:=by
 grind [tF]
end
section
variable{j:ab}{b:Nat}
def Mr{d:cO}{c:Instr}:∀{j:ab}{a b:Nat}{r:Int},j[b]? =some r->jv d c (a+b)=true->r∈fx d c a j
 |[],_,_,_,h,_=>by simp at h
 |y::j,a,0,r,h,e=>by simp at h;subst h;simp only[fx];rw[a8 cC];exact cQ
 |y::j,a,b+1,r,h,e=>by
  have f:=Mr (d:=d) (c:=c) (j:=j) (a:=a+1) (b:=b) (sp h) cC;grind [fx,List.mem_cons_of_mem]
def aa0{c:bS}{w:Int}(h:(dR c j)[b]? =some w):∃r,j[b]? =some r/\w=br c.aU r:=by
 grind [dR]
def CK{k:Kn}{r:Int}(h:j[b]? =some r):(qB k j)[b]? =some (k.r r).lP:=by grind [qB]
def IW{a b v:Int}(h:a.toNat≠b.toNat):br (iv j a v) b=br j b:=by simp[br,iv,jf h]
variable{d:cO}{s e:St}{rZ:Nat->Nat->Option Kn}{h:aj}{c:bS}
def Xn(fl:∀(aa:Nat)(ac:dS),d.cU[aa]? =some ac->sK d ac (rZ aa))(N:eJ d s)(hf:s.bo=h++[c])(J:VS d rZ s)
 (hM:iN d s c (bK d c) (bZ c.aU c.bF (cq d (bK d c))))(y:e=dI d s h c (bK d c) (bZ c.aU c.bF (cq d (bK d c))))(bf:eJ d e):VS d rZ e:=by
 have hF:gB d c:=N.bo c (by rw[hf];simp)
 let⟨ac,hp,aQ,hP,a6,hI⟩:=hF.AJ N.iu
 let⟨u,hb,F⟩:=J.jA h c hf
 have TA:=fl _ ac hp
 generalize bK d c=x at*
 have lr:=hF.lr;have lo:=hF.lo;have lh:=hF.lh
 rw[aQ]at lr lo lh
 have Z:∀r∈x.aO,0<=r/\r<u.aU.length/\r<c.bF.length:=λr v=>by have:=hI.aO r v;rw[F.aT];omega
 have aE:∀r∈cq d x,0<=r/\r<u.aU.length/\r<c.bF.length:=λr v=>Z r (ry v)
 have bm:=hI.bA
 have ar:=Kf (aU:=c.aU) (cq d x) c.bF λr v=>⟨(aE r v).1,(aE r v).2.2⟩
 have au:=mz c.aU (cq d x) c.bF
 have T1:=LQ (aU:=c.aU) (cq d x) u c.bF F.bF aE
 have a_:=hM.nn
 have aw:=hM.bA
 have nil:cq d x=[]->bZ c.aU c.bF (cq d x)=c.bF:=λm=>by rw[m];rfl
 generalize ax:bZ c.aU c.bF (cq d x)=bF at*
 have ol:=OL.of N
 have aH:OL s.aR c:=ol c (by rw[hf];simp)
 have ag:∀I∈h,OL s.aR I:=λI R=>ol I (by rw[hf];exact dO _ R)
 have hc:FC s.aR:=FC.of N.aR
 have T:FC e.aR:=FC.of bf.aR
 have az:=OL.of bf
 have bx:=hF.pc
 have F1:(∀r∈cq d x,0<=(u.r r).lP)->FW d s.aR h {c with bF:=bF} (fP u (cq d x))/\(∀b,0<=b->(fP u (cq d x)).r b={u.r b with bF:=br bF b}):=λht=>by
  have ak:=T1 λr v=>by
   have q:=(aE r v).1;rcases DY 0 (u.r r).lP with m|m
   .exact bH ⟨V,F.TY r q m⟩
   .have:=ht r v;exact bz ⟨V,F.qt r q V⟩
  refine⟨F.pd ak ⟨xA _ _,pC _ _⟩ λb q m=>.wY (bz ?_),ak⟩;rw[F.bF b q];have:=(ar b q).1;omega
 have al:∀{j:aj},e.bo=h++j->∀E∈h,OL e.aR E:=λR E Q=>az E (by rw[R];exact dO _ Q)
 have bg:∀{I:bS},e.bo=h++[I]->OL e.aR I:=λR=>az _ (by rw[R];simp)
 have mv:∀{I:bS}{kk:Kn}{aa:Int},FW d s.aR h I kk->ZB s.aR e.aR->OL s.aR I->e.bo=h++[{I with pc:=aa}]->FW d e.aR h {I with pc:=aa} kk:=λG st o1 R=>(G.pW ag o1 hc (al R) (λb q m=>bg R b q m) T st).pc
 have aA:∀{I:bS}{kk:Kn}{H Y ay:Int},FW d s.aR h I kk->I.aU=c.aU->I.bF.length=c.bF.length->OL s.aR I->br I.bF x.bA<=0->e.bo=h++[I.cE x.bA H ay]->ZB s.aR e.aR->(Y=0->H<1000)->(0<Y->1000<=H)->(0<ay->0<Y->Im d (bu e.aR H).jH Y)->FW d e.aR h (I.cE x.bA H ay) (kk.eE x.bA Y ay):=λ{I kk H Y ay} G er eo o1 q R st t0 t1 tt=>by
  have hd:0<=x.bA/\x.bA<I.aU.length/\x.bA<I.bF.length:=by rw[er,eo];omega
  exact(G.pW ag o1 hc (al R) (OL.afl hd q (bg R)) T st).cE hd t0 t1 tt
 have P:=hI.op
 have ap:x.op≠21->∃k',vX d ac u x k'/\∀aa∈tI x c.pc.toNat,∃S,rZ c.fN.toNat aa.toNat=some S/\vZ k' S:=TA.kD _ x u a6 hb
 have jX:∀{I:bS}{k':Kn}{aa:Int},(∀z∈tI x c.pc.toNat,∃S,rZ c.fN.toNat z.toNat=some S/\vZ k' S)->aa∈tI x c.pc.toNat->e.bo=h++[I]->I.bA=c.bA->I.fN=c.fN->I.pc=aa->ZB s.aR e.aR->HT d e.aR->FW d e.aR h I k'->VS d rZ e:=λL hm R hd bc m st hh G=>by
  let⟨S,D,C⟩:=L _ hm;exact J.of1 hf ag (al R) hc T st hd (by rw[bc]) R hh ⟨S,by rw[m,bc];exact D,G.XH C⟩
 have en:(((c.pc.toNat:Nat):Int)+1)=c.pc+1:=V
 have nx:¬(20<=x.op/\x.op<=24)->c.pc+1∈tI x c.pc.toNat:=λae=>by
  simp(disch:=omega) only[tI,aV,en];simp
 have ao:OL s.aR {c with bF:=bF}:=aH.iQ λb q=>(ar b q).1
 have am:1<=x.aO.length->br x.aO 0∈x.aO:=λD=>gZ V V
 unfold kQ at P
 by_cases a5:x.op=22
 .let⟨k',z,L⟩:=ap V
  simp[vX,dI,cq,bZ,a5]at z y ax
  subst y z ax
  exact jX L (aa:=x.cG) (by simp[tI,a5]) O O O O (λ_ _ _=>⟨O,O⟩) J.aR F.pc
 by_cases a2:x.op=14
 .let⟨k',z,L⟩:=ap V
  simp[vX,dI,cq,bZ,a2]at z y ax P
  obtain⟨D,C,rfl⟩:=z
  have K:=Z _ (am V)
  let⟨U,A⟩:=hM.WQ a2
  generalize br x.aO 0=B at*
  subst y ax
  have W:yX s.aR (pU s.aR (br c.aU B)):=yX.at1 U λ_=>⟨O,O⟩
  refine jX L (nx V) O O O O W.Uh (J.aR.pW W T) ?_
  have G:FW d s.aR h {c with bF:=iv c.bF B (br c.bF B+1)} (u.iA B 1):=F.pd (λb q=>by
   grind [yY,ng,FW.bF]) ⟨rl,O⟩ λb q m=>by
    grind [ng,FW.bF,rE]
  refine mv G W.Uh (λb q m=>?_) O
  simp only at m⊢
  rw[ng K.1 K.2.2 b q]at m
  split at m
  .rename_i M;rw[M];exact U
  .exact aH b q m
 by_cases a3:x.op=15
 .let⟨k',z,L⟩:=ap V
  simp[vX,dI,a3]at z y P
  obtain⟨D,rfl⟩:=z
  let⟨ad,A⟩:=yy.1 P.1
  have et:cq d x=[ad]:=by simp[cq,a3,A]
  rw[et]at F1
  simp[A,fP,br]at D F1 y L
  rw[aV V]at F1
  subst y
  let⟨G,ak⟩:=F1 V
  have W:=(yX.ju _ s.aR [br c.aU ad] bY).N yX.oY
  exact jX L (nx V) O O O O W.Uh (J.aR.pW W T) (mv G W.Uh ao O)
 by_cases bk:x.op=16\/x.op=17
 .let⟨k',z,L⟩:=ap V
  simp(disch:=omega) only[vX,dI,aV,a8]at z y P
  obtain⟨D,C,aa,bn,rfl⟩:=z
  have K:=Z _ (am P.1.1)
  have et:cq d x=[br x.aO 0]:=by
   simp(disch:=omega) only[cq,aV,a8,VX P.1.1]
  have an:=hM.AL bk
  unfold GJ at an
  obtain⟨U,aC,-,aD⟩:=an
  have X:∀r∈x.aO.drop 1,r∈x.aO:=λr v=>uF v
  generalize br x.aO 0=B at*
  generalize x.aO.drop 1=mN at*
  have aB:bF=iv c.bF B (br c.bF B -1):=by rw[<-ax,et];simp only[bZ,a8 U.1]
  have ka:∀b,0<=b->((u.iA B (-1)).r b)={u.r b with bF:=br bF b}:=λb q=>by
   rw[yY ⟨K.1,K.2.1⟩ q,aB,ng K.1 K.2.2 b q,F.bF b q];by_cases m:b=B
   .rw[a8 m,a8 m,m];rfl
   .rw[aV m,aV m,Int.add_zero]
  have kb:∀b,0<=b->((jC (u.iA B (-1)) mN).r b)={u.r b with bF:=br (fj bF mN) b}:=λb q=>by
   rw[UH mN (u.iA B (-1)) bF (λb q=>by rw[ka b q]) (λr v=>by rw[rl,au];exact Z r (X r v)) b q,ka b q]
  have av:rE u B:=.wY (bz D)
  have ai:∀b,0<=b->b∉mN->br (fj bF mN) b=br bF b:=λb q hm=>PA q mN bF λad A=>⟨(Z ad (X ad A)).1,by rw[au];exact(Z ad (X ad A)).2.2,λm=>hm (m▸A)⟩
  have G:FW d s.aR h {c with bF:=fj bF mN} (jC (u.iA B (-1)) mN):=F.pd kb ⟨by rw[Pv,rl],by rw[vB];rfl⟩ λb q m=>by
   by_cases hm:b∈mN
   .exact .qC (by rw[C b hm];exact K.1) (by rw[C b hm];exact av)
   .rw[ai b q hm]at m;exact .wY (bz (by rw[F.bF b q];have:=(ar b q).1;omega))
  have aq:OL s.aR {c with bF:=fj bF mN}:=λb q m=>by
   by_cases hm:b∈mN
   .have hw:br c.aU b∈dR c mN:=fA.2 ⟨b,hm,O⟩;rw[<-aC]at hw;let⟨m1,m2⟩:=nU.1 hw;exact hc _ U _ m1 m2
   .simp only[ai b q hm]at m;exact ao b q m
  have W:yX s.aR e.aR:=by
   rw[y];split
   .exact yX.at1 U λae=>by simp at ae
   .exact yX.iK N.aR U
  have z:∀b,0<=b->br (if x.op=17 then iv u.eM B aa else u.eM) b<0->br u.eM b<0/\(x.op=17->b≠B):=λb q m=>by
   split at m
   .rename_i af;have L:b≠B:=λM=>by
     subst M;rcases eH b.toNat u.eM.length with aJ|aJ
     .rw[abF ⟨q,V⟩]at m;omega
     .unfold br iv at m;rw[fG,lp (sp aJ)]at m;simp at m
    rw[IW V]at m;exact⟨m,λ_=>L⟩
   .exact⟨m,λae=>absurd ae (by assumption)⟩
  have af:=nx V
  by_cases hh:(bu s.aR (br c.aU B)).bX=1/\x.op=17
  .rw[a8 hh]at y
   subst y
   exact jX L af O O O O W.Uh (J.aR.pW W T) (mv (G.cL (by rw[vB];split<;>simp[jE,Kn.iA,Kn.tG]) λb q m=>by
    let⟨M,d2⟩:=z b q m;exact(ng K.1 V b q).trans ((aV (d2 hh.2)).trans (F.kp b q M))) W.Uh aq O)
  .rw[aV hh]at y
   subst y
   exact jX L af O O O O W.Uh (J.aR.pW W T) (mv (G.cL (by rw[vB];split<;>simp[jE,Kn.iA,Kn.tG]) λb q m=>F.kp b q (z b q m).1) W.Uh aq O)
 by_cases bt:x.op=18
 .let⟨k',z,L⟩:=ap V
  simp(disch:=omega) only[vX,dI,aV,a8]at z y P
  obtain⟨D,-,C,rfl⟩:=z
  have K:=Z _ (am V)
  have et:cq d x=[br x.aO 0]:=by
   simp(disch:=omega) only[cq,a8];let⟨ad,A⟩:=yy.1 P.1;rw[A];rfl
  let⟨G,ak⟩:=F1 λr v=>by rw[et]at v;simp at v;rw[v];exact D
  subst y
  have X:kT x.op:=by unfold kT;omega
  have M:ig (br c.aU (br x.aO 0))=KT (u.r (br x.aO 0)).lP:=by
   unfold ig KT;rcases DY 0 (u.r (br x.aO 0)).lP with m|m
   .rw[a8 m,a8 (F.TY _ K.1 m)]
   .have:=F.qt _ K.1 (show(u.r (br x.aO 0)).lP=0 by omega);rw[aV V,aV V]
  refine jX L (nx V) O O O O (λ_ _ _=>⟨O,O⟩) J.aR ?_
  rw[<-et,M]
  refine aA G.pc O au ao (aw X) (by rw[M]) (λ_ _ _=>⟨O,O⟩) (F.qt _ K.1) (F.TY _ K.1) λ_ ht=>F.jH _ K.1 (.wY (bz ?_)) ht
  rw[F.bF _ K.1]
  have:=(ar _ K.1).2 (by rw[et];simp) (F.TY _ K.1 ht)
  have:=UQ a_ (br x.aO 0);omega
 by_cases a4:x.op=19
 .let⟨k',z,L⟩:=ap V
  simp(disch:=omega) only[vX,dI,aV,a8]at z y P
  obtain⟨D,C,Y,h3,h4,rfl⟩:=z
  have K:=Z _ (am V)
  have eo:=nil (by simp[cq,a4])
  let⟨U,aP⟩:=hM.pV a4
  generalize br x.aO 0=B at*
  subst y
  have X:kT x.op:=by unfold kT;omega
  have aq:=jJ P.2.1 aP
  have ai:=F.lF _ K.1 D C
  have av:=U8 h3
  have hw:ZC d s.aR (br (bu s.aR (br c.aU B)).bV x.cG) Y:=J.aR _ U _ _ _ aq (by
   unfold FTy;rw[ai,a8 (by unfold cT;omega)];exact h3)
  have af:=nx V
  refine jX L af O O O O (λ_ _ _=>⟨O,O⟩) J.aR ?_
  subst eo
  have an:=aA (I:={c with pc:=c.pc+1}) (H:=br (bu s.aR (br c.aU B)).bV x.cG) (Y:=Y) (ay:=0) F.pc O O aH (aw X) O (λ_ _ _=>⟨O,O⟩) hw.1 (λht=>(hw.2 ht).1.1) λae=>absurd ae cH
  by_cases A:x.bA=B
  .rw[a8 A];exact an
  .rw[aV A]
   have hd:0<=x.bA/\x.bA<u.aU.length:=by rw[F.aT];omega
   have M:=λb q=>QO (k:=u) (t:=Y) (o:=0) hd (i:=b) q
   have gr:∀b,0<=b->br (bS.cE {c with pc:=c.pc+1} x.bA (br (bu s.aR (br c.aU B)).bV x.cG) 0).aU b=if b=x.bA then br (bu s.aR (br c.aU B)).bV x.cG else br c.aU b:=λb q=>ng bm.1 (by show x.bA<(c.aU.length:Int);omega) b q
   refine an.pV ⟨hd.1,by rw[Cf];exact hd.2⟩ ⟨K.1,λm=>A m.symm⟩ (by rw[M _ hd.1,a8 O];exact⟨O,O⟩) (λb q=>?_) (by rw[M _ hd.1,a8 O];exact(by decide:(-1:Int)<0)) ?_ (λ_ ht=>?_) λ_=>?_
   .rw[M b q];split
    .simp;omega
    .exact abn hd.1
   .rw[gr B K.1,aV λm=>A m.symm];exact U.1
   .rw[M _ hd.1,a8 O]at ht⊢
    rw[gr _ hd.1,a8 O];exact(hw.2 ht).2
   .rw[gr B K.1,aV λm=>A m.symm,gr _ hd.1,a8 O];exact aq
 by_cases aD:x.op=21
 .let⟨D,C,h3⟩:=TA.ta _ x u a6 hb aD
  simp(disch:=omega) only[dI,aV,a8]at y P
  have K:=Z _ (am V)
  have eo:=nil (by simp[cq,aD])
  let⟨U,ai⟩:=hM.ta aD
  generalize br x.aO 0=B at*
  subst y
  let⟨S,b1,b2⟩:=h3 (ua (cY d.bR x.cG) (bu s.aR (br c.aU B)).jH) (bu s.aR (br c.aU B)).jH (by
   have A:ua (cY d.bR x.cG) (bu s.aR (br c.aU B)).jH<(cY d.bR x.cG).length:=mC ⟨_,ai,bO⟩;rw[abZ A];have:=List.findIdx_getElem (xs:=cY d.bR x.cG) (p:=λM=>M==(bu s.aR (br c.aU B)).jH) (w:=A);exact jR some (eq_of_beq this)) (by
   rcases DY (u.r B).lF 0 with m|m
   .exact bz m
   .exact bH (F.lF B K.1 C m).symm)
  refine J.of1 hf ag (al O) hc T (λ_ _ _=>⟨O,O⟩) (by rfl) (by rfl) O J.aR ⟨S,b1,?_⟩
  rw[eo]
  exact((F.arm K.1 U.1 O).XH b2).pc
 let⟨k',z,L⟩:=ap aD
 simp(disch:=omega) only[vX,aV]at z
 obtain⟨Y,A,-,U,z⟩:=z
 have nn:=YK N.iu.kX (ba hp) A
 have aG:∀r∈x.aO,0<=(u.r r).lP:=λr v=>nn _ (fA.2 ⟨r,v,O⟩)
 let⟨G,ak⟩:=F1 λr v=>aG r (ry v)
 have bi:∀{b:Int},rE (fP u (cq d x)) b->0<=b->rE u b:=λB q=>B.of (λb q m=>.wY (bz (by rw[ak b q]at m;simp only at m;rw[F.bF b q];have:=(ar b q).1;omega))) (λb q m=>.wY (bH (by rw[ak b q]at m;exact m))) (λb q _=>by rw[ak b q]) q
 have a1:∀aZ:ab,qB u x.aO=aZ->(∀M∈aZ,M=0)->∀r∈x.aO,(u.r r).lP=0:=λaZ m hz r v=>hz _ (m▸fA.2 ⟨r,v,O⟩)
 have bj:∀r∈x.aO,(u.r r).lP≠0->rE u r:=λr v ht=>by
  have q:=(Z r v).1;have bh:r∈cq d x->rE u r:=λhm=>.wY (bz (by
   rw[F.bF r q];have:=(ar r q).2 hm (F.TY r q (oh (aG r v)));have:=UQ a_ r;omega))
  by_cases bd:x.op=15\/x.op=6\/x.op=10\/x.op=11\/x.op=18\/x.op=23
  .exact bh (by unfold cq;rw[a8 bd];exact v)
  by_cases h9:x.op=9\/x.op=24
  .have et:cq d x=je d x 0 x.aO:=by unfold cq;rw[aV bd,aV V,a8 h9]
   rcases Yr (b:=d) (x:=x) x.aO 0 r v with m|m
   .exact bh (et▸m)
   .exact bi (U h9 r m) q
  exfalso;apply ht;simp(disch:=omega) only[uP,gD,aV]at A;(repeat' split at A)<;>first|exact a1 _ A bO r v|exact a1 _ A.2 bO r v|exact A.elim
 have av:∀r∈x.aO,ZC d s.aR (br c.aU r) (u.r r).lP:=λr v=>F.wty ag aH hc (Z r v).1 λht=>bj r v V
 have aI:∀(b:Nat)(H M:Int),(dR c x.aO)[b]? =some H->(qB u x.aO)[b]? =some M->ZC d s.aR H M:=λb H M D C=>by
  obtain⟨r,v,rfl⟩:=aa0 D;rw[CK v]at C;cases C;exact av r (ba v)
 unfold uP at A
 by_cases aC:x.op=20
 .rw[a8 aC]at A
  simp[dI,aC,kT,cq]at y z
  have eo:=nil (by simp[cq,aC])
  have aO:x.cR=0:=by have:=hI.cR;omega
  rw[a8 aO]at z
  subst y z eo
  refine jX L (aa:=if br c.aU (br x.aO 0)=0 then x.cG else c.pc+1) ?_ O O O O (λ_ _ _=>⟨O,O⟩) J.aR F.pc
  simp(disch:=omega) only[tI,aV,a8,en];split<;>simp
 rw[aV aC]at A
 by_cases aK:x.op=23
 .rw[a8 aK]at A
  rw[a8 (bz aK)]at z
  obtain⟨hz,aN,rfl⟩:=z
  rw[aV V,aV V,a8 V]at P
  have a0:=am V
  have K:=Z _ a0
  have wt:=av _ a0
  have aS:(u.r (br x.aO 0)).lP=ac.bP:=by
   have:=CK (k:=u) (jJ (l:=x.aO) (i:=0) V V);rw[A.1]at this;simpa using this.symm
  simp(disch:=omega) only[dI,aV]at y
  rcases adZ h with m|⟨an,E,m⟩
  .subst m
   simp only[List.getLast?_nil]at y
   subst y
   exact⟨J.aR,λE m=>by simp at m,λB aB m=>by simp at m,λaF B aB m=>by simp at m⟩
  .rw[List.concat_eq_append]at m
   subst m
   simp only[uE,qY,GG,uD]at y
   subst y
   have ai:s.bo=an++E::[c]:=by rw[hf];simp
   let⟨kq,Fq,bp,S,b1,b2⟩:=J.sus an.length E c (by rw[ai];simp) (by rw[ai];simp)
   rw[ai,List.take_left' O]at Fq
   have aq:=N.tX an.length E c (by rw[ai];simp) (by rw[ai];simp)
   have aL:=N.bo E (by rw[ai];simp)
   have aM:ig (br c.aU (br x.aO 0))=KT ac.bP:=by
    unfold ig KT;rcases DY 0 ac.bP with m|m
    .rw[a8 m,a8 (wt.2 V).1.1]
    .have:=nn _ (fA.2 ⟨_,a0,O⟩);have:=wt.1 V;rw[aV V,aV V]
   rw[aQ]at b2
   have aW:=aL.lr;have aT:=aL.lo
   refine J.of1 ai (λI R=>ag I (dO _ R)) (λI R=>az I (dO _ R)) hc T (λ_ _ _=>⟨O,O⟩) (by rfl) (by rfl) O J.aR ⟨S,b1,FW.XH (k:=kq.eE c.bA ac.bP (KT ac.bP)) ?_ b2⟩
   rw[aM]
   exact Fq.cE ⟨aq.1,V,aq.2.1⟩ (λm=>wt.1 V) (λm=>(wt.2 V).1.1) λ_ m=>by rw[<-aS]at m⊢;exact(wt.2 m).2
 rw[aV aK]at A
 by_cases aL:x.op=24
 .rw[a8 aL]at A
  rw[a8 (bH aL)]at z
  obtain⟨hz,aN,rfl⟩:=z
  obtain⟨A,rfl⟩:=A
  simp[gD]at A
  let⟨E,Q,ts,te⟩:=A
  have K:dE d x.cG=E:=by simp[dE,Q]
  simp(disch:=omega) only[dI,aV,a8]at y
  subst y
  have an:=N.iu.eR E (ba Q)
  have wl:(dR c x.aO).length=E.aY.length:=by rw[<-ts];simp[dR,qB]
  refine J.of1 hf ag (al O) hc T (λ_ _ _=>⟨O,O⟩) (g:=ct d x.cG c.bA (dR c x.aO)) O (by show(dE d x.cG).bP=_;rw[K,aQ,te]) O J.aR ?_
  let⟨k0,c0,c1⟩:=(fl _ E Q).first
  refine⟨k0,c0,FW.XH ?_ c1⟩
  refine FW.bI K an.aU.1 wl (λM A=>((N.iu.kX.eR E (ba Q)).2.1 M A).1) (λb H M D C=>aI b H M D (ts▸C)) λb hi q aP=>?_
  let⟨r,v⟩:=dY x.aO b.toNat (by have:(dR c x.aO).length=x.aO.length:=(by simp[dR]);omega)
  have aX:br (dR c x.aO) b=br c.aU r:=by simp[br,dR,v]
  have aS:r∈fx d x 0 x.aO:=Mr v (by
   unfold jv;rw[K,XK];exact⟨b,hi,fu⟩)
  have aM:=U (bH aL) r aS
  have r0:=(Z r (ba v)).1
  rw[aX]
  refine(FW.afY G hz aM r0 (F.TY r r0 ?_):)
  let⟨aF,hj⟩:=db.1 hi
  obtain⟨⟨M,_,aW,bs⟩,-⟩:=an.cW aF b hj
  have C:=CK (k:=u) v
  rw[ts,aW]at C
  have:=aG r (ba v)
  cases C;omega
 simp(disch:=omega) only[gD,aV]at A z
 have af:=nx V
 have aY:∀(H:Int)(cJ:ab),0<=x.op/\x.op<6->Y=0->H<1000->e={s with cJ:=cJ,bo:=h++[bS.cE {c with bF:=bF,pc:=c.pc+1} x.bA H 0]}->VS d rZ e:=λH cJ ho t0 hw y=>by
  have X:kT x.op:=by unfold kT;omega
  have:=hI.cR;rw[a8 X,a8 V]at z;obtain⟨aq,rfl⟩:=z;subst t0 y;exact jX L af O O O O (λ_ _ _=>⟨O,O⟩) J.aR (aA G.pc O au ao (aw X) O (λ_ _ _=>⟨O,O⟩) (λ_=>hw) (λae=>absurd ae cH) λae=>absurd ae cH)
 by_cases e0:x.op=0
 .simp(disch:=omega) only[dI,aV,a8]at y A P
  exact aY _ _ V A.1 V y
 by_cases e1:x.op=1\/x.op=2\/x.op=3\/x.op=4
 .simp(disch:=omega) only[dI,aV,a8]at y A
  exact aY _ _ V A.1 (oh ((Qw x.op (br c.aU (br x.aO 0)) (br c.aU (br x.aO 1))).2)) y
 by_cases e5:x.op=5
 .simp(disch:=omega) only[dI,aV,a8]at y A P
  have a0:=am V
  exact aY _ _ V A.1 ((av _ a0).1 (a1 _ A.2 bO _ a0)) y
 by_cases e6:x.op=6
 .simp(disch:=omega) only[dI,aV,a8]at y A P
  have X:kT x.op:=by unfold kT;omega
  rw[a8 X]at z
  obtain⟨aq,rfl⟩:=z
  have bq:=(IY A.1).1
  have a0:x.cG<cT d:=by unfold cT;omega
  have aN:FTy d x.cG=qB u x.aO:=by unfold FTy;rw[a8 a0,A.2]
  have aT:Im d x.cG Y:=by unfold Im;rw[a8 a0];exact A.1
  have be:∀(B:Nat)(h':ah)(cL:ab),XS s.aR h' B x.cG (dR c x.aO)->(∀b,0<=b->br (if x.cR=0 then fP u (cq d x)else{fP u (cq d x)with eM:=iv (fP u (cq d x)).eM (x.cR -1) (-1)}:Kn).eM b<0->br cL b=0)->e={s with aR:=h',bo:=h++[bS.cE {c with bF:=bF,pc:=c.pc+1,cL:=cL} x.bA (1000+(B:Int)) 1]}->VS d rZ e:=λB h' cL ai hh y=>by
   subst y;refine jX L af O O O O ai.Uh (ai.ht J.aR T λb H M D C=>aI b H M D (aN▸C)) ?_;have m1:KT Y=1:=a8 V;rw[m1];have G2:=G.cL (by split<;>simp[jE]) hh;refine aA ?_ O au ao (aw X) O ai.Uh (λm=>V) (λ_=>V) λ_ _=>?_
   .split<;>rename_i hi<;>simp only[hi,vW,mD]at G2<;>exact G2.pc
   .have:bu h' (1000+(B:Int))=⟨1,x.cG,dR c x.aO⟩:=by unfold bu;rw[EO,ai.bI];rfl
    rw[this];exact aT
  by_cases hh:x.cR≠0/\br c.cL (x.cR -1)≠0
  .have bw:(c.cL.length:Int)=ac.aU:=lh
   have a7:=gZ (l:=c.cL) (i:=x.cR -1) V V
   have bb:1000<=br c.cL (x.cR -1):=by
    rcases hF.cL _ a7 with m|m
    .exact absurd m hh.2
    .exact m
   obtain⟨aJ,bl,bv⟩:jy s.aR (ix (br c.cL (x.cR -1))):=fQ λL=>by
    have D:=N.uC _ L;rw[hf,iZ,mI]at D;have C:=zk (l:=c.cL) (f:=ix (br c.cL (x.cR -1))) (by rw[nK bb];exact a7);have h3:=EC h (ix (br c.cL (x.cR -1)));omega
   refine be (ix (br c.cL (x.cR -1))) _ (iv c.cL (x.cR -1) 0) (XS.eE bl V) (λb q m=>?_) ?_
   .rw[aV hh.1]at m
    rw[ng V V b q]
    split
    .rfl
    .rename_i a9
     refine F.kp b q ?_
     have e':br (iv (fP u (cq d x)).eM (x.cR -1) (-1)) b<0:=m
     rw[IW V,pC]at e';exact e'
   .rw[y,a8 hh,nK bb]
  .refine be (fF s.aR) _ c.cL (XS.jM N.aR) (λb q m=>?_) ?_
   .split at m
    .exact F.kp b q (by rw[pC]at m;exact m)
    .rename_i hi
     by_cases a9:b=x.cR -1
     .subst a9
      rcases fS (br c.cL (x.cR -1)=0)with m|m
      .exact m
      .exact absurd ⟨hi,m⟩ hh
     .refine F.kp b q ?_
      have e':br (iv (fP u (cq d x)).eM (x.cR -1) (-1)) b<0:=m
      rw[IW V,pC]at e';exact e'
   .rw[y,aV hh]
 have aO:x.cR=0:=by have:=hI.cR;omega
 rw[a8 aO]at z
 by_cases e9:x.op=9
 .simp(disch:=omega) only[dI,aV,a8]at y A
  have X:kT x.op:=by unfold kT;omega
  rw[a8 X]at z
  obtain⟨aq,rfl⟩:=z
  let⟨E,Q,ts,te⟩:=A
  have K:dE d x.cG=E:=by simp[dE,Q]
  subst y
  have an:=N.iu.eR E (ba Q)
  have wl:(dR c x.aO).length=E.aY.length:=by rw[<-ts];simp[dR,qB]
  refine J.of2 hf ag (al O) hc T (λ_ _ _=>⟨O,O⟩) (by rfl) (by rfl) O J.aR ?_ ?_
  .let⟨S,b1,b2⟩:=L _ af
   refine⟨_,G.pc,aq,S,b1,?_⟩
   show vZ ((fP u (cq d x)).eE x.bA (dE d x.cG).bP (KT (dE d x.cG).bP)) S
   rw[K,<-te];exact b2
  .let⟨k0,c0,c1⟩:=(fl _ E Q).first
   refine⟨k0,c0,FW.XH ?_ c1⟩
   refine FW.bI K an.aU.1 wl (λM A=>((N.iu.kX.eR E (ba Q)).2.1 M A).1) (λb H M D C=>aI b H M D (ts▸C)) λb hi q aP=>?_
   let⟨r,v⟩:=dY x.aO b.toNat (by have:(dR c x.aO).length=x.aO.length:=(by simp[dR]);omega)
   have aX:br (dR c x.aO) b=br c.aU r:=by simp[br,dR,v]
   have aS:r∈fx d x 0 x.aO:=Mr v (by
    unfold jv;rw[K,XK];exact⟨b,hi,fu⟩)
   have aM:=U (bz e9) r aS
   have r0:=(Z r (ba v)).1
   rw[aX]
   refine FW.rtd (f:={c with bF:=bF,pc:=c.pc+1}) G.pc aM r0 (F.TY r r0 ?_)
   let⟨aF,hj⟩:=db.1 hi
   obtain⟨⟨M,_,aW,bs⟩,-⟩:=an.cW aF b hj
   have C:=CK (k:=u) v
   rw[ts,aW]at C
   have:=aG r (ba v)
   cases C;omega
 by_cases aX:x.op=10
 .simp(disch:=omega) only[dI,aV,a8]at y A P
  have X:kT x.op:=by unfold kT;omega
  rw[a8 X]at z
  obtain⟨aq,rfl⟩:=z
  let⟨E,aB,Q,ts,te⟩:=A
  obtain⟨⟨q',bp,aJ,aF⟩,-⟩:=P
  have bq:=(WG N.iu.kX.dj te).1
  have eg:cT d+x.cG -cT d=x.cG:=V
  have K:dE d (cT d+x.cG -cT d)=E:=by rw[eg];simp[dE,Q]
  have aN:FTy d (cT d+x.cG)=qB u x.aO:=by unfold FTy;rw[aV V,K,ts];simp
  have aT:Im d (cT d+x.cG) Y:=by
   unfold Im;rw[aV V,eg];exact⟨E,aB,Q,by rw[ts];simp,te⟩
  have ai:XS s.aR (jM s.aR (fF s.aR) ⟨1,cT d+x.cG,dR c x.aO⟩) (fF s.aR) (cT d+x.cG) (dR c x.aO):=XS.jM N.aR
  subst y
  refine jX L af O O O O ai.Uh (ai.ht J.aR T λb H M D C=>aI b H M D (aN▸C)) ?_
  have m1:KT Y=1:=a8 V
  rw[m1]
  refine aA G.pc O au ao (aw X) O ai.Uh (λm=>V) (λ_=>V) λ_ _=>?_
  simp only[bu,EO,ai.bI];exact aT
 by_cases aM:x.op=11
 .simp(disch:=omega) only[dI,aV,a8]at y A P
  have X:kT x.op:=by unfold kT;omega
  rw[a8 X]at z
  obtain⟨aq,rfl⟩:=z
  let⟨M,ad,ts,te⟩:=A
  obtain⟨aF,a0,a7,aS,ai,-⟩:=hM.apply aM
  have g0:=jJ (l:=x.aO) (i:=0) V V
  have g1:=jJ (l:=x.aO) (i:=1) V V
  have y0:=CK (k:=u) g0
  have y1:=CK (k:=u) g1
  rw[ts]at y0 y1
  have y0:(u.r (br x.aO 0)).lP=M:=sp y0.symm
  have y1:(u.r (br x.aO 1)).lP=ad:=sp y1.symm
  have w0:=av _ (ba g0)
  have w1:=av _ (ba g1)
  rw[y0]at w0;rw[y1]at w1
  have u1:=(WG N.iu.kX.dj te).1
  have tg:=(w0.2 V).2
  generalize br c.aU (br x.aO 0)=H at*
  generalize br c.aU (br x.aO 1)=wa at*
  unfold Im at tg
  rw[aV V]at tg
  let⟨E,aB,Q,aN,aP⟩:=tg
  obtain⟨rfl,rfl⟩:=adB te aP
  have K:dE d ((bu s.aR H).jH -cT d)=E:=by simp[dE,Q]
  rw[K]at aS ai
  subst y
  have W:=yX.iK N.aR aF
  have an:=N.iu.eR E (ba Q)
  have aT:OL _ {c with bF:=bF,pc:=c.pc+1}:=λb q m=>az {c with bF:=bF,pc:=c.pc+1} bO b q m
  have aJ:E.aY=E.aY.dropLast++[ad]:=by
   let⟨j,m⟩:=List.getLast?_eq_some_iff.1 aN;rw[m];simp
  have aW:=az (ct d ((bu s.aR H).jH -cT d) x.bA ((bu s.aR H).bV++[wa])) bO
  have el:E.cW=[]:=cp.1 ai
  refine J.of2 hf ag (al O) hc T W.Uh (by rfl) (by rfl) O (J.aR.pW W T) ?_ ?_
  .let⟨S,b1,b2⟩:=L _ af
   refine⟨_,G.pc.pW ag (λb q m=>ao b q m) hc (al O) (λb q m=>aT b q m) T W.Uh,aq,S,b1,?_⟩
   show vZ ((fP u (cq d x)).eE x.bA (dE d ((bu s.aR H).jH -cT d)).bP (KT (dE d ((bu s.aR H).jH -cT d)).bP)) S
   rw[K];exact b2
  .let⟨k0,c0,c1⟩:=(fl _ E Q).first
   refine⟨k0,c0,FW.XH ?_ c1⟩
   have wl:((bu s.aR H).bV++[wa]).length=E.aY.length:=fu
   have pn:∀M∈E.aY,0<=M:=λM A=>((N.iu.kX.eR E (ba Q)).2.1 M A).1
   refine FW.bI K an.aU.1 wl pn (λb w' u' D C=>?_) (by rw[el];simp)
   have old:ZC d s.aR w' u':=by
    rw[aJ]at C;have a9:E.aY.dropLast.length=(bu s.aR H).bV.length:=fu;rcases eH b (bu s.aR H).bV.length with m|m
    .rw[dZ m]at D;rw[dZ V]at C;exact J.aR H aF b w' u' D (by unfold FTy;rw[aV V,K];exact C)
    .rw[dQ m]at D;rw[dQ V]at C;have:b -(bu s.aR H).bV.length=0:=by have:=bC D;simp at this;omega
     rw[this]at D;rw[show b -E.aY.dropLast.length=0 by omega]at C;simp at D C;subst D;subst C;exact w1
   refine old.pW W.Uh λhp=>?_
   have bn:=pn u' (ba C)
   have ew:br (ct d ((bu s.aR H).jH -cT d) x.bA ((bu s.aR H).bV++[wa])).aU b=w':=by
    simp only[ct,br,fG];rw[dZ (by have:=bC D;simpa using this)];simp[D]
   have:=aW b V (by
    simp only[ct,br,fG];rw[dZ (by rw[mh];have:=bC D;simpa using this)];simp only[iO];rw[EW _ _ _ _ _ D,K,el];simp[ig,hp])
   rw[ew]at this;exact this
 simp(disch:=omega) only[aV]at A
end
section
variable{a:cO}{s:St}{rZ:Nat->Nat->Option Kn}{df:Int}
def VS.YF(V:VS a rZ s)(n:Int):VS a rZ {s with dx:=n}:=⟨V.aR,V.first,V.jA,V.sus⟩
theorem VS.kD(i:∀(n:Nat)(p:dS),a.cU[n]? =some p->sK a p (rZ n))(d:eJ a s)(c:VS a rZ s):VS a rZ (kD a s):=by
 have b:=Pf d;by_cases m:s.dx=3
 .let⟨j,h,l⟩:=d.split m;unfold Go.Proofs.YtbbbdejieenniaaGreat.kD at b⊢;rw[aV V]at b⊢;have f:s.bo.getLast?=some h:=cC;have g:s.bo.dropLast=j:=cC;rw[f,g]at b⊢;simp only at b⊢;split
  .exact c.YF 1
  .rename_i k;rw[aV k]at b;split
   .rename_i e;rw[a8 e]at b;exact Xn i d l c e O b
   .exact c.YF 2
 .grind [pB]
theorem VS.dX(k:∀(n:Nat)(p:dS),a.cU[n]? =some p->sK a p (rZ n))(c:gL a):VS a rZ (dX a df):=by
 let⟨p,d⟩:=dY a.cU 0 c.kX.aT.1;have e:dE a 0=p:=by grind [dE]
 have m:=c.kX.first p d;let⟨r,h,i⟩:=(k 0 p d).first;refine⟨λz⟨_,u,o,_⟩=>by simp[Go.Proofs.YtbbbdejieenniaaGreat.dX]at o,λx g=>by simp[Go.Proofs.YtbbbdejieenniaaGreat.dX]at g;subst g;show(dE a 0).bP=0;rw[e];exact m.2,λb f j=>?_,λw s t _ v=>?_⟩
 .have:b=[]/\ct a 0 0 []=f:=by
   have e:[ct a 0 0 []]=b++[f]:=j;cases b with
   |nil=>simpa using e
   |cons l q=>simp at e
  obtain⟨rfl,rfl⟩:=this;exact⟨r,h,FW.XH (FW.bI e (c.eR p (ba d)).aU.1 cC cC (λq A y l=>by simp at l) λq _ _ l=>by simp at l;omega) i⟩
 .grind [bC,dX]
theorem VS.bq(b:∀(n:Nat)(p:dS),a.cU[n]? =some p->sK a p (rZ n))(c:gL a)(d:0<=df/\df<=40):∀n,VS a rZ (bq a n (Go.Proofs.YtbbbdejieenniaaGreat.dX a df))
 |0=>VS.dX b c
 |n+1=>by rw[ou];exact(VS.bq b c d n).kD b (Bm n (Gs c d))
theorem VS.oO(l:eJ a s)(h:VS a rZ s){j:Nat}{f:bS}(c:s.bo[j]? =some f):∃k,rZ f.fN.toNat f.pc.toNat=some k/\k.aU.length=f.aU.length/\∀r,0<=r->(k.r r).bF=br f.bF r\/∃g,s.bo[j+1]? =some g/\r=g.bA:=by
 rcases eH (j+1) s.bo.length with m|m
 .let⟨g,d⟩:=dY s.bo (j+1);let⟨k,F,n,p,b1,b2⟩:=h.sus j f g c d;refine⟨p,b1,by rw[b2.aT,Cf,F.aT],λr b=>?_⟩;by_cases e:r=g.bA
  .exact bH ⟨g,d,e⟩
  .refine bz ?_;rw[b2.bF r b];have o:=l.tX j f g c d;have i:=l.bo f (ba c);have n:=i.lr;have q:=i.lo;rw[QO ⟨o.1,by rw[F.aT];omega⟩ b,aV e];unfold tF;split<;>exact F.bF r b
 .have e:s.bo=s.bo.take j++[f]:=by
   have:=bW c;rw[yz V]at this;exact this
  let⟨k,d,F⟩:=h.jA _ f e;exact⟨k,d,F.aT,λr b=>bz (F.bF r b)⟩
end
section
variable{h:ah}
inductive BB(cD:List Instr):Nat->Int->Prop
 |yJ {k:Nat} {r:Int} {x:Instr}:cD[k]? =some x->x.op=22->BB cD x.cG.toNat r->BB cD k r
 |move {k:Nat} {r:Int} {x:Instr}:cD[k]? =some x->x.op=18->br x.aO 0=r->BB cD (k+1) x.bA->BB cD k r
 |ret {k:Nat} {r:Int} {x:Instr}:cD[k]? =some x->x.op=23->br x.aO 0=r->BB cD k r
open Classical in
noncomputable def sB (cD:List Instr) (k:Nat) (x:Instr):Instr:=if x.op=9/\BB cD (k+1) x.bA then{x with op:=24,bA:=0}else x
noncomputable def rQ (p:dS):dS:={p with cD:=p.cD.mapIdx (sB p.cD)}
noncomputable def fR (a:cO):cO:={a with cU:=a.cU.map rQ}
variable{a:cO}{x:Instr}{s:St}{b:aj}{f:bS}{bF:ab}
theorem G5(n:Int):dE (fR a) n=rQ (dE a n):=by
 unfold dE fR;simp only[eB];cases a.cU[n.toNat]? with
 |none=>rfl
 |some p=>rfl
def Of(k:Nat):jv (fR a) x k=jv a x k:=by unfold jv;rw[G5];rfl
theorem Oh:∀(l:ab)(k:Nat),je (fR a) x k l=je a x k l
 |[],_=>O
 |r::l,k=>by simp only[je,Of,Oh l]
theorem Og:∀(l:ab)(k:Nat),fx (fR a) x k l=fx a x k l
 |[],_=>O
 |r::l,k=>by simp only[fx,Of,Og l]
def Rh:cq (fR a) x=cq a x:=by grind [cq,Oh]
theorem VV(g d:Int)(b:ab):ct (fR a) g d b=ct a g d b:=by unfold ct;rw[G5];rfl
def VU:cT (fR a)=cT a:=rfl
def LO:dI (fR a) s b f x bF=dI a s b f x bF:=by
 unfold dI;simp only[VV,VU];rfl
def Rf{w:Int}:tQ (fR a) h w<->tQ a h w:=by
 unfold tQ;rw[G5,VU];have:(fR a).cU.length=a.cU.length:=by simp[fR]
 rw[this];rfl
def vA:tP (fR a) h f x<->tP a h f x:=by grind [tP,Og]
def VW:iN (fR a) s f x bF<->iN a s f x bF:=
 ⟨λh=>⟨h.nn,h.bA,h.nZ,h.jM,λe=>vA.1 (h.cW e),h.mQ,h.qv,λe=>Rf.1 (h.apply e),h.WQ,h.uV,h.AL,h.pV,h.ta⟩,
  λh=>⟨h.nn,h.bA,h.nZ,h.jM,λe=>vA.2 (h.cW e),h.mQ,h.qv,λe=>Rf.2 (h.apply e),h.WQ,h.uV,h.AL,h.pV,h.ta⟩⟩
theorem Ke{p:dS}{k:Nat}(h:p.cD[k]? =some x):(rQ p).cD[k]? =some (sB p.cD k x):=by
 grind [rQ]
def abJ(h:gL a):gL (fR a):=by
 have t:(fR a).cU.length=a.cU.length:=by simp[fR]
 have f:∀(n:Nat)(p:dS),(fR a).cU[n]? =some p->∃q,a.cU[n]? =some q/\p=rQ q:=λn p e=>by
  unfold fR at e;simp only[eB]at e;cases k:a.cU[n]? with
  |none=>rw[k]at e;simp at e
  |some q=>rw[k]at e;simp at e;exact⟨q,O,e.symm⟩
 have l:∀p∈(fR a).cU,∃q∈a.cU,p=rQ q:=λp f=>by
  unfold fR at f;simp only[fA]at f;obtain⟨q,c,e⟩:=f;exact⟨q,c,e.symm⟩
 have u:∀(n:Int)(m:Nat),pH a n m->pH (fR a) n m:=λn m⟨q,r,s,i⟩=>⟨rQ q,r,by unfold fR;simp[s],i⟩;refine⟨⟨h.kX.dj,by rw[t];exact h.kX.aT,λp e=>?_,λp e=>?_⟩,λp e=>?_⟩
 .obtain⟨q,c,rfl⟩:=l p e;exact h.kX.eR q c
 .obtain⟨q,c,rfl⟩:=f 0 p e;exact h.kX.first q c
 .obtain⟨q,c,rfl⟩:=l p e;have P:=h.eR q c;have j:(rQ q).cD.length=q.cD.length:=by simp[rQ]
  refine⟨P.cW,P.aU,by rw[j];exact P.aT,λo v b=>?_,λv b=>?_⟩
  .let⟨y,g⟩:=dY q.cD o (by have:=bC b;omega);rw[Ke g]at b;cases b;have I:=P.eR o y g;unfold sB;split
   .rename_i i;have d:=I.op;unfold kQ at d;rw[aV V,aV V,aV V,aV V,a8 V]at d;refine⟨I.aO,by have:=I.bA;show(0:Int)<=0/\(0:Int)<=q.aU -1;omega,bz O,bz (show y.cR=0 by have:=I.cR;omega),bH (show y.fU.length=0 by have:=I.fU;omega),?_⟩;unfold kQ;simp only;rw[aV cH,aV cH,aV cH,aV cH,a8 cH];exact u _ _ d
   .refine⟨I.aO,I.bA,I.aei,I.cR,I.fU,?_⟩;have d:=I.op;have w:∀p,(rQ p).cW=p.cW:=λ_=>O;have x:(fR a).bR=a.bR/\(rQ q).aU=q.aU:=⟨O,O⟩;unfold kQ at d⊢;grind (splits:=20)
  .rw[j]at b;let⟨y,g⟩:=dY q.cD (q.cD.length -1) (by have:=P.aT;omega);rw[Ke g]at b;cases b;unfold sB;split
   .exact bH O
   .exact P.Dr y g
end
section
variable{S L X:ad}{m b M:D}{d p c q g:E}{n:cO}{cD e:List Instr}{k f:Nat}{r:Int}{x y:Instr}{a:aA}{h:af}
theorem BB.aea(h:BB cD k r)(g:∀(i:Nat)(x:Instr),cD[i]? =some x->x.op=22->(i:Int)<x.cG)(f:∀i:Nat,k<=i->e[i]? =cD[i]?):BB e k r:=by
 induction h with
 |yJ a b _ d=>have:=g _ _ a b;exact .yJ cC b (d λi j=>f i V)
 |move a b c _ d=>exact .move cC b c (d λi j=>f i V)
 |ret a b c=>exact .ret cC b c
def BB.inv(d:cD[k]? =some x):BB cD k r<->if x.op=22 then BB cD x.cG.toNat r else if x.op=18/\br x.aO 0=r then BB cD (k+1) x.bA else x.op=23/\br x.aO 0=r:=by
 constructor
 .intro h;cases h with
  |yJ a b h=>rw[d]at a;cases a;rw[a8 b];exact h
  |move a b c h=>rw[d]at a;cases a;rw[aV V,a8 ⟨b,c⟩];exact h
  |ret a b c=>rw[d]at a;cases a;rw[aV V,aV V];exact⟨b,c⟩
 .grind [BB.yJ,BB.move,BB.ret]
@[grind cases] structure Fw (cD:List Instr):Prop where
 yJ:∀(i:Nat)(x:Instr),cD[i]? =some x->x.op=22->(i:Int)<x.cG/\x.cG<cD.length
 mE:∀(i:Nat)(x:Instr),cD[i]? =some x->x.op=18\/x.op=23->1<=x.aO.length
 Dr:∀(i:Nat)(x:Instr),cD[i]? =some x->x.op=18->i+1<cD.length
 aT:cD.length<=1000000
def Jd(t:iz m c cD)(p:Fw cD)(D:k<cD.length):ir dP 35 [c.v,vi k,vi r] m (BB cD k r):=by
 apply Df;simp -zeta only[dT];have F:=t.aT;have I:=p.aT;refine⟨λn e M=>J m M/\∃j:Nat,n=j/\j<cD.length/\(BB cD j e<->BB cD k r),λn _ _=>cD.length -n.toNat,⟨dt,k,O,D,Nz⟩,?_⟩;rintro _ e M ⟨w,j,rfl,G,u⟩;let⟨y,f⟩:=dY cD j;let⟨pa,Q,s,H,x,g1,g2,z,A,B⟩:=(iz.ext w t).br f;have E:=s.aT;rw[BB.inv f]at u;refine⟨V,V,_,x,_,g1,_,g2,_,z,_,A,_,B,?_⟩;intro P d;have g:J M d:=by grind [J.push,J.aW]
 have X:=w.N g;have rd:g=g->y.op=18\/y.op=23->(0:Int)<pa.len/\aS d pa.bt (pa.off+Int.toNat 0*1)=some (vi (br y.aO 0)):=λ_ h=>by
  have:=p.mE j y f h;exact⟨V,by simpa using(s.ext g).br (jJ (l:=y.aO) (i:=0) V V)⟩
 refine⟨λo=>?_,λo=>?_⟩
 .grind
 have o:y.op≠22:=cC;rw[aV o]at u;have q:¬(y.op=18/\br y.aO 0=e)->((y.op==23)=true->(0:Int)<=0/\(0:Int)<pa.len/\∃v:Int,aS d pa.bt (pa.off+Int.toNat 0*1)=some (vi v)/\∃b,vb (v==e)=.bool b/\(b=true<->BB cD k r)/\J m d)/\
  ((y.op==23)=false->∃b,vb false=.bool b/\(b=true<->BB cD k r)/\J m d):=λL=>by
  grind
 refine⟨λa=>?_,λa=>q λh=>by simp at a;exact a h.1⟩;have a:y.op=18:=cC;let⟨v,C⟩:=rd O (bz a);refine⟨dN _,v,_,C,λb=>?_,λb=>q λh=>by simp at b;exact b h.2⟩;have b:br y.aO 0=e:=cC;have K:=p.Dr j y f a;have N:eV ((j:Int)+1)=((j+1:Nat):Int):=by grind [dk]
 grind
noncomputable def oA (cD:List Instr) (j:Nat):List Instr:=cD.mapIdx λi x=>if i<j then sB cD i x else x
theorem tc{i j:Nat}:(oA cD j)[i]? =(cD[i]?).map λx=>if i<j then sB cD i x else x:=by simp[oA,afp]
theorem qU{j:Nat}:(oA cD j).length=cD.length:=by simp[oA]
def Oe:oA cD 0=cD:=by
 apply eA;grind [tc]
def XD:oA cD cD.length=cD.mapIdx (sB cD):=by
 apply eA;grind [tc,bC]
theorem VT{j:Nat}(h:cD[j]? =some x):oA cD (j+1)=(oA cD j).set j (sB cD j x):=by
 apply eA;grind [bC,List.getElem?_set_self,qU,tc,List.getElem?_set_ne]
theorem aaQ{i:Nat}:sB cD i x=x\/(sB cD i x).op=24:=by
 grind [sB]
theorem Fw.to{j:Nat}(h:Fw cD):Fw (oA cD j):=by
 constructor<;>grind [Instr,oA,tc,aaQ,Fw.mE,qU,Fw.aT,Fw.yJ,Fw.Dr]
def BB.to{j:Nat}(a:Fw cD):BB (oA cD j) (j+1) r<->BB cD (j+1) r:=by
 grind [oA,tc,BB.aea,Fw.to,Fw.yJ]
noncomputable def uz (a:av) (k j:Nat):av:=a.mapIdx λi p=>if i<k then rQ p else if i=k then{p with cD:=oA p.cD j}else p
section
variable{l:av}{o:dS}{i j:Nat}
theorem qT:(uz l k j)[i]? =(l[i]?).map λp=>if i<k then rQ p else if i=k then{p with cD:=oA p.cD j}else p:=by simp[uz,afp]
theorem Rc:(uz l k j).length=l.length:=by simp[uz]
def VR:uz l 0 0=l:=by
 apply eA;intro i;rw[qT];cases l[i]? with
 |none=>rfl
 |some p=>simp[Oe]
def VP(h:l[k]? =some o):uz l k o.cD.length=uz l (k+1) 0:=by
 apply eA;intro i;rw[qT,qT];cases e:l[i]? with
 |none=>rfl
 |some p=>
  simp only[sF,Oe];by_cases a:i<k
  .grind
  .by_cases b:i=k
   .subst b;rw[h]at e;cases e;rw[aV a,a8 O,a8 V,XD];rfl
   .rw[aV a,aV b,aV V];split<;>rfl
def XC(h:l.length<=k):uz l k 0=l.map rQ:=by
 apply eA;grind [qT,bC]
def Re(h:l[k]? =some o)(a:o.cD[j]? =some x):uz l k (j+1)=(uz l k j).set k {o with cD:=(oA o.cD j).set j (sB o.cD j x)}:=by
 apply eA;grind [List.getElem?_set_self,Rc,bC,qT,VT,List.getElem?_set_ne]
def VQ(h:l[k]? =some o)(b:o.cD[j]? =some x)(a:sB o.cD j x=x):uz l k (j+1)=uz l k j:=by
 rw[Re h b,a];have c:(oA o.cD j).set j x=oA o.cD j:=by grind [Lb,tc]
 grind [Lb,qT]
end
def sJ.wrP{z:dS×E}{o:Nat}{d:ae}(e:sJ S b M g q h a)(p:Fz X b M)(j:a[f]? =some z)(i:z.1.cD[k]? =some x)(r:o+d.length<=6)(s:∀c,eW (di (q.bt::(Ks a++S)) M) c x->eW (di (q.bt::(Ks a++S)) M) (jm c o d) y):
 gK M z.2.bt (z.2.off+k*6+o) d.length/\sJ S b (aW M z.2.bt (z.2.off+k*6+o) d) g q h (a.set f ({z.1 with cD:=z.1.cD.set k y},z.2)):=by
 obtain⟨c,_,m,l,w,_⟩:=(e.c z (ba j)).Qv i r
 rw[l]
 exact⟨w,(e.wr p j (bC i) (s c (eW.le (kW M λt n=>aX _ n) m))).2⟩
end
section
variable{l:agc}{r:tE}{o e:Nat}{new:ae}{g:tE->tE}
def Cb(r:tE):ae:=[.i r.lP,.i r.bF,.t r.cW,.i r.lF,.i r.fr,.i r.Ez]
def Ob(l:agc):ae:=(l.map Cb).flatten
def KZ(l:agc):∀a∈l.map Cb,a.length=6:=λa h=>by obtain⟨r,_,rfl⟩:=fA.1 h;rfl
theorem vd(l:agc):(Ob l).length=l.length*6:=by unfold Ob;rw[eD (KZ l),jQ]
def Zk{i:Nat}(h:l[i]? =some r){j:Nat}{c:Ce}(a:(Cb r)[j]? =some c):(Ob l)[i*6+j]? =some c:=
 j9 (KZ l) cC a
def Zl{i:Nat}{a:tE}(h:l[i]? =some r)(b:o+new.length<=6)(c:jm (Cb r) o new=Cb a):jm (Ob l) (i*6+o) new=Ob (l.set i a):=by
 unfold Ob;rw[xz _ i (Cb r) o new (KZ l) cC b,c,DZ]
theorem Jj{k:Kn}{i:Int}(a:0<=i)(b:i<k.aU.length):k.aU[i.toNat]? =some (k.r i):=by
 grind [dY,Kn.r]
def Yu{k:Kn}{i:Int}(a:0<=i)(b:i<k.aU.length):(k.tG i g).aU=k.aU.set i.toNat (g (k.r i)):=by
 have h:=Jj a b;unfold Kn.tG;apply eA;grind [List.getElem?_set_self,List.getElem?_set_ne]
@[grind cases] structure mo (ro:ag) (m:D) (k b:Nat) (rs ks:E) (kn:Kn):Prop where
 bU:dJ m b Ak [.s rs,.s ks]
 jZ:ro b=k
 aU:iV ro m rC 6 k rs (Ob kn.aU)
 eM:iV ro m bG 1 k ks (kn.eM.map Ce.i)
 iY:1<=kn.aU.length/\kn.aU.length<=2000
 yK:kn.eM.length=kn.aU.length
section
variable{c f:ag}{m d:D}{k b:Nat}{a ks:E}{kn:Kn}{i:Int}{p:Nat->Prop}
theorem mo.Jp(h:mo c m k b a ks kn):a.len=kn.aU.length:=by grind [mo.aU,iV.aT,vd]
theorem mo.Yo(h:mo c m k b a ks kn):ks.len=kn.aU.length:=by grind [mo.eM,iV.aT,mo.yK]
def mo.adO(h:mo c m k b a ks kn):a.cap≠0:=by grind [mo.aU,iV.le,mo.Jp,mo.iY]
def mo.aez(h:mo c m k b a ks kn):ks.cap≠0:=by grind [mo.eM,iV.le,mo.Yo,mo.iY]
def iV.aed{d k:Nat}{s:E}{l:ae}(h:iV c m e d k s l)(f:s.cap≠0):∃b a tail,s=.mk b 0 s.len a/\c b=k/\dJ m b e (l++tail):=by
 grind [iV.br]
def dJ.aaz{b a c:Nat}{l g:ae}(h:dJ m b e l)(d:dJ m a c g)(i:e≠c):b≠a:=λf=>by
 subst f;have:=h.symm.trans d;grind
def mo.nes(h:mo c m k b a ks kn):b≠a.bt/\b≠ks.bt/\a.bt≠ks.bt:=by
 obtain⟨b1,i,t1,f,_,d⟩:=iV.aed h.aU h.adO;obtain⟨b2,j,t2,g,_,e⟩:=iV.aed h.eM h.aez;rw[f,g];exact⟨dJ.aaz h.bU d cH,dJ.aaz h.bU e cH,dJ.aaz d e cH⟩
def mo.gX(h:mo c m k b a ks kn)(e:eu p c m f d)(g:¬p k):mo f d k b a ks kn:=
 by constructor<;>grind [mo.bU,dJ.congr,eu.fH,dJ.lt,mo.jZ,eu.jZ,mo.aU,iV.gX,mo.eM,mo.iY,mo.yK]
def mo.ext(h:mo c m k b a ks kn)(x:J m d):mo c d k b a ks kn:=
 by constructor<;>grind [mo.bU,dJ.ext,mo.jZ,mo.aU,iV.fH,J.bB,iV.bt,mo.eM,mo.iY,mo.yK]
def mo.dg(h:mo c m k b a ks kn)(l:0<=i)(n:i<kn.aU.length):aS m a.bt (a.off+i.toNat*6)=some (vi (kn.r i).lP)/\aS m a.bt (a.off+i.toNat*6+1)=some (vi (kn.r i).bF)/\aS m a.bt (a.off+i.toNat*6+2)=some (vb (kn.r i).cW)/\
 aS m a.bt (a.off+i.toNat*6+3)=some (vi (kn.r i).lF)/\aS m a.bt (a.off+i.toNat*6+4)=some (vi (kn.r i).fr)/\aS m a.bt (a.off+i.toNat*6+5)=some (vi (kn.r i).Ez):=by
 have o:=h.aU.kv
 have g:=λ{d:Nat}{f:Ce}(hj:(Cb (kn.r i))[d]? =some f)=>o _ _ (Zk (Jj l n) hj)
 have e:∀d,a.off+i.toNat*6+d=a.off+(i.toNat*6+d):=cC
 rw[e 1,e 2,e 3,e 4,e 5]
 exact⟨g (d:=0) O,g (d:=1) O,g (d:=2) O,g (d:=3) O,g (d:=4) O,g (d:=5) O⟩
def mo.wr(h:mo c m k b a ks kn)(d:0<=i)(e:i<kn.aU.length){o n:Nat}(f:o+n<=6):gK m a.bt (a.off+i.toNat*6+o) n:=by
 have:=h.aU.wr (o:=i.toNat*6+o) (n:=n) (by rw[vd];omega);grind [Nat.add_assoc]
def mo.cE(h:mo c m k b a ks kn)(d:0<=i)(e:i<kn.aU.length)(j:o+new.length<=6)(f:jm (Cb (kn.r i)) o new=Cb (g (kn.r i))):mo c (aW m a.bt (a.off+i.toNat*6+o) new) k b a ks (kn.tG i g):=by
 have⟨l,p,n⟩:=h.nes;refine⟨h.bU.congr (cw _ _ _ _ l),h.jZ,?_,h.eM.fH (λ_=>cw _ _ _ _ n.symm) (λ_=>O),by rw[lR];exact h.iY,by rw[lR];exact h.yK⟩;rw[Yu d e,<-Zl (Jj d e) j f,kK];exact h.aU.eE (by rw[vd];omega)
def mo.qG(h:mo c m k b a ks kn)(d:∀b,m.size<=b->c b=0)(new:ae):eu (·=k) c m c (aW m a.bt o new):=eu.aW d (h.aU.bt h.adO).2 _ _
def mo.aev(h:mo c m k b a ks kn)(d:0<=i)(e:i<kn.aU.length):aS m ks.bt (ks.off+i.toNat*1)=some (vi (br kn.eM i)):=by
 have:=h.eM.kv i.toNat (.i (br kn.eM i)) (by rw[eB,jJ d cC];rfl);rw[IN];exact this
def mo.wrK(h:mo c m k b a ks kn)(d:0<=i)(e:i<kn.aU.length):gK m ks.bt (ks.off+i.toNat*1) 1:=by grind [mo.eM,iV.Ur,mo.yK]
theorem mo.adN(h:mo c m k b a ks kn)(d:0<=i)(g:i<kn.aU.length)(v:Int):mo c (aW m ks.bt (ks.off+i.toNat*1) [.i v]) k b a ks {kn with eM:=iv kn.eM i v}:=by
 have⟨j,e,f⟩:=h.nes;exact⟨h.bU.congr (cw _ _ _ _ e),h.jZ,h.aU.fH (λ_=>cw _ _ _ _ f) (λ_=>O),h.eM.iv d cC v,h.iY,by rw[jE];exact h.yK⟩
def mo.Tm(h:mo c m k b a ks kn)(d:∀b,m.size<=b->c b=0)(o:Nat)(new:ae):eu (·=k) c m c (aW m ks.bt o new):=eu.aW d (h.eM.bt h.aez).2 _ _
end
@[grind cases] structure nY (kn:Kn) (n:Nat) (B:Int):Prop where
 aT:kn.aU.length=n
 bF:∀i,0<=i->0<=(kn.r i).bF/\(kn.r i).bF<=B
 fr:∀i,0<=i->(kn.r i).fr<n
 lF:∀i,0<=i->-1<=(kn.r i).lF/\(kn.r i).lF<=1000
 IU:∃rank:Int->Nat,∀i,0<=i->0<=(kn.r i).fr->rank (kn.r i).fr<rank i
end
section
variable{f:tE->tE}
variable{j r:ag}{m p:D}{k b n:Nat}{h ks:E}{kn q:Kn}{i d t o B:Int}{l:tE->tE}
def mo.jB(a:mo j m k b h ks kn):aS m b 0=some h.v/\aS m b 1=some ks.v:=⟨a.bU.dg 0,a.bU.dg 1⟩
def Qk(a:0<=i)(b:i<kn.aU.length)(c:l (kn.r i)=kn.r i):kn.tG i l=kn:=by
 have e:(kn.tG i l).aU=kn.aU:=by
  rw[Yu a b,c];apply eA;grind [List.getElem?_set_self,Jj,List.getElem?_set_ne]
 cases kn;simp only[Kn.tG]at e⊢;rw[e]
theorem BT:(kn.tG i f).tG i l=kn.tG i λr=>l (f r):=by
 grind [Kn.tG,Function.comp_def]
def Pd(a:0<=i)(b:i<kn.aU.length)(c:f (kn.r i)=l (kn.r i)):kn.tG i f=kn.tG i l:=by
 unfold Kn.tG;congr 1;apply eA;grind [Jj]
def vZ.ok(h:nY kn n B)(w:vZ kn q):nY q n B:=by
 let⟨b,c⟩:=h.IU;refine⟨w.aT.trans h.aT,λi a=>by rw[w.bF i a];exact h.bF i a,λi a=>?_,λi a=>?_,b,λi a e=>?_⟩
 .grind [nY.fr,vZ.fr]
 .grind [nY.lF,vZ.lF]
 .grind [vZ.fr]
theorem nY.aP(h:nY kn n B){a:Int}(c:B<=a):nY kn n a:=⟨h.aT,λi b=>⟨(h.bF i b).1,yx (h.bF i b).2 c⟩,h.fr,h.lF,h.IU⟩
theorem nY.iA(h:nY kn n B)(b:0<=i/\i<n){e B':Int}(g:B<=B')(k:0<=(kn.r i).bF+e/\(kn.r i).bF+e<=B'):nY (kn.iA i e) n B':=by
 let⟨f,d⟩:=h.IU;have c:=h.aT;have R:∀{j:Int},0<=j->(kn.iA i e).r j={kn.r j with bF:=(kn.r j).bF+if j=i then e else 0}:=λa=>yY ⟨b.1,V⟩ a;refine⟨by rw[rl,c],λj a=>?_,λj a=>by rw[R a];exact h.fr j a,λj a=>by rw[R a];exact h.lF j a,f,λj a q=>by rw[R a]at q⊢;exact d j a q⟩;have:=h.bF j a;grind
def nY.eE(h:nY kn n B)(hd:0<=d/\d<n){B':Int}(g:B<=B')(c:0<=o/\o<=B'):nY (kn.eE d t o) n B':=by
 let⟨f,i⟩:=h.IU;have b:=h.aT;have R:∀{j:Int},0<=j->(kn.eE d t o).r j=if j=d then⟨t,o,false,-1,-1,-1⟩else tF d (kn.r j):=by grind [QO]
 have C:∀r:tE,(tF d r).bF=r.bF/\(tF d r).lF=r.lF/\((tF d r).fr=r.fr\/(tF d r).fr= -1):=λr=>by
  grind [tF]
 refine⟨by rw[Cf,b],λj a=>?_,λj a=>?_,λj a=>?_,f,λj a q=>?_⟩
 .rw[R a];split
  .exact c
  .rw[(C _).1];have:=h.bF j a;omega
 .rw[R a];split
  .grind
  .have:=h.fr j a;rcases(C (kn.r j)).2.2 with e|e<;>omega
 .rw[R a];split
  .grind
  .rw[(C _).2.1];exact h.lF j a
 .rw[R a]at q⊢;split at q
  .simp at q
  grind [Kn.r]
def aaK(hd:0<=d/\d<kn.aU.length){j:Int}(a:0<=j):((kn.eE d t o).r j).fr≠d:=by
 grind [QO,tF]
def nY.Hj(h:nY kn n B)(hd:0<=d/\d<n){a f:Int}(i:0<=a/\a<n/\a≠d)(k:∀j,0<=j->(kn.r j).fr≠d):nY (kn.Hj d a f) n B:=by
 let⟨c,l⟩:=h.IU;have e:=h.aT;have R:∀{j:Int},0<=j->(kn.Hj d a f).r j=if j=d/\j<kn.aU.length then{kn.r j with fr:=a,Ez:=f}else kn.r j:=λb=>IA hd.1 b
 refine⟨by unfold Kn.Hj;rw[lR,e],λj b=>?_,λj b=>?_,λj b=>?_,λj=>if j=d then c a+1 else c j,λj b q=>?_⟩
 .grind [nY.bF]
 .grind [nY.fr]
 .rw[R b];split<;>exact h.lF j b
 .rw[R b]at q⊢;by_cases g:j=d
  .grind
  grind [Kn.r]
def nY.jH(h:nY kn n B){c:Int}(b:0<=i)(e: -1<=c/\c<=1000):nY (kn.jH i c) n B:=by
 let⟨d,f⟩:=h.IU;have R:∀{j:Int},0<=j->(kn.jH i c).r j=if j=i/\j<kn.aU.length then{kn.r j with lF:=c}else kn.r j:=λa=>IA b a
 refine⟨by unfold Kn.jH;rw[lR,h.aT],λj a=>?_,λj a=>?_,λj a=>?_,d,λj a q=>?_⟩
 .grind [nY.bF]
 .grind [nY.fr]
 .grind [nY.lF]
 .grind
def nY.eM(h:nY kn n B){l:ab}:nY {kn with eM:=l} n B:=⟨h.aT,h.bF,h.fr,h.lF,h.IU⟩
def oH(c:mo j m k b h ks kn)(g:nY kn n B)(t:i<n):bJ dP 155 [vp b 0,vi i] m λx p=>∃r:Bool,x=vb r/\p=m/\(r=true<->0<=i/\rE kn i):=by
 let⟨w,u⟩:=g.IU;apply BK (b,0);simp -zeta only;refine⟨λa M=>M=m/\a<n/\(0<=a/\rE kn a<->0<=i/\rE kn i),λa _=>if 0<=a then w a+1 else 0,⟨O,t,Nz⟩,?_⟩;rintro a M ⟨rfl,C,f⟩;have D:=g.aT;have E:=c.Jp;refine⟨λhd=>?_,λhd=>⟨false,O,O,λe=>(by cases e),λc=>by have:=f.2 c;simp at hd;omega⟩⟩;simp only[bh]at hd;let⟨y,g1,g2,z,s,A⟩:=c.dg hd V;refine⟨h,c.jB.1,hd,V,_,g1,λe=>?_,λe=>?_⟩
 .simp only[bh]at e;exact⟨true,O,O,λ_=>f.1 ⟨hd,.wY (bz e)⟩,λ_=>O⟩
 have q:¬0<(kn.r a).bF:=sp e;refine⟨h,c.jB.1,hd,V,_,g2,λe=>⟨true,O,O,λ_=>f.1 ⟨hd,.wY (bH e)⟩,λ_=>O⟩,λe=>?_⟩;have v:0<=(kn.r a).fr/\rE kn (kn.r a).fr<->0<=a/\rE kn a:=⟨λc=>⟨hd,.qC c.1 c.2⟩,λc=>by
  rcases c.2 with d|⟨l,o⟩
  .rcases d with d|d
   .exact absurd d q
   .rw[d]at e;cases e
  .exact⟨l,o⟩⟩
 refine⟨h,c.jB.1,hd,V,_,s,⟨O,g.fr a hd,v.trans f⟩,?_⟩;simp only[hd,vW];split
 .rename_i d;have:=u a hd d;omega
 .omega
def sR(q:∀b,m.size<=b->j b=0)(c:mo j m k b h ks kn)(f:nY kn n B)(y:B<=1000000000)(a:0<=i)(z:i<n):
 bJ dP 156 [vp b 0,vi i] m λv p=>∃r:Bool,v=vb r/\mo j p k b h ks (kn.iA i (-1))/\eu (·=k) j m j p/\(r=true<->0<=((kn.iA i (-1)).r i).bF):=by
 have A:=f.aT
 have D:=c.Jp
 have C:=f.bF i a
 let⟨t,g1,g2,u,w,x⟩:=c.dg a V
 apply Dj (b,0)
 simp -zeta only
 have s:eV ((kn.r i).bF -1)=(kn.r i).bF+ -1:=gJ
 refine⟨h,c.jB.1,a,V,_,g1,a,V,c.wr a V V,?_⟩
 intro e
 have d:mo j e k b h ks (kn.iA i (-1)):=c.cE (g:=λr=>{r with bF:=r.bF+ -1}) a V bO (by rw[s];rfl)
 have l:eu (·=k) j m j e:=c.qG q _
 obtain⟨_,o,_⟩:=d.dg a (by rw[rl];omega)
 refine⟨h,d.jB.1,a,V,_,o,_,O,d,l,?_⟩
 simp
def wJ(d:Int):Nat->Kn->Kn
 |0,k=>k
 |j+1,k=>(wJ d j k).tG j (tF d)
def SC:∀j,(wJ d j kn).aU.length=kn.aU.length
 |0=>O
 |j+1=>by rw[wJ,lR,SC j]
def PJ:∀j,(wJ d j kn).eM=kn.eM
 |0=>O
 |j+1=>by rw[wJ,Kn.tG];exact PJ j
theorem SA:∀(j q:Nat),(wJ d j kn).aU[q]? =if q<j then(kn.aU[q]?).map (tF d)else kn.aU[q]?
 |0,q=>by simp[wJ]
 |j+1,q=>by
  rw[wJ,Kn.tG];simp only[afq,SA j q];grind [False]
def Y3{a:Nat}(b:a=kn.aU.length):(wJ d a kn).aU=kn.aU.map (tF d):=by
 apply eA;grind [SA,List.getElem?_eq_none]
end
section
variable{c r:ag}{e p:D}{h b q:Nat}{f ks:E}{kn v:Kn}{u a t l B:Int}{s:tE->tE}
def xQ:bJ dP 58 [] e λv p=>v=.agg #[vi (-1),vi 0,vb false,vi (-1),vi (-1),vi (-1)]/\J e p:=by
 apply Dn;unfold xR;simp -zeta only[dT];intro a c;have f:=pz a;have d:=px a;refine⟨trivial,by simp only[c,bE];omega,λj b=>?_⟩;rw[cw _ _ _ _ V];exact d.bB j b
def ql(K:∀b,e.size<=b->c b=0)(s:mo c e h b f ks kn)(hd:0<=a/\a<kn.aU.length):
 bJ dP 158 [vp b 0,vi a,vi t,vi l] e λaa p=>∃r:Bool,aa=vb r/\eu (·=h) c e c p/\(r=true->(kn.r a).bF<=0/\mo c p h b f ks (kn.eE a t l))/\((kn.r a).bF<=0->r=true):=by
 have ac:=s.Jp
 have hs:=s.iY
 obtain⟨g0,g1,g2,g3,g4,g5⟩:=s.dg hd.1 hd.2
 apply EK (b,0)
 simp -zeta only
 refine⟨f,s.jB.1,hd.1,V,_,g1,λw=>⟨false,O,eu.cX _ K,λw=>(by cases w),λs=>by simp at w;omega⟩,λw=>?_⟩
 have w:(kn.r a).bF<=0:=cC
 refine⟨f,s.jB.1,(xQ (e:=e)).aP ?_⟩
 rintro _ L ⟨rfl,E⟩
 have F:eu (·=h) c e c L:=eu.fZ E K
 have A:mo c L h b f ks kn:=s.ext E
 refine⟨-1,0,false,-1,-1,-1,O,E.cK s.jB.1,hd.1,V,by have:=A.wr (o:=0) (n:=6) hd.1 hd.2 V;simpa using this,?_⟩
 intro N
 have x:mo c N h b f ks (kn.tG a λ_=>⟨-1,0,false,-1,-1,-1⟩):=A.cE (o:=0) (g:=λ_=>⟨-1,0,false,-1,-1,-1⟩) hd.1 hd.2 bO O
 have G:eu (·=h) c e c N:=F.N (A.qG F.bI _)
 have l2:(kn.tG a λ_=>⟨-1,0,false,-1,-1,-1⟩).aU.length=kn.aU.length:=lR
 refine⟨f,x.jB.1,f,x.jB.1,hd.1,V,by have:=x.wr (o:=0) (n:=1) hd.1 V V;simpa using this,?_⟩
 intro P
 have B:mo c P h b f ks ((kn.tG a λ_=>⟨-1,0,false,-1,-1,-1⟩).tG a λr=>{r with lP:=t}):=x.cE (o:=0) (g:=λr=>{r with lP:=t}) hd.1 V bO O
 have H:eu (·=h) c e c P:=G.N (x.qG G.bI _)
 have l3:=lR (k:=kn.tG a λ_=>⟨-1,0,false,-1,-1,-1⟩) (j:=a) (g:=λr=>{r with lP:=t})
 refine⟨hd.1,V,B.wr (o:=1) hd.1 V V,?_⟩
 intro Q
 have z:=B.cE (o:=1) (new:=[.i l]) (g:=λr=>{r with bF:=l}) hd.1 V bO O
 have W:eu (·=h) c e c Q:=H.N (B.qG H.bI _)
 have Y:(((kn.tG a λ_=>⟨-1,0,false,-1,-1,-1⟩).tG a λr=>{r with lP:=t}).tG a λr=>{r with bF:=l})={kn with aU:=kn.aU.set a.toNat ⟨t,l,false,-1,-1,-1⟩}:=by
  simp only[Kn.tG];congr 1;apply eA;intro v;simp only[afq];by_cases J:a.toNat=v
  .grind [List.getElem?_set_self,Jj]
  .rw[jf J];simp[J]
 rw[Y]at z
 change mo c Q h b f ks _ at z
 refine⟨f,z.jB.1,iC (n:=kn.aU.length) V (λq M=>mo c M h b f ks (wJ a q {kn with aU:=kn.aU.set a.toNat ⟨t,l,false,-1,-1,-1⟩})/\eu (·=h) c e c M) ⟨z,W⟩ ?_⟩
 rintro q M ab μ hj ⟨u,y⟩ T
 have lj:(wJ a q {kn with aU:=kn.aU.set a.toNat ⟨t,l,false,-1,-1,-1⟩}).aU.length=kn.aU.length:=by rw[SC];simp
 refine dit (λU=>?_) λU=>?_
 .obtain⟨_,_,_,_,Z,_⟩:=u.dg (i:=q) V V
  refine⟨f,u.jB.1,V,V,_,Z,λv=>?_,λv=>?_⟩
  .simp only[bQ]at v
   refine⟨f,u.jB.1,f,u.jB.1,V,V,u.wr V V V,?_⟩
   intro R
   have C:mo c R h b f ks _:=u.cE (i:=q) (o:=4) (new:=[.i (-1)]) (g:=λr=>{r with fr:=-1}) V V bO O
   have I:eu (·=h) c e c R:=y.N (u.qG y.bI _)
   have l5:=lR (k:=wJ a q {kn with aU:=kn.aU.set a.toNat ⟨t,l,false,-1,-1,-1⟩}) (j:=q) (g:=λr=>{r with fr:=-1})
   refine⟨V,V,C.wr V V V,?_⟩
   intro S
   have D:=C.cE (i:=q) (o:=5) (new:=[.i (-1)]) (g:=λr=>{r with Ez:=-1}) V V bO O
   have X:eu (·=h) c e c S:=I.N (C.qG I.bI _)
   change mo c S h b f ks _ at D
   refine T V _ ⟨?_,X⟩
   rw[wJ]
   rw[BT]at D
   rw[Pd (l:=λr=>{r with fr:=-1,Ez:=-1}) V V (by unfold tF;rw[a8 v])]
   exact D
  .simp only[bd,ne_eq]at v
   refine T V _ ⟨?_,y⟩
   rw[wJ,Qk V V (by unfold tF;rw[aV v])];exact u
 .have:q=kn.aU.length:=V
  refine⟨true,O,y,λ_=>⟨w,?_⟩,λ_=>O⟩
  have I:wJ a q {kn with aU:=kn.aU.set a.toNat ⟨t,l,false,-1,-1,-1⟩}=kn.eE a t l:=by
   have C:=Y3 (kn:={kn with aU:=kn.aU.set a.toNat ⟨t,l,false,-1,-1,-1⟩}) (d:=a) (a:=q) cC;have D:=PJ (kn:={kn with aU:=kn.aU.set a.toNat ⟨t,l,false,-1,-1,-1⟩}) (d:=a) q;unfold Kn.eE;revert C D;generalize wJ a q _=kj;intro C D;cases kj;grind
  grind
def zX{s:E}{a:List ae}(d:s.len=q)(c:a.length=q)(f:∀b∈a,b.length=6)(b:jw e s.bt s.off a.flatten)(g:q<=1000000000):
 bJ dP 154 [s.v] e λv p=>∃r,v=r.v/\js e p rC 6 r a.flatten/\J e p:=by
 apply og
 exact Tn (b:=[.i 0,.i 0,.t false,.i 0,.i 0,.i 0]) d c f b V
def rL(v:∀b,e.size<=b->c b=0)(a:mo c e h b f ks kn)(q:Nat):
 bJ dP 108 [vp b 0] e λB p=>∃r l A z,B=vp l 0/\mo r p q l A z kn/\eu (λ_=>False) c e r p:=by
 have w:=a.Jp
 have x:=a.iY
 have u:=a.yK
 apply BL (b,0)
 simp -zeta only
 refine⟨f,a.jB.1,ks,a.jB.2,(zX w bO (KZ _) a.aU.kv V).aP ?_⟩
 rintro _ E ⟨o,rfl,o1,k⟩
 obtain⟨F,m,t,_⟩:=js.aaF o1 k v q
 have y:=(a.ext k).eM.nZ V
 refine⟨o,O,k.cK a.jB.2,(lG y V).aP ?_⟩
 rintro _ d ⟨s,rfl,o2,C⟩
 obtain⟨j,g,a2,_⟩:=js.aaF o2 C m.bI q
 refine⟨s,O,?_⟩
 intro n
 obtain⟨D,G⟩:=pu n
 have i:eu (λ_=>False) j d (pE j d.size q) n:=eu.pE D g.bI bY V q
 refine⟨pE j d.size q,d.size,o,s,O,⟨dJ.push d _ _,iE,(t.gX g id).gX i id,a2.gX i id,x,u⟩,(m.N g).N i⟩
end
section
def jn1(b r:tE):tE:=if r.lP≠b.lP then{r with lP:=-1}else r
def jn2(b r:tE):tE:=if r.lF≠b.lF\/r.lP<0 then{r with lF:=-1}else r
def jn3(b r:tE):tE:=if r.fr≠b.fr\/r.Ez≠b.Ez\/r.lP<0 then{r with fr:=-1,Ez:=-1}else r
def jn4(b r:tE):tE:={r with cW:=r.cW&&b.cW}
def jn(b r:tE):tE:=jn4 b (jn3 b (jn2 b (jn1 b r)))
def mM(a:Kn):Nat->Kn->Kn
 |0,k=>k
 |j+1,k=>(mM a j k).tG j (jn (a.r j))
variable{f h:ag}{m e:D}{k b n:Nat}{j ks:E}{kn c a:Kn}{i d t o B:Int}{g:tE->tE}
theorem TN(a:0<=i)(b:i<kn.aU.length):(kn.tG i g).r i=g (kn.r i):=by grind [IA]
def xU:∀j,(mM a j kn).aU.length=kn.aU.length
 |0=>O
 |j+1=>by rw[mM,lR,xU j]
def EP:∀j,(mM a j kn).eM=kn.eM
 |0=>O
 |j+1=>by rw[mM,Kn.tG];exact EP j
theorem P8:∀(j:Nat){i:Int},0<=i->(mM a j kn).r i=if i<j/\i<kn.aU.length then jn (a.r i) (kn.r i)else kn.r i
 |0,i,b=>by rw[aV V];rfl
 |j+1,i,b=>by
  rw[mM,IA V b,P8 j b,xU];grind [List.length]
theorem Qy(h:¬i<kn.aU.length):kn.r i=yM:=by
 grind [Kn.r,List.getElem?_eq_none]
theorem aam(b r:tE):(jn b r).bF=r.bF:=by grind [jn,jn4,jn3,jn2,jn1]
theorem aan(b r:tE):((jn b r).lP=r.lP/\r.lP=b.lP)\/(jn b r).lP= -1:=by
 grind [jn,jn4,jn3,jn2,jn1]
theorem aal(b r:tE):((jn b r).lF=r.lF/\r.lF=b.lF)\/(jn b r).lF= -1:=by
 grind [jn3,jn1,jn,jn4,jn2]
theorem acs(b r:tE):((jn b r).fr=r.fr/\(jn b r).Ez=r.Ez/\r.fr=b.fr/\r.Ez=b.Ez)\/(jn b r).fr= -1:=by
 grind [jn2,jn1,jn,jn4,jn3]
theorem Yl(b r:tE):(jn b r).cW=(r.cW&&b.cW):=by
 grind [jn3,jn2,jn1,jn,jn4]
def Za(d:kn.aU.length=a.aU.length)(c:kn.eM=a.eM)(e:∀j:Nat,j<kn.aU.length->(kn.r j).bF=(a.r j).bF):vZ kn (mM a kn.aU.length kn)/\vZ a (mM a kn.aU.length kn):=by
 have R:∀{i:Int},0<=i->(mM a kn.aU.length kn).r i=if i<kn.aU.length then jn (a.r i) (kn.r i)else kn.r i:=λ{i} b=>by
  grind [P8]
 have E:∀{i:Int},0<=i->(kn.r i).bF=(a.r i).bF:=λ{i} b=>by
  by_cases h:i<kn.aU.length
  .have:=e i.toNat V;grind
  .grind [Qy]
 have N:∀{i:Int},0<=i->¬i<kn.aU.length->kn.r i=a.r i:=by grind [Qy]
 refine⟨⟨xU _,λi b=>?_,λi b=>?_,λi b=>?_,λi b=>?_,λi b=>?_,EP _⟩,⟨(xU _).trans d,λi b=>?_,λi b=>?_,λi b=>?_,λi b=>?_,λi b=>?_,(EP _).trans c⟩⟩
 .grind [aam]
 .grind [aan]
 .grind [aal]
 .grind [acs]
 .grind [Yl]
 .grind [aam]
 .grind [aan]
 .grind [aal]
 .grind [acs]
 .grind [Yl]
end
section
variable{j:D}{f:tE->tE}{c:Nat}{K:D->Prop}
variable{e u:ag}{m l:D}{k q b p n:Nat}{a ks s r:E}{kn h:Kn}{i d t o B:Int}{g:tE->tE}
def nE(e:ag)(m:D)(k b:Nat)(a ks:E)(kn:Kn)(i:Int)(j:D)(g:tE->tE):Prop:=mo e m k b a ks (kn.tG i g)/\eu (·=k) e j e m
def nE.cE{j:D}(h:nE e m k b a ks kn i j g)(c:0<=i)(d:i<kn.aU.length){o:Nat}{new:ae}{f:tE->tE}(n:o+new.length<=6)(l:jm (Cb (g (kn.r i))) o new=Cb (f (g (kn.r i)))):
 nE e (aW m a.bt (a.off+i.toNat*6+o) new) k b a ks kn i j λr=>f (g r):=by
 refine⟨?_,h.2.N (h.1.qG h.2.bI _)⟩
 have:=h.1.cE (i:=i) (o:=o) (new:=new) (g:=f) c (by rw[lR];exact d) n (by rw[TN c d];exact l)
 rwa[BT]at this
def nE.bB(h:nE e m k b a ks kn i j g)(c:0<=i)(d:i<kn.aU.length)(n:f (g (kn.r i))=g (kn.r i)):nE e m k b a ks kn i j λr=>f (g r):=by
 refine⟨?_,h.2⟩;have l:kn.tG i (λr=>f (g r))=kn.tG i g:=by
  rw[<-BT,Qk c (by rw[lR];exact d) (by rw[TN c d];exact n)]
 rw[l];exact h.1
def nE.eqv(h:nE e m k b a ks kn i j g)(c:0<=i)(d:i<kn.aU.length)(l:f (kn.r i)=g (kn.r i)):nE e m k b a ks kn i j f:=by
 refine⟨?_,h.2⟩;rw[Pd c d l];exact h.1
def nE.dg{j:D}(h:nE e m k b a ks kn i j g)(c:0<=i)(d:i<kn.aU.length):aS m a.bt (a.off+i.toNat*6)=some (vi (g (kn.r i)).lP)/\aS m a.bt (a.off+i.toNat*6+1)=some (vi (g (kn.r i)).bF)/\aS m a.bt (a.off+i.toNat*6+2)=some (vb (g (kn.r i)).cW)/\
 aS m a.bt (a.off+i.toNat*6+3)=some (vi (g (kn.r i)).lF)/\aS m a.bt (a.off+i.toNat*6+4)=some (vi (g (kn.r i)).fr)/\aS m a.bt (a.off+i.toNat*6+5)=some (vi (g (kn.r i)).Ez):=by
 have:=h.1.dg (i:=i) c (by rw[lR];exact d)
 grind [TN]
theorem nE.wr{j:D}(h:nE e m k b a ks kn i j g)(c:0<=i)(d:i<kn.aU.length){o n:Nat}(f:o+n<=6):gK m a.bt (a.off+i.toNat*6+o) n:=h.1.wr c (by rw[lR];exact d) f
theorem nE.fg(n:nE e m k b a ks kn i j g){l:D}{h:tE->tE}(o:nE e l k b a ks kn i j h)(d:c<j.size)(f:e c≠k):gT [c] m l:=λx p=>by
 have:x=c:=sp p;subst this;rw[n.2.fH x d f,o.2.fH x d f]
def nE.mE{o:Nat}{x:Ce}(n:nE e m k b a ks kn i j g)(d:0<=i)(h:i<kn.aU.length)(t:c<j.size)(u:e c≠k)(q:o+1<=6)(p:jm (Cb (g (kn.r i))) o [x]=Cb (f (kn.r i)))
 (s:∀M,nE e M k b a ks kn i j f->K M):gK m a.bt (a.off+i.toNat*6+o) 1/\let l:=aW m a.bt (a.off+i.toNat*6+o) [x];gT [c] m l/\K l:=by
 have T:=n.cE d h (o:=o) (new:=[x]) (f:=λ_=>f (kn.r i)) q p
 have r:=T.eqv d h (f:=f) O
 grind [nE.wr,nE.fg]
def nE.rG(t:nE e m k b a ks kn i j g)(h:0<=i)(l:i<kn.aU.length)(n:c<j.size)(p:e c≠k)(v:f (kn.r i)={g (kn.r i)with fr:=-1,Ez:=-1})
 (u:∀M,nE e M k b a ks kn i j f->K M):gK m a.bt (a.off+i.toNat*6+4) 1/\let d:=aW m a.bt (a.off+i.toNat*6+4) [.i (-1)];gT [c] m d/\gK d a.bt (a.off+i.toNat*6+5) 1/\let q:=aW d a.bt (a.off+i.toNat*6+5) [.i (-1)];gT [c] d q/\K q:=by
 obtain⟨s,a2,T⟩:=t.mE (o:=4) (x:=.i (-1)) (f:=λr=>{g r with fr:=-1}) (K:=λM=>nE e M k b a ks kn i j λr=>{g r with fr:=-1}) h l n p V O (λ_=>id)
 refine⟨s,a2,?_⟩
 exact T.mE (o:=5) (x:=.i (-1)) (f:=f) h l n p V (by rw[v];rfl) u
def ZM(kn h:Kn):Prop:=kn.eM=h.eM/\∀j:Nat,j<kn.aU.length->(kn.r j).bF=(h.r j).bF
def Jg(hn:∀b,m.size<=b->e b=0)(d:mo e m k b a ks kn)(G:mo e m q p s r h)(hl:kn.aU.length=h.aU.length)(hk:k≠0)(ae:q≠k):
 bJ dP 161 [vp b 0,vp p 0] m λag l=>∃z:Bool,ag=vb z/\eu (·=k) e m e l/\(z=true->mo e l k b a ks (mM h kn.aU.length kn)/\vZ kn (mM h kn.aU.length kn)/\vZ h (mM h kn.aU.length kn))/\(z=true<->ZM kn h):=by
 have aj:=d.Jp
 have ak:=G.Jp
 have hs:=d.iY
 have s1:=d.yK
 have s2:=G.yK
 apply Di (b,0) (p,0)
 simp -zeta only[dT]
 refine⟨ks,d.jB.2,r,G.jB.2,(j8 (d.eM.nZ V) (G.eM.nZ V)).aP ?_⟩
 rintro _ m1 ⟨z,rfl,y,U⟩
 have Y:eu (·=k) e m e m1:=eu.fZ U hn
 refine⟨z,O,λu=>⟨false,O,Y,λu=>(by cases u),λu=>(by cases u),λd=>absurd d.1 (nb y u)⟩,λu=>?_⟩
 have aa:=yb y u
 refine⟨a,(d.ext U).jB.1,iC (n:=kn.aU.length) V (λj M=>mo e M k b a ks (mM h j kn)/\eu (·=k) e m e M/\∀B:Nat,B<j->(kn.r B).bF=(h.r B).bF) ⟨d.ext U,Y,V⟩ ?_⟩
 rintro j M ab μ hj ⟨H,F,T⟩ af
 have I:mo e M q p s r h:=G.gX F ae
 refine dit (λac=>?_) λac=>?_
 .have ai:(j:Int)<kn.aU.length:=V
  have lj:(mM h j kn).aU.length=kn.aU.length:=xU j
  have Z:(mM h j kn).r j=kn.r j:=by rw[P8 j V,aV V]
  obtain⟨f0,f1,f2,f3,f4,f5⟩:=I.dg (i:=j) V V
  refine⟨a,H.jB.1,V,V,s,I.jB.1,V,V,_,f0,_,f1,_,f2,_,f3,_,f4,_,f5,?_⟩
  intro P
  have z2:=pz P
  have W:=px P
  have L1:=H.bU.lt
  have L2:=I.bU.lt
  have D:=(I.aU.bt I.adO).1
  have A:∀{c:Nat},c<M.size->∀o,aS P c o=aS M c o:=λw o=>bD (W.bB _ w) o
  have ah:=H.ext W
  have r0:e M.size=0:=F.bI _ bY
  clear_value P
  refine⟨A D _,A D _,A D _,A D _,A D _,A D _,A L2 _,A L1 _,?_⟩
  intro v
  have z3:v.size=M.size+1:=by simp only[v,bE];omega
  have x3:J M v:=⟨V,λc w=>by simp only[v];rw[cw _ _ _ _ V];exact W.bB c w⟩
  clear_value v
  have ad:=H.ext x3
  have S:eu (·=k) e m e v:=F.N (eu.fZ x3 F.bI)
  have Q:nE e v k b a ks (mM h j kn) j v id:=⟨by rw[Qk V V O];exact ad,eu.cX _ S.bI⟩
  have f:(0:Int)<=j:=V
  have g:(j:Int)<(mM h j kn).aU.length:=V
  have w:M.size<v.size:=V
  have y:e M.size≠k:=by rw[r0];exact hk.symm
  obtain⟨t0,t1,_⟩:=Q.dg f g
  refine⟨_,t1,λB=>⟨false,O,S,λu=>(by cases u),λu=>(by cases u),λd=>by
   have t:=d.2 j V;rw[<-Z]at t;simp only[id,Uu,ne_eq]at B;exact absurd t B⟩,λB=>⟨λN=>nE e N k b a ks (mM h j kn) j v (jn1 (h.r j)),⟨_,t0,λt=>?_,λt=>?_⟩,?_⟩⟩
  .exact Q.mE (o:=0) (x:=.i (-1)) f g w y V (by unfold jn1;rw[a8 (sp t)];rfl) λ_=>id
  .exact Q.eqv f g (by unfold jn1;rw[aV (sp t)];rfl)
  intro N1 L
  obtain⟨u0,_,_,u3,_,_⟩:=L.dg f g
  refine⟨λN=>nE e N k b a ks (mM h j kn) j v λz=>jn2 (h.r j) (jn1 (h.r j) z),⟨_,u3,λt=>?_,λt=>⟨_,u0,λC=>?_,λC=>?_⟩⟩,?_⟩
  .exact L.mE (o:=3) (x:=.i (-1)) f g w y V (by unfold jn2;rw[a8 (bz (sp t))];rfl) λ_=>id
  .exact L.mE (o:=3) (x:=.i (-1)) f g w y V (by unfold jn2;rw[a8 (bH (sp C))];rfl) λ_=>id
  .exact L.eqv f g (by unfold jn2;rw[aV (λd=>d.elim (sp t) (sp C))])
  intro N2 E
  obtain⟨w0,_,_,_,w4,w5⟩:=E.dg f g
  refine⟨λN=>nE e N k b a ks (mM h j kn) j v λz=>jn3 (h.r j) (jn2 (h.r j) (jn1 (h.r j) z)),⟨_,w4,λt=>?_,λt=>⟨_,w5,λC=>?_,λC=>⟨_,w0,λp2=>?_,λp2=>?_⟩⟩⟩,?_⟩
  .exact E.rG f g w y (by unfold jn3;rw[a8 (bz (sp t))]) λ_=>id
  .exact E.rG f g w y (by unfold jn3;rw[a8 (bH (bz (sp C)))]) λ_=>id
  .exact E.rG f g w y (by unfold jn3;rw[a8 (bH (bH (sp p2)))]) λ_=>id
  .exact E.eqv f g (by unfold jn3;rw[aV (λd=>d.elim (sp t) λd=>d.elim (sp C) (sp p2))])
  intro N3 R
  obtain⟨_,_,v2,_⟩:=R.dg f g
  have jX:∀N,nE e N k b a ks (mM h j kn) j v (jn (h.r j))->ab (eV ((j:Int)+1)) N/\μ (eV ((j:Int)+1)) N<μ j M:=λN X=>
   af V N ⟨X.1,S.N X.2,λK hq=>by
    by_cases u:K=j
    .subst u;have:(id ((mM h K kn).r K)).bF=(h.r K).bF:=sp B;rw[id,Z]at this;exact this
    .exact T K V⟩
  refine⟨_,v2,λt=>?_,λt=>?_⟩
  .exact R.mE (o:=2) f g w y V (by show jm (Cb _) 2 [.t _]=Cb (jn4 _ _);unfold jn4;rw[t];simp[Cb,jm]) jX
  .exact R.mE (o:=2) f g w y V (by show jm (Cb _) 2 [.t _]=Cb (jn4 _ _);unfold jn4;rw[t];simp[Cb,jm]) jX
 .have f:j=kn.aU.length:=V
  subst f
  obtain⟨g,t⟩:=Za hl aa T
  exact⟨true,O,F,λ_=>⟨H,g,t⟩,λ_=>⟨aa,T⟩,λ_=>O⟩
end
section
def Ik(e:ag)(m:D)(w:Nat)(B:Int)(i:Nat):Option (Nat×Nat)->Option Kn->Prop
 |none,none=>True
 |some q,some kn=>q.2=0/\∃u ks,mo e m (10+i) q.1 u ks kn/\nY kn w B
 |_,_=>False
@[grind cases] structure rj (m0:D) (ro:ag) (m:D) (v:Nat) (d f a l c bs:E) (p:dS) (L:aq) (B:Int):Prop where
 de:Bs m0 ro m
 bU:dJ m v jd [.s d,.s f,.s a,.s l,.i p.bP,.i p.aU,.s c,.s bs]
 jZ:ro v=4
 kL:∃Q:List (Option (Nat×Nat)),Q.length=L.length/\iV ro m nM 1 3 bs (Q.map Ce.pp)/\∀(i:Nat) q o,Q[i]? =some q->L[i]? =some o->Ik ro m p.aU.toNat B i q o
 aT:1<=L.length/\L.length<=1000000
open Classical in
noncomputable def xF (L:aq) (kn:Kn) (i:Nat):Option aq:=
 match L[i]? with
 |some none=>some (L.set i (some kn))
 |some (some old)=>if ZM old kn then some (L.set i (some (mM kn old.aU.length old)))else none
 |none=>none
variable{k m r:D}{e s:ag}{v b w:Nat}{d f a l c h u ks:E}{p:dS}{L:aq}{B:Int}{kn t:Kn}{g:Int}{q:Option (Nat×Nat)}{j:Option Kn}{i:Nat}
theorem Ik.gX{P:Nat->Prop}(h:Ik e m w B i q j)(d:eu P e m s r)(f:¬P (10+i)):Ik s r w B i q j:=by
 cases q<;>cases j<;>first|exact h|skip
 let⟨a,u,ks,b,c⟩:=h;exact⟨a,u,ks,b.gX d f,c⟩
theorem Ik.aP{a:Int}(h:Ik e m w B i q j)(f:B<=a):Ik e m w a i q j:=by
 cases q<;>cases j<;>first|exact h|skip
 let⟨b,u,ks,c,d⟩:=h;exact⟨b,u,ks,c,d.aP f⟩
theorem rj.aP{b:Int}(g:rj k e m v d f a l c h p L B)(i:B<=b):rj k e m v d f a l c h p L b:=by
 constructor<;>grind [rj.kL,rj.de,rj.bU,rj.jZ,Ik.aP,rj.aT]
theorem Bs.Tl{P:Nat->Prop}(B:Bs k e m)(h:eu P e m s r)(c:¬P 0):Bs k s r:=
 ⟨⟨fC B.de.aQ h.aQ,λb a=>(h.fH b (B.de.lt a) cC).trans (B.de.bB b a)⟩,λb a=>by rw[h.jZ b (B.de.lt a)];exact B.mT b a,h.bI⟩
def rj.gX{P:Nat->Prop}(g:rj k e m v d f a l c h p L B)(i:eu P e m s r)(j:∀b,P b->b=5\/b=7):rj k s r v d f a l c h p L B:=by
 constructor<;>grind [rj.kL,rj.de,Bs.Tl,rj.bU,dJ.congr,eu.fH,dJ.lt,rj.jZ,eu.jZ,iV.gX,Ik.gX,rj.aT]
def ue(w:rj k e m v d f a l c h p L B)(X:mo e m 5 b u ks kn)(ok:nY kn p.aU.toNat B)(P:0<=g/\g<L.length):
 bJ dP 112 [vp v 0,vp b 0,vi g] m λaf r=>∃D s,af=vb D/\eu (λz=>z=3\/10<=z) e m s r/\(D=true->∃t,rj k s r v d f a l c h p (L.set g.toNat (some t)) B/\vZ kn t/\(∀old,L[g.toNat]? =some (some old)->vZ old t)/\xF L kn g.toNat=some (L.set g.toNat (some t)))/\(D=false->xF L kn g.toNat=none):=by
 let⟨Q,U,E,T⟩:=w.kL
 have Y:=w.aT
 have ah:h.len=Q.length:=by have:=E.aT;simp at this;omega
 have aa:h.cap≠0:=by have:=E.le;omega
 let⟨j,N⟩:=dY L g.toNat
 let⟨q,Z⟩:=dY Q g.toNat
 have W:aS m h.bt (h.off+g.toNat*1)=some (Ce.v (.pp q)):=by
  have:=E.kv g.toNat (.pp q) cC;grind
 have K:aS m v 7=some h.v:=w.bU.dg 7
 apply yH (v,0) (b,0)
 simp -zeta only
 have M:=T _ q j Z N
 refine⟨h,K,P.1,V,q,W,λx=>?_,λx=>?_⟩
 .have:q=none:=sp x
  subst this
  cases j with
  |some z=>exact M.elim
  |none=>
   refine⟨h,K,(rL w.de.bI X (10+g.toNat)).aP ?_⟩
   rintro _ R ⟨F,b1,ac,ab,rfl,K1,y⟩
   have h1:=w.gX y (λ_=>False.elim)
   let⟨Q1,ag,H,ae⟩:=w.kL
   have H:=E.gX y id
   refine⟨some (b1,0),O,bD (y.fH v w.bU.lt id) _,P.1,V,?_,?_⟩
   .have:=H.wr (o:=g.toNat) (n:=1) cC
    grind
   intro S
   have J:eu (·=3) F R F S:=eu.aW y.bI (H.bt aa).2 _ _
   have A:h.off+g.toNat*1=h.off+g.toNat:=V
   have ad:iV F S nM 1 3 h (jm (Q.map Ce.pp) g.toNat [.pp (some (b1,0))]):=by
    have:=H.eE (o:=g.toNat) (new:=[.pp (some (b1,0))]) cC;grind
   have I:eu (λz=>z=3\/10<=z) e m F S:=(y.aP λ_=>False.elim).N (J.aP λ_ x=>bz x)
   refine⟨true,F,O,I,λ_=>⟨kn,⟨w.de.Tl I V,?_,(I.jZ v w.bU.lt).trans w.jZ,⟨Q.set g.toNat (some (b1,0)),by simp[U],?_,?_⟩,sp Y⟩,vZ.cX _,λold x=>cC,by unfold xF;rw[N]⟩,λx=>by cases x⟩
   .grind [dJ.congr]
   .grind [jm,List.map,List.map_set]
   .intro i q' o' C A
    by_cases G:g.toNat=i
    .subst G
     rw[fy V]at C A
     cases C;cases A
     exact⟨O,ac,ab,K1.gX J V,ok⟩
    .rw[jf G]at C A
     exact((T i q' o' C A).gX y id).gX J V
 .cases q with
  |none=>cases x
  |some q=>
   cases j with
   |none=>exact M.elim
   |some old=>
    let⟨H,ae,ac,F,ad⟩:=M
    let⟨qb,qo⟩:=q
    simp only at H F
    subst H
    refine⟨h,K,P.1,V,some (qb,0),W,(Jg w.de.bI F X cC V V).aP ?_⟩
    rintro _ R ⟨D,rfl,y,hr,S⟩
    refine⟨D,O,D,e,O,y.aP λz x=>V,λx=>?_,λx=>?_⟩
    rotate_left
    .grind [xF]
    let⟨I,w1,w2⟩:=hr x
    generalize ab:mM kn old.aU.length old=t at*
    have J:eu (λz=>z=3\/10<=z) e m e R:=by grind [eu.aP]
    refine⟨t,⟨w.de.Tl J V,w.bU.congr (y.fH v w.bU.lt cC),w.jZ,⟨Q,by simp[U],E.gX y V,?_⟩,sp Y⟩,w2,λag e'=>cC,by unfold xF;rw[N];simp only[];rw[a8 (S.1 x),ab]⟩
    intro i q' o' C A
    by_cases G:g.toNat=i
    .subst G
     rw[fy V]at A
     rw[Z]at C
     cases C;cases A
     exact⟨O,ae,ac,I,vZ.ok ad w1⟩
    .grind [Ik.gX]
end
section
@[grind cases] structure Vx (m0:D) (d f a l c:E) (im:cO) (p:dS):Prop where
 ok:gL im
 qu:p∈im.cU
 bR:dw m0 d im.bR
 kX:oZ m0 f im.cU
 aY:bg m0 a p.aY
 cW:bg m0 l p.cW
 cD:iz m0 c p.cD
@[grind cases] structure Wk (m0:D) (ro:ag) (m:D) (b:Nat) (rs ks:E) (kn:Kn) (n:Nat) (B:Int):Prop where
 bs:Bs m0 ro m
 qu:mo ro m 5 b rs ks kn
 ok:nY kn n B
def nG(u:Nat)(d:ap)(j:D)(e:ag)(m:D)(b:Nat)(k ks:E)(n:Nat)(B:Int)(Q:Kn->Prop)(F:Option Kn):Prop:=
 bJ dP u d m λw q=>∃c r,w=vb c/\eu (·=5) e m r q/\(c=true->∃a,Wk j r q b k ks a n B/\Q a/\F=some a)/\(c=false->F=none)
open Classical in
noncomputable def Qh (h:cO) (x:Instr) (kn:Kn):Option Kn:=
 if rE kn (br x.aO 0)/\0<=(kn.r (br x.aO 0)).lF/\x.cG<(da h.bR (kn.r (br x.aO 0)).lF).length/\(kn.r x.bA).bF<=0 then
  some (if x.bA=br x.aO 0 then kn.eE x.bA (((da h.bR (kn.r (br x.aO 0)).lF)[x.cG.toNat]?).getD 0) 0 else(kn.eE x.bA (((da h.bR (kn.r (br x.aO 0)).lF)[x.cG.toNat]?).getD 0) 0).Hj x.bA (br x.aO 0) x.cG)
 else none
variable{j m q:D}{e r:ag}{v b n H:Nat}{w u y z c G k ks A I:E}{h:cO}{p:dS}{L:aq}{B F:Int}{kn C:Kn}{x:Instr}{s:Int}
def Wk.ext(h:Wk j e m b k ks kn n B)(a:J m q):Wk j e q b k ks kn n B:=⟨⟨h.bs.de.N a,h.bs.mT,λc d=>h.bs.bI c (fC a.aQ d)⟩,h.qu.ext a,h.ok⟩
theorem Wk.of(h:Wk j e m b k ks kn n B)(a:eu (·=5) e m r q)(c:mo r q 5 b k ks C)(d:nY C n F):Wk j r q b k ks C n F:=⟨h.bs.Tl a cH,c,d⟩
def nG.no{K:Kn->Prop}{F:Option Kn}(f:eu (·=5) e m r q)(d:F=none):∃c r,vb false=vb c/\eu (·=5) e m r q/\(c=true->∃a,Wk j r q b k ks a n B/\K a/\F=some a)/\(c=false->F=none):=⟨false,r,O,f,λa=>(by cases a),λ_=>d⟩
def Vx.dj(C:Vx j w u y z c h p):eT h.bR:=C.ok.kX.dj
theorem vX.pV(b:x.op=19){k a:Kn}(c:rE k (br x.aO 0))(d:0<=(k.r (br x.aO 0)).lF)(g:(da h.bR (k.r (br x.aO 0)).lF)[x.cG.toNat]? =some s)(e:(k.r x.bA).bF<=0)
 (f:a=(if x.bA=br x.aO 0 then k.eE x.bA s 0 else(k.eE x.bA s 0).Hj x.bA (br x.aO 0) x.cG)):vX h p k x a:=by
 grind [vX]
def Dp(M:Vx j w u y z c h p)(hb:dJ m v jd [.s w,.s u,.s y,.s z,.i p.bP,.i p.aU,.s c,.s G])(W:Wk j e m b k ks kn p.aU.toNat B)(hB:0<=B)(hx:iJ h p H x)(ag:x.op=19)(ha:bg j A x.aO):
 nG 159 [vp v 0,vp b 0,.agg #[vi x.op,vi x.bA,vi x.cG,vi x.cR,A.v,I.v]] j e m b k ks p.aU.toNat B (vX h p kn x) (Qh h x kn):=by
 have R:=hx.op
 unfold kQ at R
 simp only[ag]at R
 simp+decide only[mD,vW]at R
 let⟨aq,aj,av⟩:=R
 have aw:=(M.ok.eR p M.qu).aU
 have az:=ha.aT
 have ai:=ba (jJ (l:=x.aO) (i:=0) V V)
 have K:=hx.aO _ ai
 have E:=hx.bA
 have au:=W.ok.aT
 have ax:=W.qu.Jp
 generalize hA:br x.aO 0=r0 at*
 have P:¬(rE kn r0/\0<=(kn.r r0).lF/\x.cG<(da h.bR (kn.r r0).lF).length/\(kn.r x.bA).bF<=0)->Qh h x kn=none:=by grind [Qh]
 unfold nG
 apply zP (v,0) (b,0)
 simp -zeta only[dT]
 intro q
 obtain⟨x1,z1⟩:=pu q
 clear_value q
 have Y:=W.ext x1
 have g0:aS q A.bt (A.off+Int.toNat 0*1)=some (vi r0):=by
  have:=ha.br (jJ (l:=x.aO) (i:=0) V V);rw[hA]at this;exact Y.bs.de.aS cC
 let⟨q0,q1,q2,q3,q4,q5⟩:=Y.qu.dg (i:=r0) K.1 V
 refine⟨V,V,r0,g0,k,Y.qu.jB.1,K.1,V,_,q0,_,q1,_,q2,_,q3,_,q4,_,q5,?_⟩
 intro m2 T
 have z2:m2.size=m.size+2:=cC
 have x2:J q T:=by grind [J.cX,J.cz,J.aW]
 have U:=x1.N x2
 have Q:∀c∈[q.size,m.size],c<T.size:=by grind [bE]
 have N:=W.ext U
 have n0:∀c∈[q.size,m.size],e c≠5:=λc D=>by
  have:m.size<=c:=by simp at D;omega
  rw[W.bs.bI c this];decide
 have c3:eu (·=5) e m e T:=eu.fZ U W.bs.bI
 clear_value T
 refine(oH N.qu N.ok V).aP ?_
 rintro _ _ ⟨r,rfl,rfl,S⟩
 refine⟨dt.fg Q,r,O,λn=>nG.no c3 (P λC=>nb S n ⟨K.1,C.1⟩),λn=>?_⟩
 have n:r=true:=cC
 have af:=(S.1 n).2
 refine⟨λn=>nG.no c3 (P λC=>by have:=C.2.1;simp at n;omega),λn=>?_⟩
 have ah:0<=(kn.r r0).lF:=cC
 have ar:=W.ok.lF r0 K.1
 refine⟨w,U.aS (hb.dg 0),(uZ (dw.ext N.bs.de M.bR) M.dj V).aP ?_⟩
 rintro _ m4 ⟨ab,rfl,hs,L⟩
 have ay:=hs.aT
 have Z:=N.ext L
 have ao:=U.N L
 have c4:eu (·=5) e m e m4:=eu.fZ ao W.bs.bI
 refine⟨L.fg Q,ab,O,λn=>nG.no c4 (P λC=>by have:=C.2.2.1;simp at n;omega),λn=>?_⟩
 have al:x.cG<(da h.bR (kn.r r0).lF).length:=cC
 let⟨s,ht⟩:=dY (da h.bR (kn.r r0).lF) x.cG.toNat
 have gt:aS m4 ab.bt (ab.off+x.cG.toNat*1)=some (vi s):=hs.br ht
 refine⟨aj,V,s,gt,(ql (t:=s) (l:=0) Z.bs.bI Z.qu (a:=x.bA) V).aP ?_⟩
 rintro _ m5 ⟨r,rfl,c5,S,am⟩
 have aa:=c4.N c5
 have an:gT [q.size,m.size] m4 m5:=by grind [eu.Du]
 refine⟨an,r,O,λn=>nG.no aa (P λC=>by rw[am C.2.2.2]at n;cases n),λn=>?_⟩
 let⟨ho,C⟩:=S cC
 have hY:Qh h x kn=some (if x.bA=r0 then kn.eE x.bA s 0 else(kn.eE x.bA s 0).Hj x.bA r0 x.cG):=by
  unfold Qh;rw[hA,a8 ⟨af,ah,al,ho⟩,ht];rfl
 have ae:=W.ok.eE (d:=x.bA) (t:=s) (o:=0) V (dN B) ⟨dN 0,hB⟩
 have W5:=Z.of c5 C ae
 refine⟨λn=>?_,λn=>?_⟩
 .have ak:x.bA≠r0:=cC
  refine⟨k,C.jB.1,k,C.jB.1,E.1,V,C.wr (o:=4) E.1 cC V,?_⟩
  intro F
  have X:mo e F 5 b k ks _:=C.cE (i:=x.bA) (o:=4) (new:=[.i r0]) (g:=λr=>{r with fr:=r0}) E.1 cC bO O
  have c6:eu (·=5) _ m5 _ F:=C.qG aa.bI (o:=k.off+x.bA.toNat*6+4) [.i r0]
  have z5:=c5.aQ
  have ac:gT [q.size,m.size] m5 F:=c6.Du λc D=>⟨by have:=Q c D;have:=L.aQ;omega,n0 c D⟩
  have ad:eu (·=5) e m e F:=aa.N c6
  have z6:=c6.aQ
  clear_value F
  refine⟨ac,bD (ac _ bO) _,bD (ac _ bO) _,E.1,V,X.wr (o:=5) E.1 (by rw[lR,Cf];omega) V,?_⟩
  intro m7
  have K7:=X.cE (i:=x.bA) (o:=5) (new:=[.i x.cG]) (g:=λr=>{r with Ez:=x.cG}) E.1 (by rw[lR,Cf];omega) bO O
  have c7:=X.qG ad.bI (o:=k.off+x.bA.toNat*6+5) [.i x.cG]
  rw[BT]at K7
  change mo e m7 5 b k ks ((kn.eE x.bA s 0).Hj x.bA r0 x.cG)at K7
  have aC:gT [q.size,m.size] F m7:=c7.Du λc D=>⟨by have:=Q c D;have:=L.aQ;omega,n0 c D⟩
  have aB:=ae.Hj (d:=x.bA) (a:=r0) (f:=x.cG) V ⟨K.1,V,ak.symm⟩ λaA hj=>aaK V hj
  have ap:eu (·=5) e m e m7:=ad.N c7
  grind [Wk.of,vX.pV]
 .grind [vX.pV]
end
section
variable{r m j:D}{e F:ag}{v b q u k:Nat}{A f a l c z h ks s y:E}{w:cO}{p:dS}{B:Int}{kn C:Kn}{x:Instr}{g:Int}
def YX(f:mo e m k b h ks kn):bJ dP 237 [h.v,.func (.func 238) #[] #[]] m λw j=>∃r,w=vb r/\J m j/\(r=false<->∀d,0<=d->(kn.r d).bF<=0):=by
 have E:=f.Jp;have F:=f.iY;apply mX h (.func 238,#[],#[]);have:bJ dP 255 [h.v,.func (.func 238) #[] #[]] m λw j=>∃r:Int,w=vi r/\J m j/\(r<0->∀a:Nat,a<kn.aU.length->(kn.r a).bF<=0)/\(0<=r->∃a:Nat,0<(kn.r a).bF):=by
  apply nB h (.func 238,#[],#[]);refine iC (n:=kn.aU.length) V (λq M=>J m M/\∀a:Nat,a<q->(kn.r a).bF<=0) ⟨dt,V⟩ ?_;rintro q M I μ D ⟨c,C⟩ s
  refine⟨λg=>?_,λg=>?_⟩
  .simp only[bh]at g;let⟨t,u,v,x,y,z⟩:=(f.ext c).dg (i:=q) V V;refine⟨V,V,_,t,_,u,_,v,_,x,_,y,_,z,238,O,cH,?_⟩;simp only[iy,gA];apply wm;simp -zeta only[dT];intro o;have l:=px o;refine⟨_,O,λp=>⟨_,O,c.N l,λA=>V,λ_=>⟨q,sp p⟩⟩,λA=>s V _ ⟨c.N l,λa B=>?_⟩⟩;grind
  .grind [decide_eq_false_iff_not]
 refine this.aP ?_;rintro _ t ⟨r,rfl,c,l,p⟩;refine⟨_,O,_,O,c,λg d o=>?_,λf=>?_⟩;rotate_left
 .grind
 by_cases a:d<kn.aU.length
 .have:=l cC d.toNat V;grind
 .rw[Qy a];exact dN _
def WE{s:E}{q:ab}(h:bg m s q):ir dP 81 [s.v,.func (.func 239) #[] #[]] m (∃y∈q,0<=y):=by
 refine lC h 239 #[] #[] cH (λy=>0<=y) λy _ j a=>?_;simp only[iy,gA];apply wo;grind [J.cX]
open Classical in
def Wu(x:Instr)(g:Int)(a b:Kn):Prop:=
 if x.op=23\/x.op=24 then(∀i,0<=i->(a.r i).bF<=0)/\(∀q∈a.eM,q<0)/\b=a
 else
  let c:Kn:=if x.cR=0 then a else{a with eM:=iv a.eM (x.cR -1) (-1)}
  if kT x.op then(a.r x.bA).bF<=0/\b=c.eE x.bA g (KT g)else b=c
open Classical in
noncomputable def KE (x:Instr) (g:Int) (a:Kn):Option Kn:=
 if x.op=23\/x.op=24 then if(∀i,0<=i->(a.r i).bF<=0)/\(∀q∈a.eM,q<0)then some a else none
 else if x.cR≠0/\br a.eM (x.cR -1)≠x.aO.length then none
 else if kT x.op then if(a.r x.bA).bF<=0 then some ((if x.cR=0 then a else{a with eM:=iv a.eM (x.cR -1) (-1)}).eE x.bA g (KT g))else none
 else some (if x.cR=0 then a else{a with eM:=iv a.eM (x.cR -1) (-1)})
def AH(W:Wk r e m b h ks kn p.aU.toNat B)(hB:1<=B)(hx:iJ w p u x)(aa:x.op≠7/\x.op≠8)(ha:bg r s x.aO)(ht:0<=g)(hr:1<=p.aU)(af:x.cR=0\/1<=x.cR/\x.cR<=p.aU):
 nG 207 [vp v 0,vp b 0,.agg #[vi x.op,vi x.bA,vi x.cG,vi x.cR,s.v,y.v],vi g] r e m b h ks p.aU.toNat B (Wu x g kn) (KE x g kn):=by
 have ae:=hx.bA
 have ac:=ha.aT
 have ai:=W.ok.aT
 have al:=W.qu.Jp
 have ah:=W.qu.yK
 have aj:=W.qu.Yo
 have an:=W.qu.iY
 unfold nG
 apply xS (v,0) (b,0)
 simp -zeta only[dT]
 intro n
 obtain⟨H,z1⟩:=pu n
 have a:=W.ext H
 have N:eu (·=5) e m e n:=eu.fZ H W.bs.bI
 have D:∀c∈[m.size],c<n.size:=cC
 have n0:∀c∈[m.size],e c≠5:=λc T=>by
  rw[W.bs.bI c cC];decide
 refine⟨λY M=>M=n/\(Y=true<->x.op=23\/x.op=24),⟨λf=>⟨O,by simp at f;simp[f]⟩,λf=>⟨O,by simp at f;simp[f]⟩⟩,?_⟩
 rintro Y M ⟨hM,ab⟩
 obtain rfl:n=M:=hM.symm
 refine⟨λf=>?_,λf=>?_⟩
 .have A:=ab.1 f
  refine⟨h,a.qu.jB.1,(YX a.qu).aP ?_⟩
  rintro _ E ⟨Q,rfl,C,I⟩
  have F:=a.ext C
  have l:eu (·=5) e m e E:=eu.fZ (H.N C) W.bs.bI
  refine⟨C.fg D,Q,O,λq=>?_,λq=>nG.no l (by
   unfold KE;rw[a8 A,aV];intro z;have:=I.2 z.1;simp at q;rw[q]at this;cases this)⟩
  have I:=I.1 cC
  refine⟨ks,F.qu.jB.2,(WE (F.qu.eM.nZ V)).aP ?_⟩
  rintro _ J ⟨G,rfl,S,j⟩
  have K:=F.ext j
  have L:eu (·=5) e m e J:=eu.fZ ((H.N C).N j) W.bs.bI
  refine⟨j.fg λc T=>cr (D c T) C.aQ,G,O,!G,e,O,L,λk=>⟨kn,K,?_,?_⟩,λk=>?_⟩
  .grind [Wu]
  .unfold KE
   rw[a8 A,a8]
   constructor<;>grind
  .unfold KE
   rw[a8 A,aV]
   intro z
   let⟨R,P,U⟩:=yb S k
   have:=z.2 R P
   omega
 .have A:¬(x.op=23\/x.op=24):=cC
  refine⟨λM=>eu (·=5) e n e M/\mo e M 5 b h ks (if x.cR=0 then kn else{kn with eM:=iv kn.eM (x.cR -1) (-1)})/\¬(x.cR≠0/\br kn.eM (x.cR -1)≠x.aO.length),⟨λq=>?_,λq=>?_⟩,?_⟩
  .have F:x.cR≠0:=cC
   have C:eV (x.cR -1)=x.cR -1:=by grind [dk]
   rw[C]
   refine⟨ks,a.qu.jB.2,V,V,_,a.qu.aev (i:=x.cR -1) V V,λk=>nG.no N (by
    unfold KE;rw[aV A,a8 ⟨F,by rw[<-ac];simpa using k⟩]),λk=>⟨ks,a.qu.jB.2,V,V,a.qu.wrK V V,?_⟩⟩
   intro E
   have l:=a.qu.Tm a.bs.bI (ks.off+(x.cR -1).toNat*1) [.i (-1)]
   constructor<;>grind [eu.Du,Wk.qu,mo.adN]
  .have C:x.cR=0:=cC
   refine⟨eu.cX _ a.bs.bI,?_,λz=>z.1 C⟩
   grind [Wk.qu]
  rintro E ⟨l,K,ag⟩
  have z2:=l.aQ
  generalize U:(if x.cR=0 then kn else{kn with eM:=iv kn.eM (x.cR -1) (-1)})=k2 at K
  have am:∀I,k2.r I=kn.r I:=λI=>by rw[<-U];split<;>rfl
  have ak:k2.aU.length=kn.aU.length:=cC
  have X:nY k2 p.aU.toNat B:=by
   rw[<-U];split
   .exact W.ok
   .exact W.ok.eM
  refine(qL x.op E aa).aP ?_
  rintro _ J ⟨G,rfl,S,j⟩
  have L:=K.ext j
  have z:eu (·=5) e m e J:=(N.N l).N (eu.fZ j l.bI)
  refine⟨j.fg λF C=>cr (D F C) z2,G,O,λk=>⟨true,e,O,z,λ_=>⟨k2,W.of z L X,?_,?_⟩,λf=>by cases f⟩,λk=>?_⟩
  .grind [Wu]
  .grind [KE]
  .have e1:(if(1:Int)<g then 1 else g)=KT g:=by unfold KT;split<;>split<;>omega
   rw[e1]
   refine(ql (t:=g) (l:=KT g) z.bI L (a:=x.bA) V).aP ?_
   rintro _ m4 ⟨Z,rfl,Q,h4,ad⟩
   have P:=z.N Q
   refine⟨Q.Du λF C=>⟨cr (cr (D F C) z2) j.aQ,n0 F C⟩,Z,O,Z,e,O,P,λR=>?_,λR=>?_⟩
   rotate_left
   .grind [KE]
   let⟨ho,K4⟩:=h4 R
   refine⟨_,W.of P K4 (X.eE V (dN B) (by unfold KT;split<;>omega)),?_,?_⟩
   .grind [Wu]
   grind [KE]
end
section
variable{h:Int}
def _root_.Go.Vc.fY.adF{α:Type}{m:D}{d:Nat}{R:ae->α->Prop}{s:E}{y:List α}(e:fY m d R s y){i h:Nat}(q:i<=h)(r:h<=y.length):fY m d R (s.cut i h d) ((y.take h).drop i):=by
 have a:=e.aT;have l:=e.mr;have u:=e.kM;have j:(s.cut i h d).len=h -i/\(s.cut i h d).len<=(s.cut i h d).cap:=by
  cases s with
  |nil=>simp at a;simp[E.cut];omega
  |Ec b o sp=>simp at a;simp[E.cut];omega
  |mk b o A c=>simp at a l;simp[E.cut];omega
 refine⟨by simp[j.1];omega,j.2,V,λk x f=>?_⟩;rw[rT,lQ]at f;split at f
 .rename_i t;let⟨n,p,g⟩:=e.kv _ x f;refine⟨n,p,?_⟩;cases s with
  |nil=>simp at a;omega
  |Ec b o sp=>simp at a;omega
  |mk b o A c=>
   simp at a l;have:¬c=i:=V;simp only[E.cut,this,mD,E.nh,E.BV]at g⊢;rw[nC,<-kK]at g;exact g
 .simp at f
variable{C m K:D}{r L:ag}{v b A F k:Nat}{d f a y c G w ks z H:E}{s:cO}{p:dS}{B:Int}{kn I:Kn}{x:Instr}{t:Int}
def aax{i:Int}{g a:tE->tE}(b:∀r,g (a r)=a (g r)):(kn.tG i g).tG h a=(kn.tG h a).tG i g:=by
 simp only[Kn.tG];congr 1;apply eA;grind [Function.comp_def]
def YV{i e g:Int}:(kn.iA i e).iA h g=(kn.iA h g).iA i e:=aax λr=>by
 grind
def xD{i e:Int}:∀(q:ab)(kn:Kn),jC (kn.iA i e) q=(jC kn q).iA i e
 |[],_=>O
 |r::q,kn=>by rw[jC,YV,xD q];rfl
def Pu:∀(q:ab)(r:Int)(kn:Kn),jC kn (q++[r])=(jC kn q).iA r 1
 |[],r,kn=>O
 |y::q,r,kn=>by rw[eN,jC,Pu q r];rfl
def Sn:∀(q:ab){kn:Kn}{B:Int},nY kn A B->(∀r∈q,0<=r/\r<A)->nY (jC kn q) A (B+q.length)
 |[],kn,B,h,_=>by simpa[jC]using h
 |r::q,kn,B,h,a=>by
  have b:=a r cQ;have d:=h.bF r b.1;have:=Sn q (h.iA (e:=1) (B':=B+1) b V V) λy c=>a y (aX _ c);grind [jC,nY.aP]
def Pw:∀(q:ab){kn:Kn}{a:Int},(∀r∈q,0<=r/\r<kn.aU.length)->0<=a->(kn.r a).bF<=((jC kn q).r a).bF
 |[],kn,a,_,_=>dN _
 |r::q,kn,a,b,c=>by
  have e:=b r cQ;rw[jC];have:=Pw q (kn:=kn.iA r 1) (a:=a) (λy d=>by rw[rl];exact b y (aX _ d)) c;grind [Int.le_trans,yY]
def vX.aaB(h:x.op=16\/x.op=17){k a:Kn}(b:0<(k.r (br x.aO 0)).bF)(c:∀r∈x.aO.drop 1,(k.r r).fr=br x.aO 0){q:Int}(e:0<=q)
 (d:a={jC (k.iA (br x.aO 0) (-1)) (x.aO.drop 1)with eM:=if x.op=17 then iv k.eM (br x.aO 0) q else k.eM}):vX s p k x a:=by
 unfold vX
 grind
def sX(kn:Kn)(a:Int):Nat->ab->ab->Prop
 |_,[],b=>b=[]
 |i,t::c,b=>if t=0 then sX kn a (i+1) c b else match b with
  |[]=>False
  |f::b=>(kn.r f).fr=a/\(kn.r f).Ez=i/\sX kn a (i+1) c b
section
variable{kn:Kn}{a t u:Int}{i:Nat}{g e:ab}
def Vr(h:t=0):sX kn a i (t::g) e=sX kn a (i+1) g e:=by cases e<;>simp[sX,h]
def Xk(h:t≠0):sX kn a i (t::g) []=False:=by simp[sX,h]
def Vq(h:t≠0):sX kn a i (t::g) (u::e)=((kn.r u).fr=a/\(kn.r u).Ez=i/\sX kn a (i+1) g e):=by simp[sX,h]
end
open Classical in
noncomputable def Qs (s:cO) (x:Instr) (kn:Kn):Option Kn:=
 if 0<(kn.r (br x.aO 0)).bF/\0<=(kn.r (br x.aO 0)).lF/\¬(x.op=17/\0<=br kn.eM (br x.aO 0))/\sX kn (br x.aO 0) 0 (da s.bR (kn.r (br x.aO 0)).lF) (x.aO.drop 1)then
  some {jC (kn.iA (br x.aO 0) (-1)) (x.aO.drop 1)with eM:=if x.op=17 then iv kn.eM (br x.aO 0) (da s.bR (kn.r (br x.aO 0)).lF).length else kn.eM}
 else none
def SD{y:ab}{i:Nat}{a:Int}(h:y[i]? =some a):y.drop i=a::y.drop (i+1):=by
 grind [bC,List.drop_eq_getElem_cons,List.getElem?_eq_getElem,Option.some.inj]
def Dq(ac:Vx C d f a y c s p)(hb:dJ m v jd [.s d,.s f,.s a,.s y,.i p.bP,.i p.aU,.s c,.s G])(W:Wk C r m b w ks kn p.aU.toNat B)(hB:0<=B/\B<=1000000)(hx:iJ s p F x)(ai:x.op=16\/x.op=17)(ha:bg C z x.aO):
 nG 157 [vp v 0,vp b 0,.agg #[vi x.op,vi x.bA,vi x.cG,vi x.cR,z.v,H.v]] C r m b w ks p.aU.toNat (B+3) (vX s p kn x) (Qs s x kn):=by
 have aG:1<=x.aO.length/\x.aO.length<=4:=by
  have e:=hx.op;unfold kQ at e;rcases ai with u|u;all_goals
   simp only[u]at e
   simp+decide only[mD,vW]at e
   exact e.1
 have aO:=(ac.ok.eR p ac.qu).aU
 have aq:=ha.aT
 have am:=jJ (l:=x.aO) (i:=0) V V
 have D:=hx.aO _ (ba am)
 have aM:=W.ok.aT
 have aP:=W.qu.Jp
 have aL:=W.qu.yK
 have aN:=W.qu.Yo
 have ad:∀k∈x.aO.drop 1,0<=k/\k<p.aU.toNat:=λk E=>by
  have:=hx.aO k (uF E);omega
 generalize R:br x.aO 0=r0 at*
 have Z:¬(0<(kn.r r0).bF/\0<=(kn.r r0).lF/\¬(x.op=17/\0<=br kn.eM r0)/\sX kn r0 0 (da s.bR (kn.r r0).lF) (x.aO.drop 1))->Qs s x kn=none:=λe=>by unfold Qs;rw[R,aV e]
 unfold nG
 apply zQ (v,0) (b,0)
 simp -zeta only[dT]
 intro T
 obtain⟨x1,z1⟩:=pu T
 have W1:=W.ext x1
 have g0:aS T z.bt (z.off+Int.toNat 0*1)=some (vi r0):=W1.bs.de.aS (by simpa using ha.br am)
 let⟨q0,q1,q2,q3,q4,q5⟩:=W1.qu.dg (i:=r0) D.1 V
 refine⟨V,V,r0,g0,w,W1.qu.jB.1,D.1,V,_,q0,_,q1,_,q2,_,q3,_,q4,_,q5,?_⟩
 intro m2 m3
 have z2:m2.size=m.size+2:=by simp[m2];omega
 have x2:J T m3:=((J.cX T).cz _).aW V _ _
 have x3:=x1.N x2
 have ag:∀c∈[T.size,m.size],c<m3.size:=by simp[m3,bE];omega
 have W3:=W.ext x3
 have n0:∀c∈[T.size,m.size],r c≠5:=λc hc=>by
  have:m.size<=c:=by simp at hc;omega
  rw[W.bs.bI c this];decide
 have c3:eu (·=5) r m r m3:=eu.fZ x3 W.bs.bI
 refine⟨λM=>M=m3/\0<(kn.r r0).bF/\0<=(kn.r r0).lF/\¬(x.op=17/\0<=br kn.eM r0),⟨λu=>nG.no c3 (Z λe=>by have:=e.1;simp at u;omega),λu=>⟨λK=>nG.no c3 (Z λe=>by have:=e.2.1;simp at K;omega),λK=>⟨λQ=>?_,λQ=>?_⟩⟩⟩,?_⟩
 .refine⟨ks,W3.qu.jB.2,D.1,V,_,W3.qu.aev D.1 V,λI=>nG.no c3 (Z λe=>e.2.2.1 ⟨sp Q,sp I⟩),λI=>⟨O,?_,?_,?_⟩⟩
  .simp at u;omega
  .simpa using K
  .simp at I;omega
 .refine⟨O,?_,?_,?_⟩
  .simp at u;omega
  .simpa using K
  .simp at Q;omega
 rintro au ⟨A,aj,ay,aw⟩
 obtain rfl:m3=au:=A.symm
 have aH:=W.ok.lF r0 D.1
 refine⟨d,x3.aS (hb.dg 0),V,V,oh ha.mr,(uZ (dw.ext W3.bs.de ac.bR) ac.dj V).aP ?_⟩
 rintro _ U ⟨ae,rfl,hs,x4⟩
 have aC:=hs.aT
 have Y:=W3.ext x4
 have aE:=x3.N x4
 have aB:∀c∈[T.size,m.size],c<U.size:=λc hc=>cr (ag c hc) x4.aQ
 have c4:eu (·=5) r m r U:=eu.fZ aE W.bs.bI
 have ao:bg U (z.cut 1 z.len 1) (x.aO.drop 1):=by
  have:=fY.adF (ha.ext Y.bs.de) (i:=1) (h:=x.aO.length) V bY;rw[fB]at this;rw[aq];exact this
 have an:=ao.aT
 refine⟨x4.fg ag,ae,O,bD (x4.bB _ (ag m.size bO)) _,?_⟩
 refine gN (n:=(da s.bR (kn.r r0).lF).length) (oh hs.kM) (λh ab M=>M=U/\∃t,t<=(x.aO.drop 1).length/\bg U ab ((x.aO.drop 1).drop t)/\(∀k∈(x.aO.drop 1).take t,(kn.r k).fr=r0)/\(sX kn r0 h ((da s.bR (kn.r r0).lF).drop h) ((x.aO.drop 1).drop t)<->sX kn r0 0 (da s.bR (kn.r r0).lF) (x.aO.drop 1))) ⟨O,0,jh _,sp ao,bO,Nz⟩ ?_
 rintro h ab av aF μ hj ⟨A,t,hi,hu,hd,L⟩ ar
 obtain rfl:U=av:=A.symm
 have ak:=hu.aT
 have aI:((x.aO.drop 1).drop t).length=(x.aO.drop 1).length -t:=fu
 refine dit (λu=>?_) λu=>?_
 .let⟨aa,hy⟩:=dY (da s.bR (kn.r r0).lF) h
  rw[SD hy]at L
  refine⟨V,V,aa,by simpa using hs.br hy,λS=>ar V _ _ ⟨O,t,hi,hu,hd,by rw[<-L,Vr (sp S)]⟩,λS=>⟨λP=>nG.no c4 (Z λe=>?_),λP=>?_⟩⟩
  .have e:=L.2 e.2.2.2
   have:(x.aO.drop 1).drop t=[]:=cp.1 (by simp at P;omega)
   rw[this,Xk (sp S)]at e
   exact e
  have ah:0<ab.len:=by simp at P;omega
  let⟨k,E⟩:=dY ((x.aO.drop 1).drop t) 0
  have X:(x.aO.drop 1)[t]? =some k:=by rw[rT]at E;simpa using E
  have N:=ad k (ba X)
  rw[SD X,Vq (sp S)]at L
  obtain⟨_,_,_,_,w4,w5⟩:=Y.qu.dg (i:=k) N.1 V
  have gr:aS U ab.bt (ab.off+Int.toNat 0*1)=some (vi k):=by simpa using hu.br E
  refine⟨w,Y.qu.jB.1,V,V,k,gr,N.1,V,_,w4,λK=>nG.no c4 (Z λe=>by have:=(L.2 e.2.2.2).1;simp at K;exact K this),λK=>⟨w,Y.qu.jB.1,V,V,k,gr,N.1,V,_,w5,λQ=>nG.no c4 (Z λe=>by have:=(L.2 e.2.2.2).2.1;simp at Q;exact Q this),λQ=>⟨V,V,oh hu.mr,ar V _ _ ⟨O,t+1,V,?_,?_,?_⟩⟩⟩⟩
  rotate_right
  .rw[<-L]
   exact⟨λe=>⟨sp K,sp Q,e⟩,λe=>e.2.2⟩
  .have:=fY.adF hu (i:=1) (h:=((x.aO.drop 1).drop t).length) V bY
   rw[fB,<-ak]at this
   have I:((x.aO.drop 1).drop t).drop 1=(x.aO.drop 1).drop (t+1):=List.drop_drop
   rw[<-I];exact this
  .have K:(kn.r k).fr=r0:=sp K
   intro af I
   rw[bW X]at I
   rcases bT.1 I with e|e
   .exact hd af e
   .simp at e;subst e;exact K
 .have aA:h=(da s.bR (kn.r r0).lF).length:=V
  rw[aA,List.drop_length,sX]at L
  refine⟨λP=>nG.no c4 (Z λe=>by
   have:=L.2 e.2.2.2;rw[this]at ak;simp at P ak;omega),λP=>?_⟩
  have ax:=L.1 (cp.1 (by simp at P;omega))
  have hY:Qs s x kn=some {jC (kn.iA r0 (-1)) (x.aO.drop 1)with eM:=if x.op=17 then iv kn.eM r0 (da s.bR (kn.r r0).lF).length else kn.eM}:=by
   unfold Qs;rw[R,a8 ⟨aj,ay,aw,ax⟩]
  have az:t=(x.aO.drop 1).length:=by simp at P;omega
  have ap:∀k∈x.aO.drop 1,(kn.r k).fr=r0:=λk E=>hd k (by rw[az,fB];exact E)
  refine⟨V,V,oh ha.mr,iC (n:=(x.aO.drop 1).length) fu (λt M=>mo r M 5 b w ks (jC kn ((x.aO.drop 1).take t))/\eu (·=5) r U r M) ⟨by simpa[jC]using Y.qu,eu.cX _ Y.bs.bI⟩ ?_⟩
  rintro t M I2 μ2 aK ⟨A,cM⟩ aD
  have aa:=Sn ((x.aO.drop 1).take t) W.ok λk E=>ad k (jG E)
  have lM:=aa.aT
  have tl:((x.aO.drop 1).take t).length<=3:=fu
  have zM:=cM.aQ
  have ah:∀c∈[T.size,m.size],c<M.size:=λc hc=>cr (aB c hc) zM
  refine dit (λu=>?_) λu=>?_
  .have e':t<(x.aO.drop 1).length:=by rw[<-an];simpa using u
   let⟨k,E⟩:=dY (x.aO.drop 1) t
   have N:=ad k (ba E)
   have af:bg M (z.cut 1 z.len 1) (x.aO.drop 1):=by
    have:=fY.adF (ha.ext (Y.bs.Tl cM cH).de) (i:=1) (h:=x.aO.length) V bY;rw[fB]at this;rw[aq];exact this
   obtain⟨_,w1,_⟩:=A.dg (i:=k) N.1 V
   have ho:=aa.bF k N.1
   refine⟨V,sp u,k,by simpa using af.br E,w,A.jB.1,N.1,V,_,w1,N.1,V,A.wr N.1 V V,?_⟩
   intro M2
   have hw:eV (((jC kn ((x.aO.drop 1).take t)).r k).bF+1)=((jC kn ((x.aO.drop 1).take t)).r k).bF+1:=gJ
   have X:mo r M2 5 b w ks ((jC kn ((x.aO.drop 1).take t)).iA k 1):=A.cE (g:=λI=>{I with bF:=I.bF+1}) N.1 V bO (by rw[hw];rfl)
   have cc:=A.qG cM.bI (o:=w.off+k.toNat*6+1) [.i (eV (((jC kn ((x.aO.drop 1).take t)).r k).bF+1))]
   refine⟨cc.Du λI S=>⟨ah I S,n0 I S⟩,aD V _ ⟨?_,cM.N cc⟩⟩
   rw[bW E,Pu];exact X
  .have ei:t=(x.aO.drop 1).length:=by
    have:¬t<(x.aO.drop 1).length:=by rw[<-an];simpa using u
    omega
   subst ei
   rw[fB]at A aa tl
   have lM:=aa.aT
   obtain⟨_,w1,_⟩:=A.dg (i:=r0) D.1 V
   have ho:=aa.bF r0 D.1
   have aJ:=Pw (x.aO.drop 1) (kn:=kn) (a:=r0) (λk E=>oh (ad k E)) D.1
   refine⟨w,A.jB.1,D.1,V,_,w1,D.1,V,A.wr D.1 V V,?_⟩
   intro M2
   have hw:eV (((jC kn (x.aO.drop 1)).r r0).bF -1)=((jC kn (x.aO.drop 1)).r r0).bF+ -1:=gJ
   have X:mo r M2 5 b w ks ((jC kn (x.aO.drop 1)).iA r0 (-1)):=A.cE (g:=λI=>{I with bF:=I.bF+ -1}) D.1 V bO (by rw[hw];rfl)
   have cc:eu (·=5) r M r M2:=A.qG cM.bI (o:=w.off+r0.toNat*6+1) [.i (eV (((jC kn (x.aO.drop 1)).r r0).bF -1))]
   have al:nY ((jC kn (x.aO.drop 1)).iA r0 (-1)) p.aU.toNat (B+3):=aa.iA V V V
   have l2:=al.aT
   have kk:(jC kn (x.aO.drop 1)).eM=kn.eM:=vB _ _
   have c2:=c4.N (cM.N cc)
   have z2:=cc.aQ
   refine⟨cc.Du λI S=>⟨ah I S,n0 I S⟩,λN=>?_,λN=>?_⟩
   .have N:x.op=17:=sp N
    refine⟨ks,X.jB.2,D.1,V,X.wrK D.1 V,?_⟩
    intro M3
    have K3:=X.adN D.1 V (ae.len:Int)
    have af:eu (·=5) r M2 r M3:=X.Tm c2.bI (ks.off+r0.toNat*1) [.i (ae.len:Int)]
    refine⟨af.Du λI S=>⟨cr (ah I S) z2,n0 I S⟩,true,r,O,c2.N af,λ_=>⟨_,W.of (c2.N af) K3 al.eM,vX.aaB ai (R▸aj) (R▸ap) (q:=(ae.len:Int)) V ?_,?_⟩,λu=>by cases u⟩
    .rw[R,a8 N,xD]
     simp only[Kn.iA,Kn.tG,kk]
    .rw[hY,a8 N,xD,<-aC]
     simp only[Kn.iA,Kn.tG,kk]
   .have N:x.op≠17:=sp N
    refine⟨true,r,O,c2,λ_=>⟨_,W.of c2 X al,vX.aaB ai (R▸aj) (R▸ap) (q:=0) V ?_,?_⟩,λu=>by cases u⟩
    .rw[R,aV N,xD,<-kk]
     rfl
    .rw[hY,aV N,xD,<-kk]
     rfl
end
section
variable{a r:Int}
variable{m:D}{d f s bR:E}{b:af}{e:cO}{h:ab}{g cG t c:Int}
theorem rV.abN{b:af}(g:eT b){t c:Int}(h:rV b t a r)(d:rV b c a r):t=c:=by
 have e:∀{t c:Int},rV b t a r->rV b c a r->¬t<c:=λ{t c} h d hlt=>by
  let⟨x,m,f,n,o,p⟩:=h;let⟨y,g1,g2,j,k,l⟩:=d;have:=((g.eR _ y g2).Qp cC).1 x (by
   refine kE (i:=t.toNat -1) ?_;rw[lQ,a8 V];exact f)
  grind
 have:=e h d;have:=e d h;omega
theorem rV.afS{b:af}{t c:Int}(h:rV b t a r)(d:rV b t a c):r=c:=by
 obtain⟨x,_,f,_,_,g⟩:=h;obtain⟨y,_,g2,_,_,e⟩:=d;grind
def CQ(hd:dw m d b):bJ dP 235 [E.v d,vi t] m λz y=>∃a r u i,z=.tuple #[.agg #[vi a,vi r,E.v u],vb i]/\J m y/\(i=true->rV b t a r)/\(∀e g,rV b t e g->i=true):=by
 apply Jb;simp -zeta only[kU];intro q;have c:=px q;clear_value q;have B:=hd.aT;have C:=hd.kM;refine⟨λf=>?_,λf=>⟨λj=>?_,λj=>?_⟩⟩
 .intro k;exact⟨_,_,_,_,O,c.aW bY _ _,λh=>(by cases h),λe g⟨x,n,_⟩=>by simp at f;omega⟩
 .intro k;exact⟨_,_,_,_,O,c.aW bY _ _,λh=>(by cases h),λe g⟨x,n,o,_⟩=>by have:=bC o;simp at j;omega⟩
 .have f:1<=t:=cC;have j:t<=d.len:=cC;have w:eV (t -1)=((t.toNat -1:Nat):Int):=by grind [dk]
  let⟨x,p⟩:=dY b (t.toNat -1);obtain⟨u,v,s,g1,g2⟩:=(dw.ext c hd).br p;have D:=v.aT;rw[w];refine⟨V,V,u,g2,λl=>?_,λl=>⟨V,V,_,s,_,g1,u,g2,?_⟩⟩
  .intro k;refine⟨_,_,_,_,O,c.aW bY _ _,λh=>(by cases h),λe g⟨F,n,o,A,_⟩=>?_⟩;grind
  .intro k;refine⟨_,_,_,_,O,c.aW bY _ _,λ_=>⟨x,f,p,cp.1 ?_,O,O⟩,λ_ _ _=>O⟩;simp at l;omega
def Ow(hd:dw m d b):bJ dP 236 [d.v,vi a,vi r] m λF C=>∃t,F=vi t/\J m C/\(0<=t->rV b t a r)/\(∀s,rV b s a r->0<=t):=by
 apply Jc;simp -zeta only[dT];have K:=hd.aT;have P:=hd.kM;refine iC (n:=b.length) V (λj M=>J m M/\∀i:Nat,i<j->¬rV b ((i+1:Nat):Int) a r) ⟨J.cX m,V⟩ ?_;rintro j M I μ N ⟨g,R⟩ l
 refine⟨λo=>?_,λo=>⟨_,O,g,λh=>absurd h cH,λs⟨G,H,w,y⟩=>?_⟩⟩;rotate_left
 .grind
 simp only[bh]at o;let⟨x,B⟩:=dY b j;let⟨E,A,v,g1,g2⟩:=(dw.ext g hd).br B;have q:=A.aT;refine⟨V,V,_,v,_,g1,E,g2,?_⟩;intro S D;have f:J m D:=(g.cz _).aW cC _ _;have k:¬(x.dV=[]/\x.qC=a/\x.to=r)->∀i:Nat,i<j+1->¬rV b ((i+1:Nat):Int) a r:=λQ i L z=>by
  by_cases u:i=j
  .subst u;obtain⟨G,_,w,y⟩:=z;grind
  .grind
 refine⟨λp=>⟨λc=>⟨λe=>?_,λe=>l V _ ⟨f,k λh=>by simp at e;exact e h.2.2⟩⟩,λc=>l V _ ⟨f,k λh=>by simp at c;exact c h.2.1⟩⟩,λp=>l V _ ⟨f,k λh=>by rw[h.1]at q;simp at p q;omega⟩⟩;refine⟨_,O,f,λ_=>?_,λ_ _=>by rw[Pl V];omega⟩;rw[Pl V];refine⟨x,V,?_,cp.1 cC,sp c,sp e⟩;grind
end
section
variable{q:dS}{a u:Int}
variable{m:D}{d f s bR:E}{h:af}{e:cO}{g:ab}{b cG t c:Int}
theorem gD.mQ(h:b=0):gD e b cG [] 0:=by grind [gD]
theorem gD.Nv(h:b=1\/b=2\/b=3\/b=4):gD e b cG [0,0] 0:=by grind [gD]
theorem gD.mE(h:b=5):gD e b cG [0] 0:=by grind [gD]
theorem gD.lF(h:b=6)(a:cG∈cY e.bR t):gD e b cG (da e.bR cG) t:=by
 grind [gD]
theorem gD.jt(h:b=9)(a:e.cU[cG.toNat]? =some q):gD e b cG q.aY q.bP:=by
 grind [gD]
def gD.afP(h:b=10)(c:e.cU[cG.toNat]? =some q)(d:q.aY=g++[a])(f:rV e.bR t a q.bP):gD e b cG g t:=by
 grind [gD]
def gD.nI(h:b=11)(c:rV e.bR u a t):gD e b cG [u,a] t:=by
 grind [gD]
def sT0(h:b=0)(a:gD e b cG g t):g=[]:=by grind [gD]
theorem sT2(h:b=1\/b=2\/b=3\/b=4)(a:gD e b cG g t):g=[0,0]:=by grind [gD]
theorem sT5(h:b=5)(a:gD e b cG g t):g=[0]:=by grind [gD]
def sT6(h:b=6)(a:gD e b cG g t):cG∈cY e.bR t/\g=da e.bR cG:=by grind [gD]
theorem sT9(h:b=9)(a:gD e b cG g t):∃q,e.cU[cG.toNat]? =some q/\g=q.aY/\t=q.bP:=by grind [gD]
theorem aeM(h:b=10)(c:gD e b cG g t):∃q a,e.cU[cG.toNat]? =some q/\q.aY=g++[a]/\rV e.bR t a q.bP:=by grind [gD]
def aeN(h:b=11)(c:gD e b cG g t):∃u a,g=[u,a]/\rV e.bR u a t:=by unfold gD at c;rw[aV V,aV V,aV V,aV V,aV V,aV V,a8 h]at c;exact c
def sTx(h:¬(b=0\/b=1\/b=2\/b=3\/b=4\/b=5\/b=6\/b=9\/b=10\/b=11))(a:gD e b cG g t):False:=by
 grind [gD]
def rV.nn{r:Int}(e:eT h)(b:rV h u a r):0<=r:=by
 let⟨x,f,c,g,i,d⟩:=b;have:=((e.eR _ x c).Qp cC).2.2;rw[<-d];exact this.1
theorem ny.bP{p:dS}(h:ny e.bR e.cU)(a:p∈e.cU):0<=p.bP:=(h.eR p a).2.2.1
def xP(so:ny e.bR e.cU)(hd:dw m d e.bR)(hf:oZ m f e.cU)(z:bg m s g)(am:g.length<=1000000)(hn:b=6->-1000000<=cG/\cG<=1000000)(H:(b=0->-999<=cG/\cG<=999)/\(b=1\/b=2\/b=3\/b=4\/b=5\/b=11->cG=0)/\(b=9\/b=10->0<=cG/\cG<e.cU.length)):
 bJ dP 206 [.agg #[d.v,f.v],vi b,vi cG,s.v] m λah m'=>∃t o,ah=.tuple #[vi t,vb o]/\J m m'/\(o=true->0<=t/\gD e b cG g t)/\((∃h,gD e b cG g h)->o=true):=by
 have ht:=so.dj
 apply ud
 simp -zeta only[dT]
 intro x
 obtain⟨l,z1⟩:=pu x
 have aa:∀c∈[m.size],c<x.size:=fu
 have Z:=z.aT
 have L:∀{t:Int}{M:D},J m M->(¬∃h,gD e b cG g h)->∃h o,(.tuple #[vi t,vb false]:Value)=.tuple #[vi h,vb o]/\J m M/\(o=true->0<=h/\gD e b cG g h)/\((∃h,gD e b cG g h)->o=true):=λW hn=>⟨_,false,O,W,λi=>(by cases i),λi=>absurd i hn⟩
 refine⟨λP=>⟨λ_=>⟨λ_=>?_,λk=>absurd (H.1 (sp P)).2 (sp k)⟩,λk=>absurd (H.1 (sp P)).1 (sp k)⟩,λP=>⟨λy=>?_,λy=>⟨λh5=>?_,λh5=>⟨λF=>?_,λF=>⟨λG=>?_,λG=>⟨λQ=>?_,λQ=>L l λ⟨h,i⟩=>sTx (by simp at P y h5 F G Q;omega) i⟩⟩⟩⟩⟩⟩
 .refine⟨0,_,O,l,λk=>?_,λ⟨h,i⟩=>by have:=sT0 (sp P) i;subst this;simp at Z;simp[Z]⟩
  have:g=[]:=cp.1 (by simp at k;omega)
  grind [gD.mQ]
 .intro n
  have j:J m n:=l.cz _
  have p:bg n (.mk x.size 0 2 2) [0,0]:=bg.jT (js.bI (J.cX x) bG 1 ([0,0].map Ce.i) 2 bO) bO
  have z2:x.size<=n.size:=by simp[n]
  refine⟨λ_=>(j8 (z.ext j) p).aP ?_,λk=>absurd (H.2.1 (by simp at y;omega)) (sp k)⟩
  grind [J.fg,J.N,sT2,gD.Nv]
 .intro n
  have j:J m n:=l.cz _
  have p:bg n (.mk x.size 0 1 1) [0]:=bg.jT (js.bI (J.cX x) bG 1 ([0].map Ce.i) 1 bO) bO
  have z2:x.size<=n.size:=by simp[n]
  refine⟨λ_=>(j8 (z.ext j) p).aP ?_,λk=>absurd (H.2.1 (by simp at h5;omega)) (sp k)⟩
  grind [J.fg,J.N,sT5,gD.mE]
 .have F:b=11:=sp F
  refine⟨λk=>L l λ⟨h,i⟩=>(by obtain⟨u,a,y,_⟩:=aeN F i;rw[y]at Z;simp at k Z;omega),λk=>?_⟩
  have k:s.len=2:=by simp at k;omega
  let⟨u,S⟩:=dY g 0
  let⟨a,K⟩:=dY g 1
  have ab:g=[u,a]:=by
   match g,S,K,(by omega:g.length=2)with
   |[_,_],S,K,_=>simp at S K;rw[S,K]
  have N:aS x s.bt (s.off+Int.toNat 0*1)=some (vi u):=by simpa using(z.ext l).br S
  have jX:∀{M:D}{A E:Int}{o:Bool},J m M->(o=true->rV e.bR u A E)->o=true->a=A->∃h C,(.tuple #[vi E,vb (cG==0)]:Value)=.tuple #[vi h,vb C]/\J m M/\(C=true->0<=h/\gD e b cG g h)/\((∃h,gD e b cG g h)->C=true):=λW p v r=>
   ⟨_,_,O,W,λ_=>(by
    have p:=p v;rw[ab];exact⟨p.nn ht,gD.nI F (r▸p)⟩),λ_=>by rw[H.2.1 V];rfl⟩
  have Y:∀{M:D}{A E U:Int}{o:Bool},J m M->(o=true->rV e.bR u A E)->(∀a' w,rV e.bR u a' w->o=true)->¬(o=true/\a=A)->∃h C,(.tuple #[vi U,vb false]:Value)=.tuple #[vi h,vb C]/\J m M/\(C=true->0<=h/\gD e b cG g h)/\((∃h,gD e b cG g h)->C=true):=λW p hB hn=>L W λ⟨h,i⟩=>by
   let⟨u',a',y,h2⟩:=aeN F i;rw[ab]at y;simp at y;obtain⟨rfl,rfl⟩:=y;have v:=hB _ _ h2;obtain⟨X,_,g2,_,g4,_⟩:=p v;obtain⟨ad,_,k2,_,k4,_⟩:=h2;grind
  refine⟨V,V,u,N,(CQ (dw.ext l hd)).aP ?_,?_⟩
  .rintro _ n ⟨A,E,U,o,rfl,j,p,R⟩
   refine⟨j.fg aa,A,E,U,o,O,?_⟩
   intro T
   have B:=px T
   have b0:m.size<n.size:=cr V j.aQ
   refine⟨B.cK (j.aS N),bD (B.bB _ b0) _,?_⟩
   intro I
   have w:J m I:=((l.N j).N B).aW (Yx l.aQ j.aQ) _ _
   refine⟨λv=>⟨V,V,a,by simpa using(z.ext w).br K,λr=>jX w p v (sp r),λr=>Y w p R λi=>by simp at r;exact r i.2⟩,λv=>Y w p R λi=>by rw[i.1]at v;cases v⟩
  .intro n
   have j:=px n
   have z2:n.size=m.size+2:=by simp[n];omega
   have ac:∀c∈[x.size,m.size],c<n.size:=fu
   refine⟨j.cK N,bD (j.bB _ V) _,(CQ (dw.ext (l.N j) hd)).aP ?_⟩
   rintro _ T ⟨A,E,U,o,rfl,B,p,R⟩
   refine⟨B.fg ac,A,E,U,o,O,?_⟩
   intro I
   have w:J m I:=((l.N j).N B).aW V _ _
   refine⟨λv=>⟨V,V,a,by simpa using(z.ext w).br K,λr=>jX w p v (sp r),λr=>Y w p R λi=>by simp at r;exact r i.2⟩,λv=>Y w p R λi=>by rw[i.1]at v;cases v⟩
 .have G:b=6:=sp G
  refine(Ix (dw.ext l hd) ht cG (hn G)).aP ?_
  rintro _ n ⟨t,q,rfl,v,j,Y,S⟩
  refine⟨j.fg aa,t,q,O,?_⟩
  intro T I
  have w:=py I
  have ab:∀c∈[n.size,m.size],c<I.size:=by have:=l.aQ;have:=j.aQ;simp[I,T,bE];omega
  have A:=(l.N j).N w
  refine⟨λk=>(j8 (z.ext A) (v.ext w)).aP ?_,λk=>L A λ⟨h,i⟩=>by have:=S h (sT6 G i).1;simp at k;omega⟩
  rintro _ m5 ⟨E,rfl,K,R⟩
  have k:0<=t:=cC
  refine⟨R.fg ab,E,O,t,E,O,A.N R,λU=>⟨k,?_⟩,λ⟨h,i⟩=>K.2 (sT6 G i).2⟩
  grind [gD.lF]
 .have Q:b=9\/b=10:=cC
  have ai:=hf.aT
  refine⟨λk=>absurd (H.2.2 Q).1 cC,λR=>⟨λk=>absurd (H.2.2 Q).2 cC,λr=>?_⟩⟩
  have R:0<=cG:=cC
  have r:cG<e.cU.length:=cC
  let⟨q,v⟩:=dY e.cU cG.toNat
  let⟨a,C,I,ak,N,g1,g2⟩:=(oZ.ext l hf).br v
  have ab:=I.aT
  have ag:=ba v
  have al:=(so.eR q ag).1
  have aj:=I.mr
  refine⟨R,V,a,N,R,V,q.bP,g2,λe9=>(j8 (z.ext l) I).aP ?_,λe9=>⟨λw=>L l λ⟨h,i⟩=>(by
   obtain⟨q',X,A,k2,_⟩:=aeM cC i;rw[v]at A;cases A;have S:eV ((a.len:Int) -1)=(a.len:Int) -1:=by grind [dk]
   rw[S]at w;rw[k2]at ab;simp at w ab;omega),λw=>?_⟩⟩
  .grind [J.fg,J.N,ny.bP,sT9,gD.jt]
  .have ad:b=10:=cC
   have S:eV ((a.len:Int) -1)=(a.len:Int) -1:=by grind [dk]
   rw[S]at w⊢
   have w:1<=a.len:=cC
   have et:((a.len:Int) -1).toNat=q.aY.length -1:=V
   let⟨X,hy⟩:=dY q.aY (q.aY.length -1)
   refine⟨V,V,X,by rw[et];exact I.br hy,(Ow (dw.ext l hd)).aP ?_⟩
   rintro _ n ⟨t,rfl,j,p,ae⟩
   have ac:∀{h},gD e b cG g h->q.aY=g++[X]/\rV e.bR h X q.bP:=λ{h} i=>by
    grind [aeM]
   refine⟨j.fg aa,t,O,λA=>⟨V,V,V,?_⟩,λA=>L (l.N j) λ⟨h,i⟩=>by have:=ae h (ac i).2;simp at A;omega⟩
   have af:bg n (a.cut (Int.toNat 0) ((a.len:Int) -1).toNat 1) (q.aY.take (q.aY.length -1)):=by
    grind [fY.Ts,bg.ext]
   refine(j8 (z.ext (l.N j)) af).aP ?_
   rintro _ T ⟨E,rfl,K,B⟩
   have A:0<=t:=cC
   refine⟨B.fg λc Y=>cr (aa c Y) j.aQ,E,O,t,E,O,(l.N j).N B,λU=>⟨A,gD.afP ad v ?_ (p A)⟩,λ⟨h,i⟩=>K.2 (by rw[(ac i).1];simp)⟩
   rw[K.1 U]
   have:=bW hy
   grind
end
section
variable{r:Int}{l:ab}
variable{a:cO}{p:dS}{x:Instr}{kn b:Kn}{t:Int}{d n:Nat}{B:Int}{c:ab}
theorem gD.abN(f:eT a.bR){b cG d:Int}(h:gD a b cG c t)(e:gD a b cG c d):t=d:=by
 unfold gD at h e;grind [UT,rV.abN,rV.afS,List.append_cancel_left]
def C7(a:cO)(x:Instr)(l:ab):ab:=if x.op=9\/x.op=24 then je a x 0 l else l
def Ns:∀(l:ab)(r:Int)(k:Kn),fP k (l++[r])=if((fP k l).r r).lP=0 then fP k l else(fP k l).iA r (-1)
 |[],r,k=>O
 |y::l,r,k=>by rw[eN,fP,Ns l];rfl
def G6:∀(l:ab)(k:Kn)(i:Int),(∀r∈l,0<=r/\r<k.aU.length)->0<=i->((fP k l).r i).lP=(k.r i).lP
 |[],k,i,_,_=>O
 |r::l,k,i,b,a=>by
  have d:=b r cQ;rw[fP];split
  .exact G6 l k i (λy c=>b y (aX _ c)) a
  .rw[G6 l _ i (λy c=>by rw[rl];exact b y (aX _ c)) a,yY d a]
def Ri:∀(l:ab)(k:Kn)(i:Int),(∀r∈l,0<=r/\r<k.aU.length)->0<=i->((fP k l).r i).bF<=(k.r i).bF
 |[],k,i,_,_=>dN _
 |r::l,k,i,a,c=>by
  have d:=a r cQ;rw[fP];split
  .exact Ri l k i (λy b=>a y (aX _ b)) c
  .refine yx (Ri l _ i (λy b=>by rw[rl];exact a y (aX _ b)) c) ?_;grind [yY]
def LP:∀(l a:ab)(k:Kn),fP k (l++a)=fP (fP k l) a
 |[],_,_=>O
 |r::l,a,k=>by rw[eN,fP,LP l];rfl
def VY:∀(l:ab)(k:Kn),(∀r∈l,(k.r r).lP=0)->fP k l=k
 |[],_,_=>O
 |r::l,k,h=>by rw[fP,a8 (h r cQ)];exact VY l k λy a=>h y (aX _ a)
def UP(h:kQ a p d x)(b:eT a.bR)(c:ny a.bR a.cU):x.aO.length<=4:=by
 have f:∀{q:dS}{i:Nat},a.cU[i]? =some q->q.aY.length<=3:=λe=>(c.eR _ (ba e)).1;have:=Ew b x.cG;unfold kQ pH at h;grind (splits:=20)
theorem Ro{i:Nat}(h:x.aO[i]? =some r):(qB kn x.aO)[i]? =some (kn.r r).lP:=by simp[qB,h]
def Zv(d:uP a p x (qB kn x.aO) t)(f:x.op≠15/\x.op≠16/\x.op≠17/\x.op≠18):fP kn (cq a x)=fP kn (C7 a x x.aO):=by
 have z:∀{l:ab},qB kn x.aO=l->(∀y∈l,y=0)->∀r∈x.aO,(kn.r r).lP=0:=λe b r c=>b _ (e▸fA.2 ⟨r,c,O⟩);have g:=VY x.aO kn;unfold uP gD at d;unfold cq C7;grind [fP]
def Ph:C7 a x (l++[r])=C7 a x l++(if(x.op=9\/x.op=24)/\jv a x l.length=true then[]else[r]):=by
 grind [C7,sD,je,jv,List.length]
def Pj(h:r∈C7 a x l):r∈l:=by
 grind [C7,vj]
open Classical in
def YU.of(d:x.op≠15/\x.op≠16/\x.op≠17/\x.op≠18)(g:uP a p x (qB kn x.aO) t)(h:nY (fP kn (C7 a x x.aO)) n B)(e:∀r∈x.aO,0<=r)(f:(x.op=9\/x.op=24)->∀r∈fx a x 0 x.aO,rE (fP kn (C7 a x x.aO)) r)
 (i:Wu x t (fP kn (C7 a x x.aO)) b):YU p a kn x t b:=by
 unfold YU
 rw[Zv g d]
 refine⟨λr c=>(h.bF r ?_).1,f,?_⟩
 .refine e r ?_
  unfold cq at c
  repeat' (split at c)
  .exact c
  .exact jG c
  .exact vj c
  .simp at c
 .grind [Wu]
def vX.use(h:x.op≠22/\x.op≠14/\x.op≠15/\x.op≠16/\x.op≠17/\x.op≠18/\x.op≠19)(d:uP a p x (qB kn x.aO) t)(c:YU p a kn x t b):vX a p kn x b:=by
 grind [vX]
end
section
variable{S L i:ad}{m t M:D}{d p c q g:E}{a:cO}{cD j:List Instr}{e f:Nat}{u:Int}{x h:Instr}{l:aA}{s:af}{b:dS}
def Fw.of(h:nH a b):Fw b.cD:=by
 have o:∀{i:Nat}{x:Instr},b.cD[i]? =some x->kQ a b i x:=λc=>(h.eR _ _ c).op;have f:=h.aT;refine⟨λi x c e=>?_,λi x c e=>?_,λi x c e=>?_,V⟩
 .have d:=o c;unfold kQ at d;simp only[e]at d;grind
 .grind [kQ]
 .grind [bC,Nat.lt_or_ge,List.length,nH.Dr]
def aar{c cW:ab}(h:Ej c cW):cW.length<=c.length:=by
 have K:∀(e:Nat)(v:Int),cW[e]? =some v->(e:Int)<=v:=λe=>by
  induction e with
  |zero=>intro v a;obtain⟨⟨_,b,_⟩,_⟩:=h 0 v a;exact b
  |succ e f=>
   intro v a;let⟨u,d⟩:=dY cW e cC;have:=(h (e+1) v a).2 u V cC;have:=f u d;omega
 rcases GF cW.length with b|b
 .omega
 .let⟨v,a⟩:=dY cW (cW.length -1);obtain⟨⟨_,f,d,_⟩,_⟩:=h _ v a;have:=bC d;have:=K _ v a;omega
def aa8.of(b:gL a):aa8 a.cU:=by
 have d:=b.kX.aT;refine⟨λe=>by rw[e]at d;simp at d,V,λq f=>?_⟩;have P:=b.eR q f;have j:=(b.kX.eR q f).1;have o:=aar P.cW;have m:=P.aT;refine⟨V,V,V,V,λx h=>?_⟩;let⟨i,g⟩:=db.1 h;have I:=P.eR i x g;have l:=UP I.op b.kX.dj b.kX;refine⟨V,?_⟩;rcases I.fU with e|e
 .have c:=I.op;unfold kQ at c;simp only[e]at c;simp+decide only[mD,vW]at c;obtain⟨_,_,n,_⟩:=c;have k:(cY a.bR x.cG).length<=3:=by
   grind [cY,mU,gL.kX,ny.dj]
  omega
 .omega
def KH(F:iW m d p a)(Q:gL a):bJ dP 12 [.agg #[d.v,p.v]] m λaq m'=>∃d' p',aq=.tuple #[.agg #[d'.v,p'.v],vb true]/\iW m' d' p' (fR a)/\J m m':=by
 apply EF;simp -zeta only[dT];intro t a2;let⟨x2,hl⟩:=fV (a:=t) (c:=a2) O O;have s1:=pz t;have I:=hl t.size bO;refine(sQ (F.ext x2)).aP ?_;rintro _ v ⟨u,rfl,B,x3⟩;refine⟨x3.fg hl,u,O,λs=>absurd Q (nb B s),λ_=>?_⟩;have u2:=x2.N x3;have z3:=x3.aQ;have hS:∀c∈[t.size,m.size],c<v.size:=λc w=>by have:=hl c w;omega
 have am:Le m (di [t.size,m.size] v):=λu aR aq hv=>gY.2 ⟨λw=>by have:=pI hv;simp at w;omega,u2.aS hv⟩;refine(I7 hS (F.bR.le am) Q.kX.dj (ly.le am F.cU) (aa8.of Q)).aP ?_;rintro _ m4 ⟨g,q,l,rfl,A,i,x4⟩;refine⟨x4.fg hS,g,q,O,?_⟩;intro m5 m6;obtain⟨x6,-,s6⟩:=kZ (c:=m5) (a:=m6) O O O;clear_value m6;have aN:=Q.kX.aT;have up:∀{M H:D}{l:aA},sJ [t.size,m.size] v M g q a.bR l->J M H->sJ [t.size,m.size] v H g q a.bR l:=λA x=>A.re (x.fz []) bO (λu B=>⟨bz B,cr (A.lt u B) x.aQ⟩) bY;have aO:q.len=a.cU.length:=by rw[A.aT,<-i,jQ]
 refine iC (n:=a.cU.length) V (λe M=>J v M/\m6.size<=M.size/\∃l,sJ [t.size,m.size] v M g q a.bR l/\l.map (·.1)=uz a.cU e 0/\∀z∈l,z.2.bt<m4.size) ⟨x4.N x6,bY,l,up A x6,by rw[VR];exact i,λz C=>(A.c z C).cF.2⟩ ?_;clear i A l;rintro e M aJ μ hk ⟨xM,zM,l,A,i,K⟩ aH
 refine dit (λs=>?_) λs=>?_
 .let⟨b,P⟩:=dY a.cU e;have ac:=Q.eR b (ba P);have fw:=Fw.of ac;have aL:=ac.aT;have ll:l.length=a.cU.length:=by have:=jR List.length i;simpa[Rc]using this
  let⟨z,C⟩:=dY l e;have ez:z.1={b with cD:=oA b.cD 0}:=by
   have:=jR (λl=>l[e]?) i;simp only[eB,C,qT,P]at this;simpa using this
  obtain⟨aK,u,g0,g1,g2,g3,g4,_,_⟩:=A.kv C;refine⟨V,V,_,g0,_,g1,_,g2,_,g3,_,g4,?_⟩;intro m8 Y;obtain⟨x9,-,s9⟩:=kZ (a:=Y) O O O;clear_value Y;have cD:∀{N:D}{l:aA}{h:dS×E},sJ [t.size,m.size] v N g q a.bR l->h∈l->h.1.cD.length<=1000000->iz N h.2 h.1.cD:=λA G F=>iz.le fJ (A.cD G V);have aF:=(cD A (ba C) (by rw[ez];simp[qU];omega)).aT;have aP:z.2.len=b.cD.length:=by rw[aF,ez];exact qU
  have aI:=K z (ba C);have au:=(A.c z (ba C)).cF;refine iC (n:=b.cD.length) V (λj N=>J v N/\Y.size<=N.size/\∃l,sJ [t.size,m.size] v N g q a.bR l/\l.map (·.1)=uz a.cU e j/\(∀z∈l,z.2.bt<m4.size)/\∃h,l[e]? =some (h,z.2)) ⟨xM.N x9,bY,l,up A x9,i,K,z.1,C⟩ ?_;clear i A K;rintro j N I2 μ2 hj ⟨xN,zN,l,A,i,K,h,G⟩ ao;have ey:h={b with cD:=oA b.cD j}:=by
   have:=jR (λl=>l[e]?) i;simp only[eB,G,qT,P]at this;simpa using this
  subst ey;refine dit (λe2=>?_) λe2=>?_
  .let⟨x,T⟩:=dY b.cD j;have al:(oA b.cD j)[j]? =some x:=by rw[tc,T];simp
   let⟨pa,pj,ha,aM,av,aw,ax,ay,az,aB⟩:=(cD A (ba G) (by simp[qU];omega)).br al;refine⟨V,V,_,av,_,aw,_,ax,_,ay,_,az,_,aB,?_⟩;intro aQ ad;obtain⟨af,-,aS⟩:=kZ (a:=ad) O O O;clear_value ad;have aa:=up A af;have zl:∀{N':D},ad.size<=N'.size->∀c∈[N.size,M.size,m4.size,t.size,m.size],c<N'.size/\c≠z.2.bt:=λF c w=>by
    simp at w;have:=xN.aQ;omega
   have R:=λ{H:D}(s:sB b.cD j x=x)(A':sJ [t.size,m.size] v H g q a.bR l)(x':J v H)(z':Y.size<=H.size)=>ao V H ⟨x',z',l,A',((VQ P T s)▸i),K,_,G⟩;refine⟨λL=>?_,λL=>R (by unfold sB;rw[aV];intro F;simp at L;exact L F.1) aa (xN.N af) V⟩;have L:x.op=9:=sp L;have aD:j+1<b.cD.length:=by
    rcases eH (j+1) b.cD.length with I|I
    .exact I
    .have S:j=b.cD.length -1:=V;subst S;have:=ac.Dr x T;omega
   have S:eV ((j:Int)+1)=((j+1:Nat):Int):=by rw[gJ];rfl
   have aj:=Jd (cD aa (ba G) (by simp[qU];omega)) fw.to (k:=j+1) (r:=x.bA) (by rw[qU];exact aD);rw[<-S]at aj;refine aj.aP ?_;rintro _ an ⟨u,rfl,B,Z⟩;have aT:=Z.aQ;rw[BB.to fw]at B;have ah:=up aa Z;have ag:=xN.N (af.N Z);refine⟨Z.fg λc w=>(zl bY c w).1,u,O,λW=>?_,λW=>R (by unfold sB;rw[aV];intro F;rw[B.2 F.2]at W;cases W) ah ag V⟩;have aC:=B.1 W;let⟨w1,ai⟩:=ah.wrP (X:=[]) (ag.fz []) G al (o:=0) (d:=[.i 24]) cH (y:={x with op:=24}) λcs⟨a0,j0,s,I,h2⟩=>⟨a0,j0,by rw[s];rfl,I,h2⟩;refine⟨V,V,w1,?_⟩;intro U;change sJ _ _ U _ _ _ _ at ai;have ap:∀u,u≠z.2.bt->U[u]? =an[u]? :=λu B=>cw _ _ _ _ B;have aU:U.size=an.size:=bE _ _ _ _;have ar:J v U:=ag.aW au.1 _ _;have ak:e<l.length:=bC G;clear_value U;have aE:((oA b.cD j).set j {x with op:=24})[j]? =some {x with op:=24}:=fy (by rw[qU];exact bC T);let⟨w2,ab⟩:=ai.wrP (X:=[]) (ar.fz []) (fy ak) aE (o:=1) (d:=[.i 0]) cH (y:={x with op:=24,bA:=0}) λcs⟨a0,j0,s,I,h2⟩=>⟨a0,j0,by rw[s];rfl,I,h2⟩;refine⟨λc w=>ap c (zl V c w).2,bD (ap _ (zl V _ bO).2) _,V,V,w2,?_⟩;intro aG;change sJ _ _ aG _ _ _ _ at ab;simp only[Wl]at ab;have et:sB b.cD j x={x with op:=24,bA:=0}:=by unfold sB;rw[a8 ⟨L,aC⟩]
   refine⟨λc w=>cw _ _ _ _ (zl V c w).2,ao V _ ⟨ar.aW au.1 _ _,by rw[bE];omega,_,ab,?_,λae S=>?_,_,fy (by exact ak)⟩⟩
   .rw[DZ,i,Re P T,et]
   .rcases iX S with s|s
    .exact K ae s
    .rw[s];exact aI
  .have L:j=b.cD.length:=V;subst L;exact aH V _ ⟨xN,V,l,A,((VP P)▸i),K⟩
 .intro j;have G:J m j:=(u2.N xM).aW V _ _;have f:Fz [t.size] M j:=(Fz.cX _ M).aW (bz bO) _ _;have A':=A.re (S':=[]) f bO bO bY;rw[XC V]at i;have ll:l.length=a.cU.length:=by have:=jR List.length i;simpa using this
  have R:=A'.it V λz C=>by
   have:z.1∈a.cU.map rQ:=(i▸fA.2 ⟨z,C,O⟩);let⟨ae,S,s⟩:=fA.1 this;have:=(Q.eR ae S).aT;rw[<-s];simp[rQ];omega
  refine⟨g,q,O,⟨dw.le fJ R.1,?_⟩,G⟩;have:=ly.le fJ R.2;rw[i]at this;exact this
end
section
abbrev Wp:=eu (λk=>k=5\/k=7)
def oG(f:Nat)(c:ap)(s:D)(k:ag)(m:D)(b:Nat)(u ks:E)(n:Nat)(B:Int)(Q:Kn->Prop)(F:Option Kn):Prop:=
 bJ dP f c m λw y=>∃g z,w=vb g/\Wp k m z y/\(g=true->∃a,Wk s z y b u ks a n B/\Q a/\F=some a)/\(g=false->F=none)
open Classical in
noncomputable def Uo (h:cO) (p:dS) (e:Instr) (kn:Kn):Option Kn:=
 if a:∃t,uP h p e (qB kn e.aO) t then
  if(∀g∈C7 h e e.aO,0<=((fP kn (C7 h e e.aO)).r g).bF)/\((e.op=9\/e.op=24)->∀g∈fx h e 0 e.aO,rE (fP kn (C7 h e e.aO)) g)then KE e a.choose (fP kn (C7 h e e.aO))else none
 else none
@[grind cases] structure Db (m0 m M:D) (ro ro2:ag) (im:cO) (x:Instr) (kn:Kn) (b:Nat) (rs ks:E) (n:Nat) (B:Int) (T:E) (ts ll:ab) (cW:E) (i:Nat):Prop where
 wk:Wk m0 ro2 M b rs ks (fP kn (C7 im x (x.aO.take i))) n B
 gX:Wp ro m ro2 M
 ty:iV ro2 M bG 1 0 T (ts.map Ce.i)
 rm:iV ro2 M bG 1 7 cW (ll.map Ce.i)
 pP:ll.length<=i/\∀r∈ll,r∈x.aO/\(x.op=9\/x.op=24)/\r∈fx im x 0 (x.aO.take i)
 Vl:(x.op=9\/x.op=24)->∀r∈fx im x 0 (x.aO.take i),r∈ll
variable{s m y M o:D}{k z j:ag}{v b n C i:Nat}{d f a l c F u ks I L T cW:E}{h:cO}{p:dS}{B A:Int}{kn H:Kn}{e:Instr}{t g:Int}{w q:ab}{K:Kn->Prop}
def oG.no{F:Option Kn}(d:Wp k m z y)(c:F=none):∃g z,vb false=vb g/\Wp k m z y/\(g=true->∃a,Wk s z y b u ks a n B/\K a/\F=some a)/\(g=false->F=none):=⟨false,z,O,d,λe=>(by cases e),λ_=>c⟩
theorem aah{a:Int}{k:Kn}(h:e.op=20\/e.op=23):KE e t k=KE e a k:=by
 grind [KE,kT]
open Classical in
def YJ(d:eT h.bR)(a:uP h p e (qB kn e.aO) t)(c:e.op≠23->t=g):Uo h p e kn=
 if(∀g∈C7 h e e.aO,0<=((fP kn (C7 h e e.aO)).r g).bF)/\((e.op=9\/e.op=24)->∀g∈fx h e 0 e.aO,rE (fP kn (C7 h e e.aO)) g)then KE e g (fP kn (C7 h e e.aO))else none:=by
 unfold Uo
 have b:∃t,uP h p e (qB kn e.aO) t:=⟨t,a⟩
 grind [KE,fP,C7,aah,uP,gD.abN]
def abO(i:Nat):∃a,C7 h e e.aO=C7 h e (e.aO.take i)++a/\∀g∈a,g∈e.aO:=by
 have b:=jW i e.aO;unfold C7;split
 .have c:=sD h e (e.aO.take i) (e.aO.drop i) 0;grind [List.mem_of_mem_drop,vj]
 .grind [List.drop,List.mem_of_mem_drop]
def abP(o:eT h.bR)(c:uP h p e (qB kn e.aO) t)(a:∀g∈e.aO,0<=g/\g<kn.aU.length)(k:g∈C7 h e (e.aO.take i))(q:((fP kn (C7 h e (e.aO.take i))).r g).bF<0):Uo h p e kn=none:=by
 rw[YJ (g:=t) o c λ_=>O,aV];intro f;let⟨n,b,j⟩:=abO (h:=h) (e:=e) i;have l:=a g (jG (Pj k));have d:=f.1 g cC;rw[b,LP]at d;have:=Ri n (fP kn (C7 h e (e.aO.take i))) g (λy m=>by rw[xA];exact a y (j y m)) l.1;omega
def iV.Mh{a c b:Nat}{s:E}{l:ae}(h:iV k m a c b s l)(e:J m y):iV k y a c b s l:=by grind [iV.fH,J.bB,iV.bt]
def Db.ext(a:Db s m M k j h e kn b u ks n B T w q cW i)(c:J M o):Db s m o k j h e kn b u ks n B T w q cW i:=
 ⟨a.wk.ext c,a.gX.N (eu.fZ c a.gX.bI),a.ty.Mh c,a.rm.Mh c,a.pP,a.Vl⟩
def Db.adS(a:Db s m M k j h e kn b u ks n B T w q cW i)(f:e.aO[i]? =some g)(o:∀g∈e.aO,0<=g/\g<kn.aU.length)(p:(kn.r g).lP=0)(r:(e.op=9\/e.op=24)->¬jv h e i=true):
 Db s m M k j h e kn b u ks n B T w q cW (i+1):=by
 have l:(e.aO.take i).length=i:=by have:=bC f;simp;omega
 have t:=o g (ba f)
 refine⟨?_,a.gX,a.ty,a.rm,⟨by have:=a.pP.1;omega,λy d=>⟨(a.pP.2 y d).1,(a.pP.2 y d).2.1,by rw[bW f,ln];exact dO _ (a.pP.2 y d).2.2⟩⟩,λv y d=>?_⟩
 .rw[bW f,Ph,l,aV (λc=>r c.1 c.2),Ns,a8 (by rw[G6 _ _ _ (λy d=>o y (jG (Pj d))) t.1];exact p)]
  exact a.wk
 .rw[bW f,ln,fD,l]at d
  grind [Db.Vl,fx]
def Db.Nt(a:Db s m M k j h e kn b u ks n B T w q cW i)(f:e.aO[i]? =some g)(A:∀g∈e.aO,0<=g/\g<kn.aU.length)(G:(kn.r g).lP≠0)(t:¬((e.op=9\/e.op=24)/\jv h e i=true))(H:B<=1000000):
 bJ dP 156 [vp b 0,vi g] M λv o=>∃l:Bool,v=vb l/\eu (·=5) j M j o/\Wp k m j o/\(l=true->Db s m o k j h e kn b u ks n B T w q cW (i+1))/\(l=false->g∈C7 h e (e.aO.take (i+1))/\((fP kn (C7 h e (e.aO.take (i+1)))).r g).bF<0):=by
 have r:(e.aO.take i).length=i:=by have:=bC f;simp;omega
 have C:=A g (ba f)
 have I:=a.wk.ok.aT
 have J:=xA (C7 h e (e.aO.take i)) kn
 have L:((fP kn (C7 h e (e.aO.take i))).r g).lP=(kn.r g).lP:=G6 _ _ _ (λy d=>A y (jG (Pj d))) C.1
 refine(sR a.gX.bI a.wk.qu a.wk.ok V C.1 V).aP ?_
 rintro _ o ⟨l,rfl,E,p,K⟩
 have x:Wp j M j o:=by grind [eu.aP]
 have F:fP kn (C7 h e (e.aO.take (i+1)))=(fP kn (C7 h e (e.aO.take i))).iA g (-1):=by
  rw[bW f,Ph,r,aV t,Ns,aV cC]
 refine⟨l,O,p,a.gX.N x,λD=>⟨?_,a.gX.N x,a.ty.gX p cH,a.rm.gX p cH,⟨by have:=a.pP.1;omega,λy d=>⟨(a.pP.2 y d).1,(a.pP.2 y d).2.1,by rw[bW f,ln];exact dO _ (a.pP.2 y d).2.2⟩⟩,λz y d=>?_⟩,λD=>⟨?_,?_⟩⟩
 rotate_right
 .grind
 rotate_right
 .rw[bW f,Ph,r,aV t];simp
 .grind [Db.wk,Wk.ok,yY,Wk.of,nY.iA]
 .rw[bW f,ln,fD,r]at d
  rcases bT.1 d with d|d
  .exact a.Vl z y d
  .rw[fx,aV (λc=>t ⟨z,c⟩)]at d;simp[fx]at d
def Db.afU{G:E->D->Prop}(p:Db s m M k j h e kn b u ks n B T w q cW i)(r:e.aO[i]? =some g)(A:(e.op=9\/e.op=24)/\jv h e i=true)(Q:e.aO.length<=4)
 {d:Nat}(y:∀l o f a,gT [d] (M.push (.cells (dh [.i g]) bG)) o->Db s m o k f h e kn b u ks n B T w a l (i+1)->G l o)(O:d<M.size)(I:j d=0):mf (M.push (.cells (dh [.i g]) bG)) bG [.i 0] 8 cW (.mk M.size 0 1 1) G:=by
 have x:(e.aO.take i).length=i:=by have:=bC r;simp;omega
 have N:=bC r
 have a:=p.ext (J.push M (.cells (dh [.i g]) bG))
 have z:=p.rm.aT
 have L:=p.pP.1
 simp at z
 refine iV.fE (f:=[.i 0]) (new:=[.i g]) a.rm a.gX.bI bO (dJ.push M [.i g] bG).kv (by simp only[E.lU];omega) λf l o F t=>?_
 have v:Wp j (M.push (.cells (dh [.i g]) bG)) f o:=by grind [eu.aP]
 have fg:gT [d] (M.push (.cells (dh [.i g]) bG)) o:=λc K=>by
  grind
 refine y l o f (q++[g]) fg ⟨?_,a.gX.N v,a.ty.gX t cH,sp F,⟨fu,λH C=>?_⟩,λP H C=>?_⟩
 .rw[bW r,Ph,x,a8 A,gA]
  exact⟨a.wk.bs.Tl t cH,a.wk.qu.gX t cH,a.wk.ok⟩
 .grind [bW,ln,Db.pP,ba,List.mem_append_right,fx]
 .grind [bW,ln,Db.Vl,fx]
end
section
variable{s m L M H:D}{j y o:ag}{u b N A h:Nat}{d f a l c C w ks k F T cW:E}{e:cO}{g:dS}{B G:Int}{kn I:Kn}{x:Instr}{t r:Int}{z q:ab}{K:Kn->Prop}
theorem abG{l:ab}{h:Nat}{w:Int}{j:Nat}(a:h<l.length):(iv l h w)[j]? =if j=h then some w else l[j]? :=by
 grind [iv,Int.toNat_natCast,List.getElem?_set_self,List.getElem?_set_ne]
def abv(i:gL e)(j:x.op=9\/x.op=24)(o:uP e g x z t){h:Nat}{y:Int}(a:jv e x h=true)(p:z[h]? =some y):y≠0:=by
 have b:gD e 9 x.cG z t:=by
  grind [uP]
 unfold gD at b;rw[aV cH,aV cH,aV cH,aV cH,a8 O]at b;obtain⟨q,c,l,_⟩:=b;unfold jv dE at a;rw[c]at a;simp only[uL,XK,bQ]at a;obtain⟨r,f,rfl⟩:=a;let⟨k,d⟩:=db.1 f;obtain⟨⟨u,_,m,n⟩,_⟩:=(i.eR q (ba c)).cW k _ d;grind [Int.toNat_natCast]
def Qc{q:dS}{h:Nat}(a:e.cU[x.cG.toNat]? =some q):jv e x h=true<->(h:Int)∈q.cW:=by
 grind [jv,dE]
def TP(h:kQ e g A x):(x.op=0->-999<=x.cG/\x.cG<=999)/\(x.op=1\/x.op=2\/x.op=3\/x.op=4\/x.op=5\/x.op=11->x.cG=0)/\(x.op=9\/x.op=10\/x.op=24->0<=x.cG/\x.cG<e.cU.length):=by
 unfold kQ pH at h;have:=λq(h:e.cU[x.cG.toNat]? =some q)=>bC h;grind (splits:=20)
def EN(W:Vx s d f a l c e g)(hb:dJ m u jd [.s d,.s f,.s a,.s l,.i g.bP,.i g.aU,.s c,.s C])(hv:j u=4)(aa:Wk s j m b w ks kn g.aU.toNat B)(hB:1<=B/\B<=1000000)(R:iJ e g A x)(ha:bg s k x.aO)
 (aF:x.op≠22/\x.op≠14/\x.op≠15/\x.op≠16/\x.op≠17/\x.op≠18/\x.op≠19)(aw:x.op≠7/\x.op≠8):
 oG 160 [vp u 0,vp b 0,.agg #[vi x.op,vi x.bA,vi x.cG,vi x.cR,k.v,F.v]] s j m b w ks g.aU.toNat B (vX e g kn x) (Uo e g x kn):=by
 have so:=W.ok.kX
 have az:=UP R.op so.dj so
 have aJ:=(W.ok.eR g W.qu).aU
 have av:=ha.aT
 have aP:=aa.ok.aT
 have aR:=aa.qu.Jp
 have ae:∀r∈x.aO,0<=r/\r<kn.aU.length:=λr H=>by have:=R.aO r H;omega
 have aU:(qB kn x.aO).length=x.aO.length:=by simp[qB]
 unfold oG
 apply AI (u,0) (b,0)
 simp -zeta only[dT,iO]
 intro Z
 obtain⟨x1,z1⟩:=pu Z
 refine⟨V,V,V,V,?_⟩
 intro m2
 have x2:J m m2:=x1.cz _
 have z2:m2.size=m.size+2:=by simp[m2];omega
 have a2:iV j m2 bG 1 0 (.mk Z.size 0 k.len k.len) ((eU k.len).map Ce.i):=by
  have:=js.bI (J.cX Z) bG 1 ((eU k.len).map Ce.i) k.len (by simp[lX]);rw[<-tf]at this⊢;exact iV.jT this λ_=>aa.bs.bI _ (by show m.size<=Z.size;omega)
 refine iC (n:=x.aO.length) V (λh M=>J m M/\m2.size<=M.size/\∃I:ab,I.length=x.aO.length/\iV j M bG 1 0 (.mk Z.size 0 k.len k.len) (I.map Ce.i)/\∀Y,Y<h->I[Y]? =(qB kn x.aO)[Y]?) ⟨x2,bY,_,by rw[lX,av],a2,V⟩ ?_
 rintro h M aN μ hi ⟨xM,zM,I,Q,aM,aH⟩ ac
 have WM:=aa.ext xM
 refine dit (λG=>?_) λG=>?_
 .let⟨r,H⟩:=dY x.aO h
  have rr:=ae r (ba H)
  obtain⟨w0,_⟩:=WM.qu.dg (i:=r) rr.1 V
  have gr:aS M k.bt (k.off+h*1)=some (vi r):=WM.bs.de.aS (ha.br H)
  refine⟨V,V,r,gr,w,WM.qu.jB.1,rr.1,V,_,w0,V,by simp only[E.lU];omega,?_,?_⟩
  .grind [iV.Ur]
  intro K
  have a3:iV j K bG 1 0 (.mk Z.size 0 k.len k.len) ((iv I h (kn.r r).lP).map Ce.i):=by
   grind [iV.iv]
  have L:J m K:=xM.aW (by show m.size<=Z.size;omega) _ _
  have z:K.size=M.size:=bE _ _ _ _
  have fg:gT [m.size] M K:=λc hc=>by
   have:c=m.size:=sp hc;subst this;exact cw _ _ _ _ (by show m.size≠Z.size;omega)
  refine⟨fg,ac V _ ⟨L,V,_,by rw[jE,Q],a3,λY hj=>?_⟩⟩
  grind [abG,Ro]
 have aI:I=qB kn x.aO:=by
  apply eA;grind
 subst aI
 clear ac G aH
 generalize hT:E.mk Z.size 0 k.len k.len=T at*
 have aO:T.len=x.aO.length:=by rw[<-hT];exact av
 have cM:Wp j m j M:=eu.fZ xM aa.bs.bI
 have ag:=hb.ext xM
 have mE:(x.op=23\/x.op=20)->x.aO.length=1:=λz=>by
  have:=R.op;unfold kQ at this;rcases z with z|z<;>simp only[z]at this<;>simp+decide only[mD,vW]at this<;>exact this.1
 have g1:x.aO.length=1->∃P,qB kn x.aO=[P]/\aS M T.bt (T.off+Int.toNat 0*1)=some (vi P):=λh1=>by
  let⟨P,U⟩:=dY (qB kn x.aO) 0;refine⟨P,?_,?_⟩
  .have N:(qB kn x.aO).length=1:=V;match qB kn x.aO,U,N with
   |[_],U,_=>simp at U;rw[U]
  .have:=aM.kv 0 (.i P) (by rw[eB,U];rfl);exact this
 have ao:∀{K:D},J M K->bg K T (qB kn x.aO):=λxx=>(aM.Mh xx).nZ V
 have ar:∀c∈[m.size],c<M.size:=fu
 refine⟨λbP ok K=>J M K/\(ok=true->0<=bP/\∃t,uP e g x (qB kn x.aO) t/\(x.op≠23->t=bP))/\(ok=false->¬∃t,uP e g x (qB kn x.aO) t),⟨λad=>?_,λad=>⟨λaf=>?_,λaf=>⟨λaj=>?_,λaj=>?_⟩⟩⟩,?_⟩
 .have ad:x.op=23:=sp ad
  let⟨P,U,gy⟩:=g1 (mE (bz ad))
  refine⟨V,V,P,gy,g.bP,ag.dg 4,dt,λG=>⟨dN 0,g.bP,?_,λc=>absurd ad c⟩,λG⟨t,z⟩=>?_⟩
  .have G:P=g.bP:=sp G
   unfold uP
   grind
  .unfold uP at z
   grind
 .have af:x.op=20:=sp af
  let⟨P,U,gy⟩:=g1 (mE (bH af))
  refine⟨V,V,P,gy,dt,λG=>⟨dN 0,0,?_,λ_=>O⟩,λG⟨t,z⟩=>?_⟩
  .grind [uP]
  grind [uP]
 .have aj:x.op=24:=sp aj
  refine⟨d,ag.dg 0,f,ag.dg 1,(xP so (dw.ext WM.bs.de W.bR) (oZ.ext WM.bs.de W.kX) (ao dt) V (λz=>absurd z cH) ⟨λz=>absurd z cH,λz=>absurd z cH,λ_=>(TP R.op).2.2 V⟩).aP ?_⟩
  rintro _ K ⟨t,S,rfl,L,ht,ah⟩
  have hU:∀N,uP e g x (qB kn x.aO) N<->gD e 9 x.cG (qB kn x.aO) N/\N=g.bP:=λN=>by
   grind [uP]
  refine⟨L.fg ar,t,S,O,λG=>⟨g.bP,(ag.ext L).dg 4,L,λX=>?_,λX⟨N,z⟩=>?_⟩,λG=>⟨L,λX=>(by cases X),λ_⟨N,z⟩=>?_⟩⟩
  .grind
  .grind [gD.abN]
  grind
 .have ad:x.op≠23:=sp ad
  have af:x.op≠20:=sp af
  have aj:x.op≠24:=sp aj
  refine⟨d,ag.dg 0,f,ag.dg 1,(xP so (dw.ext WM.bs.de W.bR) (oZ.ext WM.bs.de W.kX) (ao dt) V (λz=>?_) ⟨(TP R.op).1,(TP R.op).2.1,λz=>(TP R.op).2.2 V⟩).aP ?_⟩
  .have:=R.op
   unfold kQ at this
   simp only[z]at this
   simp+decide only[mD,vW]at this
   have:=this.1
   have X:=tZ so.dj e.bR.length
   grind [qI]
  rintro _ K ⟨t,S,rfl,L,ht,ah⟩
  have hU:∀N,uP e g x (qB kn x.aO) N<->gD e x.op x.cG (qB kn x.aO) N:=λN=>by
   grind [uP]
  refine⟨L.fg ar,t,S,O,L,λG=>?_,λG⟨N,z⟩=>?_⟩
  .grind
  grind
 rintro bP ok K ⟨L,aE,aD⟩
 have an:=xM.N L
 have ai:Wp j m j K:=eu.fZ an aa.bs.bI
 refine⟨λG=>oG.no ai (by unfold Uo;rw[dif_neg (aD (sp G))]),λG=>?_⟩
 let⟨aL,t,hU,aK⟩:=aE (sp G)
 have r0:j m.size=0:=aa.bs.bI _ bY
 have aX:=L.aQ
 have ap:=hb.ext an
 have aA:x.cR=0\/1<=x.cR/\x.cR<=g.aU:=by
  rcases R.cR with z|z
  .exact bz z
  .have:=R.op;unfold kQ at this;simp only[z]at this;grind
 refine⟨λcW N=>∃o q,Db s K N j o e x kn b w ks g.aU.toNat B T (qB kn x.aO) q cW x.aO.length,?_,?_⟩
 .refine gN (n:=x.aO.length) V (λh cW N=>∃o q,Db s K N j o e x kn b w ks g.aU.toNat B T (qB kn x.aO) q cW h) ⟨j,[],⟨?_,eu.cX _ ai.bI,aM.Mh L,⟨O,bY,bz O⟩,⟨bY,bO⟩,by simp[fx]⟩⟩ ?_
  .have:C7 e x (x.aO.take 0)=[]:=by unfold C7;split<;>simp[je]
   rw[this];exact aa.ext an
  rintro h cW N I2 μ2 hi ⟨o,q,S⟩ ac
  have zN:=S.gX.aQ
  have al:m.size<K.size:=V
  have bN:m.size<N.size/\o m.size=0:=⟨V,(S.gX.jZ _ al).trans r0⟩
  have cN:Wp j m o N:=ai.N S.gX
  have ax:dJ N u jd [.s d,.s f,.s a,.s l,.i g.bP,.i g.aU,.s c,.s C]:=ap.congr (S.gX.fH u ap.lt (by rw[hv];decide))
  refine⟨λG=>?_,λG=>?_⟩
  .simp only[bh]at G
   have G:h<x.aO.length:=V
   let⟨r,H⟩:=dY x.aO h
   have gr:aS N k.bt (k.off+h*1)=some (vi r):=S.wk.bs.de.aS (ha.br H)
   have gy:aS N T.bt (T.off+h*1)=some (vi (kn.r r).lP):=by
    have:=S.ty.kv h (.i (kn.r r).lP) (by rw[eB,Ro H];rfl);rw[IN];exact this
   refine⟨V,V,r,gr,V,V,_,gy,λe0=>ac V _ _ ⟨o,q,S.adS H ae (sp e0) λho X=>abv W.ok ho hU X (Ro H) (sp e0)⟩,λe0=>?_⟩
   have y0:(kn.r r).lP≠0:=sp e0
   have tk:∀{N2:D},J N N2->¬((x.op=9\/x.op=24)/\jv e x h=true)->bJ dP 156 [vp b 0,vi r] N2 λaC N3=>gT [m.size] N2 N3/\∃I:Bool,aC=vb I/\
    ((!I)=true->∃r y,vb false=vb r/\Wp j m y N3/\(r=true->∃X,Wk s y N3 b w ks X g.aU.toNat B/\vX e g kn x X/\Uo e g x kn=some X)/\(r=false->Uo e g x kn=none))/\
    ((!I)=false->I2 cW (eV ((h:Int)+1)) N3/\μ2 cW (eV ((h:Int)+1)) N3<μ2 cW h N):=λ{N2} xN hn=>by
    refine((S.ext xN).Nt H ae y0 hn hB.2).aP ?_
    rintro _ N3 ⟨I,rfl,c5,c7,Q,ay⟩
    refine⟨c5.Du λP U=>?_,I,O,λX=>oG.no (ai.N c7) (have z:=ay (sp X);abP so.dj hU ae z.1 z.2),λX=>ac V _ _ ⟨o,q,Q (sp X)⟩⟩
    have:P=m.size:=sp U
    grind
   refine⟨λe9=>?_,λe9=>⟨λah=>?_,λah=>tk dt (by simp at e9 ah;omega)⟩⟩
   all_goals
    have h9:x.op=9\/x.op=24:=by first|exact bz (sp e9)|exact bH (sp ah)
    have am:=R.op
    unfold kQ at am
    rw[aV V,aV V,aV V,aV V,a8 h9]at am
    let⟨I,n0,Q,aG⟩:=am
    have au:=oZ.ext S.wk.bs.de W.kX
    have aT:=au.aT
    let⟨a1,b1,ia,ib,w0,w1,w2⟩:=au.br Q
    have aQ:=bC Q
    refine⟨f,ax.dg 1,n0,V,b1,w1,(lD ib h).aP ?_⟩
    rintro _ N2 ⟨r2,rfl,aq,xN⟩
    refine⟨xN.fg (sp bN.1),r2,O,λet=>?_,λef=>tk xN λhc=>fb aq ef ((Qc Q).1 hc.2)⟩
    exact(S.ext xN).afU H ⟨h9,(Qc Q).2 (aq.1 et)⟩ az (λaW N3 ak aB fg S'=>⟨fg,ac V _ _ ⟨ak,aB,S'⟩⟩) (cr bN.1 xN.aQ) bN.2
  grind
 .rintro cW N ⟨o,q,S⟩
  have zN:=S.gX.aQ
  have al:m.size<K.size:=V
  have bN:m.size<N.size/\o m.size=0:=⟨V,(S.gX.jZ _ al).trans r0⟩
  have cN:Wp j m o N:=ai.N S.gX
  have aC:=S.rm.aT
  simp at aC
  have aq:=S.pP
  have ah:=S.wk
  have au:=S.Vl
  rw[fB]at ah au
  have aB:=S.rm.nZ V
  have hF:=YJ (p:=g) so.dj hU aK
  refine iC (n:=q.length) V (λY N'=>N'=N/\∀r∈q.take Y,rE (fP kn (C7 e x x.aO)) r) ⟨O,bO⟩ ?_
  rintro Y N' I3 μ3 hj ⟨ay,am⟩ ac
  obtain rfl:N=N':=ay.symm
  refine dit (λG=>?_) λG=>?_
  .let⟨r,H⟩:=dY q Y
   have rr:=ae r (aq.2 r (ba H)).1
   refine⟨V,V,r,aB.br H,(oH ah.qu ah.ok V).aP ?_⟩
   rintro _ _ ⟨I,rfl,rfl,Q⟩
   refine⟨dt.fg (sp bN.1),I,O,λX=>oG.no cN (by
    rw[hF,aV];intro hc;have hm:=aq.2 r (ba H);rw[fB]at hm;rw[Q.2 ⟨rr.1,hc.2 hm.2.1 r hm.2.2⟩]at X;cases X),λX=>ac V _ ⟨O,λax hz=>?_⟩⟩
   rw[bW H]at hz
   grind
  .have:Y=q.length:=V
   subst this
   rw[fB]at am
   refine(AH (v:=u) (y:=F) ah hB.1 R aw (S.wk.bs.de|>λ_=>ha) aL aJ.2.1 aA).aP ?_
   rintro _ N2 ⟨I,ak,rfl,c5,Q,aG⟩
   have hc:(∀r∈C7 e x x.aO,0<=((fP kn (C7 e x x.aO)).r r).bF)/\((x.op=9\/x.op=24)->∀r∈fx e x 0 x.aO,rE (fP kn (C7 e x x.aO)) r):=⟨λr H=>(ah.ok.bF r (ae r (Pj H)).1).1,λho r H=>am r (au ho r H)⟩
   rw[hF,a8 hc]
   have c7:Wp o N ak N2:=c5.aP λ_ G=>bz G
   refine⟨c5.Du λP U=>?_,I,O,I,ak,O,cN.N c7,λX=>?_,aG⟩
   .grind
   .let⟨k',W',hf,ax⟩:=Q X
    refine⟨k',W',vX.use aF hU (YU.of V hU ah.ok (λr H=>(ae r H).1) hc.2 ?_),ax⟩
    grind [Wu]
end
section
variable{w m q W M P:D}{k u X:ag}{v b n K R C:Nat}{A:ap}{H f a I c L s ks G N T cW:E}{j:cO}{h:dS}{B z:Int}{kn S:Kn}{x:Instr}{y r:Int}{Y U:ab}{Q:Kn->Prop}{F:Option Kn}
theorem oG.up(h:oG C A w k q b s ks n B Q F)(p:J m q)(x:m.size<q.size)(j:∀b,m.size<=b->k b=0)(i:B<=z):
 bJ dP C A q λv c=>gT [m.size] q c/\∃a:Bool,v=vb a/\∃r u,vb a=vb r/\Wp k m u c/\(r=true->∃d,Wk w u c b s ks d n z/\Q d/\F=some d)/\(r=false->F=none):=by
 refine bJ.aP h ?_
 rintro _ c ⟨a,u,rfl,e,l,o⟩
 refine⟨e.Du λD y=>?_,a,O,a,u,O,(eu.fZ p j).N e,λf=>?_,o⟩
 .grind
 .let⟨t,d,g⟩:=l f
  exact⟨t,⟨d.bs,d.qu,d.ok.aP i⟩,g⟩
theorem nG.up(h:nG C A w k q b s ks n B Q F)(o:J m q)(j:m.size<q.size)(l:∀b,m.size<=b->k b=0)(i:B<=z):
 bJ dP C A q λp d=>gT [m.size] q d/\∃a:Bool,p=vb a/\∃r u,vb a=vb r/\Wp k m u d/\(r=true->∃c,Wk w u d b s ks c n z/\Q c/\F=some c)/\(r=false->F=none):=
 oG.up (bJ.aP h λ_ _⟨a,u,c,f,g⟩=>⟨a,u,c,f.aP λ_ e=>bz e,g⟩) o j l i
open Classical in
noncomputable def sN (j:cO) (h:dS) (x:Instr) (kn:Kn):Option Kn:=
 let a:=br x.aO 0
 if x.op=22 then some kn
 else if x.op=14 then if 0<(kn.r a).lP/\rE kn a then some (kn.iA a 1)else none
 else if x.op=15 then if 0<(kn.r a).lP/\0<=((kn.iA a (-1)).r a).bF then some (kn.iA a (-1))else none
 else if x.op=16\/x.op=17 then Qs j x kn
 else if x.op=18 then if 0<=(kn.r a).lP/\0<=((fP kn [a]).r a).bF/\((fP kn [a]).r x.bA).bF<=0 then some ((fP kn [a]).eE x.bA (kn.r a).lP (KT (kn.r a).lP))else none
 else if x.op=19 then Qh j x kn
 else Uo j h x kn
def vX.yJ(a:x.op=22):vX j h kn x kn:=by grind [vX]
theorem vX.WQ(a:x.op=14)(b:0<(kn.r (br x.aO 0)).lP)(c:rE kn (br x.aO 0)):vX j h kn x (kn.iA (br x.aO 0) 1):=by
 grind [vX]
theorem vX.uV(a:x.op=15)(b:0<(kn.r (br x.aO 0)).lP):vX j h kn x (kn.iA (br x.aO 0) (-1)):=by
 grind [vX]
def vX.pW(b:x.op=18)(c:0<=(kn.r (br x.aO 0)).lP){a:Kn}(f:fP kn [br x.aO 0]=a)(d:0<=(a.r (br x.aO 0)).bF)(e:(a.r x.bA).bF<=0):
 vX j h kn x (a.eE x.bA (kn.r (br x.aO 0)).lP (KT (kn.r (br x.aO 0)).lP)):=by
 grind [vX]
def aaw(y:Int):0<=KT y/\KT y<=1:=by grind [KT]
def Yt{y:Int}(h:0<=y):(if(1:Int)<y then 1 else y)=KT y:=by
 grind [KT]
open Classical in
def BO(P:Vx w H f a I c j h)(hb:dJ m v jd [.s H,.s f,.s a,.s I,.i h.bP,.i h.aU,.s c,.s L])(hv:k v=4)(aa:Wk w k m b s ks kn h.aU.toNat B)(hB:1<=B/\B<=1000000)(Q:iJ j h K x)(Y:bg w G x.aO):
 oG 110 [vp v 0,vp b 0,.agg #[vi x.op,vi x.bA,vi x.cG,vi x.cR,G.v,N.v]] w k m b s ks h.aU.toNat (B+3) (vX j h kn x) (sN j h x kn):=by
 have av:=Y.aT
 have aq:=aa.ok.aT
 have au:=aa.qu.Jp
 have ai:=Q.bA
 have ao:x.bA<kn.aU.length:=by have:=(P.ok.eR h P.qu).aU;omega
 have ar:=(P.ok.eR h P.qu).aU
 have an:x.op≠7/\x.op≠8:=by
  have E:=Q.op;unfold kQ at E;constructor<;>intro y<;>simp only[y]at E<;>simp+decide only[mD]at E
 unfold oG
 apply yI (v,0) (b,0)
 simp -zeta only[dT]
 intro q
 have T:=px q
 have z1:m.size<q.size:=by simp[q]
 have n:=aa.ext T
 have hn:=aa.bs.bI
 have F:Wp k m k q:=eu.fZ T hn
 have ah:=hb.ext T
 have S:∀u∈[m.size],u<q.size:=cC
 have n0:∀u∈[m.size],k u≠5:=cC
 have mE:(x.op=14\/x.op=15\/x.op=18)->∃r,br x.aO 0=r/\x.aO.length=1/\(0<=r/\r<kn.aU.length)/\aS q G.bt (G.off+Int.toNat 0*1)=some (vi r):=λE=>by
  have h1:x.aO.length=1:=by
   have:=Q.op;unfold kQ at this;rcases E with E|E|E<;>simp only[E]at this<;>simp+decide only[mD,vW]at this<;>exact this.1
  have ak:=jJ (l:=x.aO) (i:=0) V V;have:=Q.aO _ (ba ak);exact⟨_,O,h1,V,n.bs.de.aS (by simpa using Y.br ak)⟩
 refine⟨λam=>⟨true,k,O,F,λ_=>⟨kn,⟨n.bs,n.qu,n.ok.aP V⟩,vX.yJ cC,by unfold sN;simp only[];rw[a8 cC]⟩,λy=>by cases y⟩,λam=>⟨λab=>?_,λab=>⟨λac=>?_,λac=>⟨λad=>?_,λad=>⟨λW=>?_,λW=>⟨λae=>?_,λae=>?_⟩⟩⟩⟩⟩⟩
 .have ab:x.op=14:=cC
  let⟨r,hA,hl,A,M⟩:=mE (bz ab)
  have C:sN j h x kn=if 0<(kn.r r).lP/\rE kn r then some (kn.iA r 1)else none:=by grind [sN]
  obtain⟨w0,w1,_⟩:=n.qu.dg (i:=r) A.1 V
  refine⟨s,n.qu.jB.1,V,V,r,M,A.1,V,_,w0,λy=>oG.no F cC,λy=>⟨V,V,r,M,(oH n.qu n.ok V).aP ?_⟩⟩
  rintro _ _ ⟨u,rfl,rfl,z⟩
  have ho:=n.ok.bF r A.1
  refine⟨dt.fg S,u,O,λX=>oG.no F cC,λX=>⟨s,n.qu.jB.1,V,V,r,M,A.1,V,_,w1,A.1,V,n.qu.wr A.1 V V,?_⟩⟩
  intro m2
  have J:eV ((kn.r r).bF+1)=(kn.r r).bF+1:=by grind [dk]
  have U:mo k m2 5 b s ks (kn.iA r 1):=n.qu.cE (g:=λu=>{u with bF:=u.bF+1}) A.1 V bO (by rw[J];rfl)
  have D:eu (·=5) k _ k m2:=n.qu.qG n.bs.bI (o:=s.off+r.toNat*6+1) [.i (eV ((kn.r r).bF+1))]
  refine⟨D.Du λu z=>⟨S u z,n0 u z⟩,true,k,O,F.N (D.aP λ_ y=>bz y),λ_=>⟨_,n.of D U (n.ok.iA V V V),?_,?_⟩,λy=>by cases y⟩
  .grind [vX.WQ]
  grind
 .have ac:x.op=15:=cC
  let⟨r,hA,hl,A,M⟩:=mE (bH (bz ac))
  have C:sN j h x kn=if 0<(kn.r r).lP/\0<=((kn.iA r (-1)).r r).bF then some (kn.iA r (-1))else none:=by grind [sN]
  obtain⟨w0,w1,_⟩:=n.qu.dg (i:=r) A.1 V
  refine⟨s,n.qu.jB.1,V,V,r,M,A.1,V,_,w0,λy=>⟨V,V,r,M,(sR n.bs.bI n.qu n.ok V A.1 V).aP ?_⟩,λy=>oG.no F cC⟩
  rintro _ m2 ⟨u,rfl,U,D,z⟩
  have ho:=n.ok.bF r A.1
  refine⟨D.Du λu z=>⟨S u z,n0 u z⟩,u,O,u,k,O,F.N (D.aP λ_ y=>bz y),λX=>⟨_,n.of D U (n.ok.iA V V ?_),?_,?_⟩,λX=>?_⟩
  rotate_right
  .grind
  rotate_right
  .grind
  .grind [yY]
  grind [vX.uV]
 .have ad:x.op=16\/x.op=17:=cC
  have C:sN j h x kn=Qs j x kn:=by grind [sN]
  rw[C]
  exact(Dq P ah n V Q ad Y).up T z1 hn (dN _)
 .have W:x.op=18:=cC
  let⟨r,hA,hl,A,M⟩:=mE (bH (bH W))
  have C:sN j h x kn=if 0<=(kn.r r).lP/\0<=((fP kn [r]).r r).bF/\((fP kn [r]).r x.bA).bF<=0 then some ((fP kn [r]).eE x.bA (kn.r r).lP (KT (kn.r r).lP))else none:=by grind [sN]
  obtain⟨w0,w1,_⟩:=n.qu.dg (i:=r) A.1 V
  have ho:=n.ok.bF r A.1
  refine⟨s,n.qu.jB.1,V,V,r,M,A.1,V,_,w0,λy=>oG.no F cC,λy=>⟨λe2=>⟨V,V,r,M,(sR n.bs.bI n.qu n.ok V A.1 V).aP ?_⟩,λe2=>?_⟩⟩
  .rintro _ m2 ⟨u,rfl,U,D,z⟩
   have e2:0<(kn.r r).lP:=cC
   have ek:fP kn [r]=kn.iA r (-1):=by rw[fP,aV (Int.ne_of_gt e2)];rfl
   rw[ek]at C
   refine⟨D.Du λu z=>⟨S u z,n0 u z⟩,u,O,λX=>oG.no (F.N (D.aP λ_ y=>bz y)) cC,λX=>?_⟩
   have z:=z.1 cC
   have al:=z
   rw[yY V A.1]at al
   simp only[vW]at al
   have ap:=n.ok.iA (i:=r) (e:=-1) (B':=B+3) V V V
   have hm:=Yt (y:=(kn.r r).lP) V
   have af:=aaw (kn.r r).lP
   rw[hm]
   refine(ql (t:=(kn.r r).lP) (l:=KT (kn.r r).lP) D.bI U (a:=x.bA) ⟨ai.1,by rw[rl];exact ao⟩).aP ?_
   rintro _ m3 ⟨q3,rfl,R,h3,ag⟩
   have aj:=D.N R
   refine⟨R.Du λu z=>⟨cr (S u z) D.aQ,n0 u z⟩,q3,O,q3,k,O,F.N (aj.aP λ_ y=>bz y),λJ=>?_,λJ=>by rw[C,aV];intro E;rw[ag E.2.2]at J;cases J⟩
   let⟨Z,K3⟩:=h3 J
   refine⟨_,n.of aj K3 (ap.eE (B':=B+3) ⟨ai.1,V⟩ (dN _) ⟨af.1,V⟩),?_,by rw[C,a8 ⟨Int.le_of_lt e2,z,Z⟩]⟩
   have:=vX.pW (j:=j) (h:=h) (kn:=kn) (a:=kn.iA r (-1)) W cC cC cC Z
   rwa[hA]at this
  .have D:(kn.r r).lP=0:=cC
   have hm:=Yt (y:=(kn.r r).lP) V
   have af:=aaw (kn.r r).lP
   rw[hm]
   refine(ql (t:=(kn.r r).lP) (l:=KT (kn.r r).lP) n.bs.bI n.qu (a:=x.bA) V).aP ?_
   rintro _ m3 ⟨q3,rfl,R,h3,ag⟩
   have ek:fP kn [r]=kn:=by grind [fP]
   rw[ek]at C
   refine⟨R.Du λu z=>⟨S u z,n0 u z⟩,q3,O,q3,k,O,F.N (R.aP λ_ y=>bz y),λJ=>?_,λJ=>by rw[C,aV];intro E;rw[ag E.2.2]at J;cases J⟩
   let⟨Z,K3⟩:=h3 J
   refine⟨_,n.of R K3 (n.ok.eE (B':=B+3) ⟨ai.1,V⟩ V ⟨af.1,V⟩),?_,by rw[C,a8 ⟨V,ho.1,Z⟩]⟩
   have:=vX.pW (j:=j) (h:=h) (kn:=kn) (a:=kn) W cC cC cC Z
   rwa[hA]at this
 .have ae:x.op=19:=cC
  have C:sN j h x kn=Qh j x kn:=by grind [sN]
  rw[C]
  exact(Dp P ah n V Q ae Y).up T z1 hn V
 .have z:x.op≠22/\x.op≠14/\x.op≠15/\x.op≠16/\x.op≠17/\x.op≠18/\x.op≠19:=cC
  have C:sN j h x kn=Uo j h x kn:=by grind [sN]
  rw[C]
  exact(EN P ah hv n hB Q Y z an).up T z1 hn V
end
section
abbrev CV:=eu (λk=>k=3\/k=5\/k=7\/10<=k)
@[grind cases] structure Pr (q:Nat) (L L':aq):Prop where
 aT:L'.length=L.length
 iQ:∀(i:Nat) old,L[i]? =some (some old)->∃k',L'[i]? =some (some k')/\vZ old k'
 bB:∀i,i<q->L'[i]? =L[i]?
def XQ(L:aq)(h:Int)(k:Kn):Prop:=0<=h/\∃H,L[h.toNat]? =some (some H)/\vZ k H
def Il(e:cO)(p:dS)(L:aq)(h:Nat)(x:Instr)(kn:Kn):Prop:=
 (x.op≠21->∃a,vX e p kn x a/\∀s∈tI x h,XQ L s a)/\
 (x.op=21->(kn.r (br x.aO 0)).lP=x.cG/\rE kn (br x.aO 0)/\∀(h:Nat)(j:Int),(cY e.bR x.cG)[h]? =some j->(kn.r (br x.aO 0)).lF<0\/(kn.r (br x.aO 0)).lF=j->XQ L (br x.fU h) (kn.jH (br x.aO 0) j))
def Xe{α:Type}(f:Nat->α->Option α)(a:α):Nat->Option α
 |0=>some a
 |s+1=>(Xe f a s).bind (f s)
def P7{α:Type}{f:Nat->α->Option α}{a:α}{s k:Nat}(h:Xe f a s=none)(b:s<=k):Xe f a k=none:=by
 induction k with
 |zero=>rw[show 0=s by omega];exact h
 |succ k c=>
  by_cases e:s=k+1
  .rw[<-e];exact h
  .grind [Xe]
def vH{α:Type}{f:Nat->α->Option α}{a b:α}{s:Nat}(h:Xe f a s=some b):Xe f a (s+1)=f s b:=by rw[Xe,h];rfl
noncomputable def YZ (e:cO) (x:Instr) (kn:Kn) (j:Nat) (L:aq):Option aq:=
 if 0<=(kn.r (br x.aO 0)).lF/\(kn.r (br x.aO 0)).lF≠br (cY e.bR x.cG) j then some L else xF L (kn.jH (br x.aO 0) (br (cY e.bR x.cG) j)) (br x.fU j).toNat
open Classical in
noncomputable def uy (e:cO) (x:Instr) (kn:Kn) (L:aq):Option aq:=
 if(kn.r (br x.aO 0)).lP=x.cG/\rE kn (br x.aO 0)then Xe (YZ e x kn) L (cY e.bR x.cG).length else none
variable{y m G F M T:D}{t z u:ag}{v b s A q:Nat}{d f a C j J w ks R I:E}{e:cO}{p:dS}{L k r:aq}{B B' Q:Int}{kn K H S:Kn}{x:Instr}{h:Int}
def Pr.cX:Pr q L L:=by constructor<;>grind [vZ.cX]
def Pr.N(a:Pr q L k)(g:Pr q k r):Pr q L r:=⟨g.aT.trans a.aT,λh old e=>by
 let⟨H,c,f⟩:=a.iQ h old e;let⟨S,d,i⟩:=g.iQ h H c;exact⟨S,d,f.N i⟩,λh b=>(g.bB h b).trans (a.bB h b)⟩
def Pr.eE(b:0<=Q/\Q<L.length)(a:(q:Int)<=Q)(h:∀old,L[Q.toNat]? =some (some old)->vZ old K):Pr q L (L.set Q.toNat (some K)):=by
 constructor<;>grind [List.getElem?_set_ne,List.getElem?_set_self,vZ.cX]
theorem XQ.aP(b:XQ L h H)(w:Pr q L k):XQ k h H:=by
 let⟨c,S,e,f⟩:=b;let⟨d,a,g⟩:=w.iQ _ _ e;exact⟨c,d,a,f.N g⟩
def Il.aP{f:Nat}(d:Il e p L f x kn)(w:Pr q L k):Il e p k f x kn:=
 ⟨λc=>by obtain⟨m,a,b⟩:=d.1 c;exact⟨m,a,λs g=>(b s g).aP w⟩,λc=>by obtain⟨a,b,l⟩:=d.2 c;exact⟨a,b,λh j g i=>(l h j g i).aP w⟩⟩
def abI{a j e:Int}:(kn.jH a j).jH a e=kn.jH a e:=BT
def Y2{a:af}(h:eT a){t j:Int}(b:j∈cY a t):0<=j/\j<=1000:=by
 grind [cY,tZ,mU]
def iV.acq{e c:Nat}{s:E}{C:ae}(h:js m F e c s C)(d:∀b,m.size<=b->t b=0):iV t F e c 0 s C:=
 iV.jT h λf=>by
  rcases h.br with a|⟨b,j,tail,a,h2,_⟩
  .exact absurd a f
  .rw[a];exact d b h2
def Wk.cv(h:Wk y t m b w ks kn s B)(c:Bs y z F){P:Nat->Prop}(d:eu P t m z F)(a:¬P 5):Wk y z F b w ks kn s B:=⟨c,h.qu.gX d a,h.ok⟩
open Classical in
def xT(Y:Vx y d f a C j e p)(aC:rj y t m v d f a C j J p L B)(ab:Wk y t m b w ks kn p.aU.toNat B)(hL:L.length=p.cD.length)(hx:iJ e p A x)(an:x.op=21)(ha:bg y R x.aO)(hj:bg y I x.fU):
 bJ dP 109 [vp v 0,vp b 0,.agg #[vi x.op,vi x.bA,vi x.cG,vi x.cR,R.v,I.v]] m λaj F=>∃N z,aj=vb N/\CV t m z F/\(N=true->∃k,rj y z F v d f a C j J p k B/\Pr (A+1) L k/\Il e p k A x kn/\uy e x kn L=some k)/\(N=false->uy e x kn L=none):=by
 have aX:=ha.aT
 have aR:=ab.ok.aT
 have aU:=ab.qu.Jp
 have aT:=(Y.ok.eR p Y.qu).aU
 have ae:=hx.op
 unfold kQ at ae
 simp only[an]at ae
 simp+decide only[mD,vW]at ae
 obtain⟨h1,_,aM,aF⟩:=ae
 have ao:=jJ (l:=x.aO) (i:=0) V V
 have aa:=hx.aO _ (ba ao)
 generalize hA:br x.aO 0=r0 at*
 apply vG (v,0) (b,0)
 simp -zeta only[dT]
 intro G
 have x1:=px G
 have z1:m.size<G.size:=by simp[G]
 have S:=ab.ext x1
 have hn:=ab.bs.bI
 have c1:CV t m t G:=eu.fZ x1 hn
 have V1:=aC.gX (P:=λ_=>False) (eu.fZ x1 hn) (λ_=>False.elim)
 have ar:∀q∈[m.size],q<G.size:=cC
 have aJ:t m.size=0:=cC
 have no:∀{M:D}{u:ag},CV t m u M->uy e x kn L=none->∃N z,vb false=vb N/\CV t m z M/\(N=true->∃k,rj y z M v d f a C j J p k B/\Pr (A+1) L k/\Il e p k A x kn/\uy e x kn L=some k)/\(N=false->uy e x kn L=none):=cC
 have hF:uy e x kn L=if(kn.r r0).lP=x.cG/\rE kn r0 then Xe (YZ e x kn) L (cY e.bR x.cG).length else none:=by grind [uy]
 have hG:∀{s:Nat}{E:Int}{r:aq},(cY e.bR x.cG)[s]? =some E->YZ e x kn s r=if 0<=(kn.r r0).lF/\(kn.r r0).lF≠E then some r else xF r (kn.jH r0 E) (br x.fU s).toNat:=λ{s E r} T=>by
  grind [jJ,cY,bC,Int.toNat_natCast,YZ]
 have gr:aS G R.bt (R.off+Int.toNat 0*1)=some (vi r0):=S.bs.de.aS (by simpa using ha.br ao)
 obtain⟨w0,_,_,w3,_⟩:=S.qu.dg (i:=r0) aa.1 V
 refine⟨w,S.qu.jB.1,V,V,r0,gr,aa.1,V,_,w0,λH=>no c1 cC,λH=>⟨V,V,r0,gr,(oH S.qu S.ok V).aP ?_⟩⟩
 rintro _ M ⟨q,rfl,hM,hq⟩
 obtain rfl:G=M:=hM.symm
 refine⟨dt.fg ar,q,O,λeq=>no c1 cC,λeq=>⟨_,w3,d,V1.bU.dg 0,(CR (dw.ext S.bs.de Y.bR) Y.dj x.cG).aP ?_⟩⟩
 rintro _ m2 ⟨ay,rfl,hs,h3,x2⟩
 have av:=iV.acq hs S.bs.bI
 have aI:=av.aT
 simp at aI
 have lP:(kn.r r0).lP=x.cG:=cC
 have aD:=(hq.1 cC).2
 rw[a8 ⟨lP,aD⟩]at hF
 have c2:CV t m t m2:=c1.N (eu.fZ x2 S.bs.bI)
 have W2:=S.ext x2
 have V2:=V1.gX (P:=λ_=>False) (eu.fZ x2 S.bs.bI) (λ_=>False.elim)
 have zm:=x2.aQ
 refine⟨x2.fg ar,ay,O,iC (n:=(cY e.bR x.cG).length) V (λs M=>∃u r kc,CV t m2 u M/\rj y u M v d f a C j J p r B/\Wk y u M b w ks kc p.aU.toNat B/\(∀H,kc.jH r0 H=kn.jH r0 H)/\Pr (A+1) L r/\iV u M bG 1 0 ay ((cY e.bR x.cG).map Ce.i)/\Xe (YZ e x kn) L s=some r/\
  ∀(h:Nat)(j:Int),h<s->(cY e.bR x.cG)[h]? =some j->(kn.r r0).lF<0\/(kn.r r0).lF=j->XQ r (br x.fU h) (kn.jH r0 j)) ⟨t,L,kn,eu.cX _ c2.bI,V2,W2,λ_=>O,Pr.cX,av,O,V⟩ ?_⟩
 rintro s M aA μ aN ⟨u,r,kc,X,VM,W,ad,lw,ah,ac,hh⟩ ax
 have zM:=X.aQ
 have bM:m.size<M.size/\u m.size=0:=⟨V,(X.jZ _ V).trans aJ⟩
 have cA:=c2.N X
 refine dit (λH=>?_) λH=>?_
 .let⟨E,T⟩:=dY (cY e.bR x.cG) s
  have aY:=Y2 Y.dj (ba T)
  have aQ:=W.ok.aT
  have aL:s<x.fU.length:=V
  have af:=jJ (l:=x.fU) (i:=s) V V
  rw[iO]at af
  have aO:=aF _ (ba af)
  have go:((kn.r r0).lF<0\/(kn.r r0).lF=E)->∃ak:D->Prop,(gK M w.bt (w.off+r0.toNat*6+3) 1/\let Q:D:=aW M w.bt (w.off+r0.toNat*6+3) [.i E];gT [m.size] M Q/\ak Q)/\∀Q,ak Q->(0:Int)<=s/\(s:Int)<I.len/\
   ∃az:Int,aS Q I.bt (I.off+(s:Int).toNat*1)=some (vi az)/\bJ dP 112 [vp v 0,vp b 0,vi az] Q λaj U=>gT [m.size] Q U/\∃q:Bool,aj=vb q/\
    ((!q)=true->∃N z,vb false=vb N/\CV t m z U/\(N=true->∃k,rj y z U v d f a C j J p k B/\Pr (A+1) L k/\Il e p k A x kn/\uy e x kn L=some k)/\(N=false->uy e x kn L=none))/\
    ((!q)=false->aA (eV ((s:Int)+1)) U/\μ (eV ((s:Int)+1)) U<μ s M):=λaK=>by
   have al:eu (·=5) u M u (aW M w.bt (w.off+r0.toNat*6+3) [.i E]):=W.qu.qG X.bI _
   refine⟨λaB=>aB=aW M w.bt (w.off+r0.toNat*6+3) [.i E],⟨W.qu.wr aa.1 V V,al.Du λE T=>?_,O⟩,?_⟩
   .grind
   intro Q au
   have K4:mo u Q 5 b w ks (kc.jH r0 E):=by rw[au];exact W.qu.cE (i:=r0) (o:=3) (new:=[.i E]) (g:=λN=>{N with lF:=E}) aa.1 V bO O
   have Z:eu (·=5) u M u Q:=cC
   clear au al
   have W4:=W.of Z K4 (W.ok.jH aa.1 (c:=E) V)
   have V4:=VM.gX Z (λ_ H=>bz H)
   have z4:=Z.aQ
   have aG:aS Q I.bt (I.off+(s:Int).toNat*1)=some (vi (br x.fU s)):=by
    have:=W4.bs.de.aS (hj.br af);rwa[iO]
   have aP:=hj.aT
   refine⟨V,V,_,aG,(ue V4 W4.qu W4.ok (g:=br x.fU s) cC).aP ?_⟩
   rintro _ U ⟨q,ai,rfl,c5,hq,aH⟩
   have hb:YZ e x kn s r=xF r (kc.jH r0 E) (br x.fU s).toNat:=by rw[hG T,aV V,ad]
   have aE:CV u Q ai U:=by grind [eu.aP]
   have am:CV t m2 ai U:=(X.N (Z.aP λ_ H=>bH (bz H))).N aE
   refine⟨c5.Du λE T=>?_,q,O,λeq=>no (c2.N am) (by rw[hF];exact P7 (s:=s+1) (by rw[vH ac,hb];exact aH cC) V),λeq=>?_⟩
   .grind
   let⟨K,V5,w1,w2,w3⟩:=hq cC
   have aw:Pr (A+1) r (r.set (br x.fU s).toNat (some K)):=Pr.eE cC V w2
   refine ax V _ ⟨ai,_,kc.jH r0 E,am,V5,W4.cv V5.de c5 cH,λH=>by rw[abI,ad],lw.N aw,(ah.gX Z cH).gX c5 cH,by rw[vH ac,hb,w3],λh j hi hc ap=>?_⟩
   .by_cases ei:h=s
    .subst ei
     rw[T]at hc;cases hc
     rw[ad]at w1
     exact⟨V,K,fy (by rw[lw.aT,hL];omega),w1⟩
    .exact(hh h j V hc ap).aP aw
  refine⟨V,V,E,(ah.nZ V).br T,λe1=>⟨λe2=>ax V _ ⟨u,r,kc,X,VM,W,ad,lw,ah,by rw[vH ac,hG T,a8 ⟨sp e1,sp e2⟩],λh j hi hc ap=>?_⟩,λe2=>go (bH cC)⟩,λe1=>go (bz cC)⟩
  grind
 .have Q:s=(cY e.bR x.cG).length:=V
  refine⟨true,u,O,cA,λ_=>⟨r,VM,lw,⟨λT=>absurd an T,λ_=>?_⟩,by rw[hF,<-Q];exact ac⟩,λH=>by cases H⟩
  grind
end
section
noncomputable def wy (h:cO) (p:dS) (e:Nat) (x:Instr) (kn:Kn) (L:aq):Option aq:=
 if x.op=21 then uy h x kn L else(sN h p x kn).bind λa=>Xe (λj L=>xF L a (br (tI x e) j).toNat) L (tI x e).length
variable{w g j F M S:D}{t H y:ag}{v b I e q:Nat}{d f a C c s K ks z A:E}{h:cO}{p:dS}{L k u:aq}{B R U:Int}{kn N P Q:Kn}{x:Instr}{T:Int}
def Zg(g:iJ h p e x)(f:p.cD[e]? =some x)(k:nH h p)(i:x.op≠21):∀I∈tI x e,(e:Int)+1<=I/\I<=(p.cD.length:Int) -1:=by
 have j:=bC f;have b:=g.op;unfold kQ at b;intro I a;unfold tI at a;by_cases d:x.op=22
 .simp only[d]at b a;grind
 by_cases c:x.op=20
 .simp only[c]at b a;grind
 grind [List.length,nH.Dr]
def abA(a:x.op≠21):(tI x e).length<=2:=by
 grind [tI]
def Ze(i:x.op≠21)(l:e<=1000000):bJ dP 111 [.agg #[vi x.op,vi x.bA,vi x.cG,vi x.cR,z.v,A.v],vi e] g λw F=>∃s,w=s.v/\js g F bG 1 s ((tI x e).map Ce.i)/\J g F:=by
 apply BH;simp -zeta only[dT];intro j;have b:=px j;have k:eV ((e:Int)+1)=(e:Int)+1:=by grind [dk]
 rw[k];have mk:∀(y:ab),∃s,(E.v (.mk j.size 0 y.length y.length))=s.v/\js g (j.push (.cells (dh (y.map Ce.i)) bG)) bG 1 s (y.map Ce.i)/\J g (j.push (.cells (dh (y.map Ce.i)) bG)):=λy=>
  ⟨_,O,(js.bI (J.cX j) bG 1 (y.map Ce.i) y.length bO).de b.aQ,b.cz _⟩
 unfold tI;refine⟨λc=>?_,λc=>⟨λd=>?_,λd=>⟨λf=>absurd cC i,λf=>⟨λh=>?_,λh=>?_⟩⟩⟩⟩
 .intro a;rw[a8 cC];exact mk [x.cG]
 .intro a;rw[aV cC,a8 cC];exact mk [(e:Int)+1,x.cG]
 .grind [js.gF]
 .intro a;rw[aV cC,aV cC,aV cC,aV cC];exact mk [(e:Int)+1]
def wq(aa:Vx w d f a C c h p)(U:rj w t g v d f a C c s p L B)(hB:1<=B/\B<=1000000)(hL:L.length=p.cD.length)(ap:L[e]? =some (some kn))(aj:p.cD[e]? =some x):
 bJ dP 60 [vp v 0,vi e] g λah F=>∃S H,ah=vb S/\CV t g H F/\(S=true->∃k,rj w H F v d f a C c s p k (B+3)/\Pr (e+1) L k/\Il h p k e x kn/\wy h p e x kn L=some k)/\(S=false->wy h p e x kn L=none):=by
 let⟨am,hQ,hA,hC⟩:=U.kL
 have aM:=bC ap
 have ar:=aa.ok.eR p aa.qu
 have hx:=ar.eR e x aj
 let⟨qc,hq⟩:=dY am e
 have aq:=hC e qc (some kn) hq ap
 obtain⟨kb,af,ae,rfl,K0,az⟩:∃kb af ae,qc=some (kb,0)/\mo t g (10+e) kb af ae kn/\nY kn p.aU.toNat B:=by
  cases qc with
  |none=>exact aq.elim
  |some qc=>
   let⟨E,af,ae,I,R⟩:=aq;let⟨kb,T⟩:=qc;simp only at E I;subst E;exact⟨kb,af,ae,O,I,R⟩
 let⟨z,A,ia,ij,g0,g1,g2,g3,g4,g5⟩:=aa.cD.br aj
 have aK:=aa.cD.aT
 have aI:s.len=am.length:=by have:=hA.aT;simp at this;omega
 have gQ:aS g s.bt (s.off+e*1)=some (Ce.v (.pp (some (kb,0)))):=by
  have:=hA.kv e (.pp (some (kb,0))) cC;grind
 have G:∀{ay:Nat}{ah:Value},aS w c.bt ay=some ah->aS g c.bt ay=some ah:=λai=>U.de.de.aS ai
 have b7:aS g v 7=some s.v:=U.bU.dg 7
 have b6:aS g v 6=some c.v:=U.bU.dg 6
 apply uI (v,0)
 simp -zeta only[dT,iO]
 refine⟨λax xp M=>∃y b K ks,ax=some (b,0)/\CV t g y M/\rj w y M v d f a C c s p L B/\Wk w y M b K ks kn p.aU.toNat B/\xp.2=0/\dJ M xp.1 ee [.i x.op,.i x.bA,.i x.cG,.i x.cR,.s z,.s A]/\y xp.1=0,⟨s,b7,V,V,_,gQ,c,b6,V,V,_,G g0,_,G g1,_,G g2,_,G g3,_,G g4,_,G g5,?_,?_⟩,?_⟩
 .refine(rL U.de.bI K0 5).aP ?_
  rintro _ j ⟨W,b1,ac,ab,rfl,K1,T⟩
  have E:=T.YH
  have V1:=U.gX T (λ_=>False.elim)
  refine⟨some (b1,0),O,E.cK (G g0),E.cK (G g1),E.cK (G g2),E.cK (G g3),E.cK (G g4),E.cK (G g5),E.cK b6,?_⟩
  intro m2
  have I:=px m2
  have Q:dJ m2 j.size ee [.i 0,.i 0,.i 0,.i 0,.s .nil,.s .nil]:=dJ.push j _ _
  refine⟨I.cK (E.aS (G g0)),I.cK (E.aS (G g1)),I.cK (E.aS (G g2)),I.cK (E.aS (G g3)),I.cK (E.aS (G g4)),I.cK (E.aS (G g5)),I.cK (E.aS b6),I.cK (E.aS gQ),I.cK (E.aS b7),?_⟩
  intro X
  have Z:J j X:=by grind [J.aW]
  have k3:dJ X j.size ee [.i x.op,.i x.bA,.i x.cG,.i x.cR,.s z,.s A]:=dJ.aW (m:=g) (o:=0) (r:=[.i x.op,.i x.bA,.i x.cG,.i x.cR,.s z,.s A]) Q
  have R:eu (λ_=>False) W j W X:=eu.fZ Z T.bI
  have Y:=V1.gX R (λ_=>False.elim)
  exact⟨W,b1,ac,ab,O,(T.N R).aP λ_=>False.elim,Y,⟨Y.de,K1.gX R id,az⟩,O,k3,T.bI _ bY⟩
 .intro j
  obtain⟨E,z1⟩:=pu j
  have P:dJ j g.size ee [.i 0,.i 0,.i 0,.i 0,.s .nil,.s .nil]:=dJ.push g _ _
  have cc:eu (λ_=>False) t g t j:=eu.fZ E U.de.bI
  refine⟨E.cK (G g0),E.cK (G g1),E.cK (G g2),E.cK (G g3),E.cK (G g4),E.cK (G g5),E.cK b6,E.cK gQ,E.cK b7,(rL cc.bI (K0.gX cc id) 5).aP ?_⟩
  rintro _ m2 ⟨W,b1,ac,ab,rfl,K1,T⟩
  have I:=T.YH
  have ak:=E.N I
  refine⟨I.fg cC,some (b1,0),O,I.cK (E.aS (G g0)),I.cK (E.aS (G g1)),I.cK (E.aS (G g2)),I.cK (E.aS (G g3)),I.cK (E.aS (G g4)),I.cK (E.aS (G g5)),I.cK (E.aS b6),?_⟩
  intro X
  have k3:dJ X g.size ee [.i x.op,.i x.bA,.i x.cG,.i x.cR,.s z,.s A]:=dJ.aW (m:=g) (o:=0) (r:=[.i x.op,.i x.bA,.i x.cG,.i x.cR,.s z,.s A]) (P.ext I)
  have Z:J g X:=by grind [J.aW]
  have r0:W g.size=0:=(T.jZ _ V).trans (U.de.bI _ bY)
  have R:eu (·=0) W m2 W X:=eu.aW T.bI r0 _ _
  have ad:eu (λ_=>False) t g W X:=⟨Z.aQ,λb hb=>(T.jZ b V),R.bI,λb hb _=>Z.bB b hb⟩
  have Y:=U.gX ad (λ_=>False.elim)
  exact⟨W,b1,ac,ab,O,ad.aP λ_=>False.elim,Y,⟨Y.de,K1.gX R cH,az⟩,O,k3,r0⟩
 rintro ax ⟨xb,xo⟩ M ⟨y,b,K,ks,rfl,cM,VM,WM,aw,kx,rx⟩
 simp only at aw kx rx
 subst aw
 have no:∀{M:D}{y:ag},CV t g y M->wy h p e x kn L=none->∃S H,vb false=vb S/\CV t g H M/\(S=true->∃k,rj w H M v d f a C c s p k (B+3)/\Pr (e+1) L k/\Il h p k e x kn/\wy h p e x kn L=some k)/\(S=false->wy h p e x kn L=none):=cC
 refine⟨_,kx.dg 0,λT=>⟨_,kx.dg 0,_,kx.dg 1,_,kx.dg 2,_,kx.dg 3,_,kx.dg 4,_,kx.dg 5,?_⟩,λT=>⟨_,kx.dg 0,_,kx.dg 1,_,kx.dg 2,_,kx.dg 3,_,kx.dg 4,_,kx.dg 5,?_⟩⟩
 .refine(xT aa VM WM hL hx cC ia ij).aP ?_
  rintro _ M2 ⟨S,I,rfl,R,hr,al⟩
  have hF:wy h p e x kn L=uy h x kn L:=by grind [wy]
  rw[hF]
  refine⟨S,O,S,I,O,cM.N R,λe2=>?_,al⟩
  grind [rj.aP]
 .have ad:x.op≠21:=cC
  refine(BO aa VM.bU VM.jZ WM hB hx ia).aP ?_
  rintro _ M2 ⟨S,I,rfl,R,hr,al⟩
  have an:CV y M I M2:=by grind [eu.aP]
  have ac:dJ M2 xb ee [.i x.op,.i x.bA,.i x.cG,.i x.cR,.s z,.s A]:=kx.congr (R.fH xb kx.lt cC)
  refine⟨S,O,λe2=>no (cM.N an) (by unfold wy;rw[aV ad,al cC];rfl),λe2=>⟨_,ac.dg 0,_,ac.dg 1,_,ac.dg 2,_,ac.dg 3,_,ac.dg 4,_,ac.dg 5,(Ze ad cC).aP ?_⟩⟩
  let⟨k',W2,aC,aJ⟩:=hr cC
  have hF:wy h p e x kn L=Xe (λE L=>xF L k' (br (tI x e) E).toNat) L (tI x e).length:=by grind [wy]
  have V2:=(VM.gX R (λ_ T=>T)).aP (show B<=B+3 by omega)
  rintro _ M3 ⟨aB,rfl,hs,Z⟩
  have av:=iV.acq hs R.bI
  have aE:=av.aT
  simp at aE
  have aL:=abA (e:=e) ad
  have cx:eu (λ_=>False) I M2 I M3:=eu.fZ Z R.bI
  have Y:=V2.gX cx (λ_=>False.elim)
  have W3:=W2.ext Z
  have cA:CV t g I M3:=(cM.N an).N (cx.aP λ_=>False.elim)
  refine⟨aB,O,iC (n:=(tI x e).length) V (λE ab=>∃W u,CV I M3 W ab/\rj w W ab v d f a C c s p u (B+3)/\Wk w W ab b K ks k' p.aU.toNat (B+3)/\Pr (e+1) L u/\iV W ab bG 1 0 aB ((tI x e).map Ce.i)/\Xe (λE L=>xF L k' (br (tI x e) E).toNat) L E=some u/\∀X∈(tI x e).take E,XQ u X k')
   ⟨I,L,eu.cX _ cA.bI,Y,W3,Pr.cX,av,O,bO⟩ ?_⟩
  rintro E ab aH μ hj ⟨W,u,cN,VN,WN,lw,au,ak,hh⟩ aG
  refine dit (λT=>?_) λT=>?_
  .let⟨X,hy⟩:=dY (tI x e) E
   have aN:=Zg hx aj ar ad X (ba hy)
   refine⟨V,V,X,(au.nZ V).br hy,(ue VN WN.qu WN.ok (g:=X) cC).aP ?_⟩
   rintro _ N2 ⟨q,aA,rfl,c5,hq,aD⟩
   have ey:br (tI x e) E=X:=by
    have:=jJ (l:=tI x e) (i:=(E:Int)) V V;grind [Int.toNat_natCast]
   have ao:CV W ab aA N2:=by grind [eu.aP]
   refine⟨q,O,λeq=>no (cA.N (cN.N ao)) (by rw[hF];exact P7 (s:=E+1) (by rw[vH ak,ey];exact aD cC) V),λeq=>?_⟩
   let⟨N,V5,w1,w2,w3⟩:=hq cC
   have aF:Pr (e+1) u (u.set X.toNat (some N)):=Pr.eE cC V w2
   refine aG V _ ⟨aA,_,cN.N ao,V5,WN.cv V5.de c5 cH,lw.N aF,au.gX c5 cH,by rw[vH ak,ey,w3],λaO hz=>?_⟩
   rw[bW hy]at hz
   rcases bT.1 hz with hz|hz
   .grind [XQ.aP]
   .simp at hz;subst hz
    exact⟨V,N,fy cC,w1⟩
  .have:E=(tI x e).length:=V
   subst this
   rw[fB]at hh
   exact⟨true,W,O,cA.N cN,λ_=>⟨u,VN,lw,⟨λ_=>⟨k',aC,hh⟩,λai=>absurd ai ad⟩,by rw[hF];exact ak⟩,λT=>by cases T⟩
end
section
variable{g:Kn}
def ND(L:aq)(e:Nat):Option Kn:=(L[e]?).join
def QE(p:dS)(e:Nat):tE:=⟨br p.aY e,if br p.aY e≠0/\(e:Int)∉p.cW then 1 else 0,decide ((e:Int)∈p.cW),-1,-1,-1⟩
@[grind cases] structure NC (p:dS) (n j q:Nat) (kn:Kn):Prop where
 aT:kn.aU.length=n
 ZD:∀i:Nat,i<j->i<n->kn.r i=QE p i
 unk:∀i:Nat,j<=i->i<q->i<n->kn.r i=yM
 eM:∀i:Nat,i<q->i<n->br kn.eM i= -1
variable{s m I H M A:D}{t J K:ag}{v b n C q j:Nat}{d f a l c r u ks P Q:E}{o:cO}{p:dS}{L y z:aq}{B w N:Int}{kn G h F:Kn}{x:Instr}{e:Int}
theorem Kr{e:Nat}:ND L e=some g<->L[e]? =some (some g):=by
 grind [ND]
theorem XQ.rZ(a:XQ L e g):∃h,ND L e.toNat=some h/\vZ g h:=by
 obtain⟨_,h,b,w⟩:=a;grind [Kr]
def NC.cB(h:NC p n p.aY.length n kn)(d:p.aU.toNat=n)(g:kn.eM.length=n)(i:p.aY.length<=n):vZ (Pc p) kn:=by
 have c:(Pc p).aU.length=n:=by grind [Pc]
 have R:∀{e:Int},0<=e->kn.r e=(Pc p).r e:=λ{e} a=>by
  by_cases f:e<n
  .have b:(Pc p).r e=if e.toNat<p.aY.length then QE p e.toNat else yM:=by
    unfold Kn.r Pc;simp only[eB];rw[afu V];rfl
   grind [NC.ZD,NC.unk]
  .grind [Qy,NC.aT]
 refine⟨by rw[h.aT,c],λe a=>by rw[R a],λe a=>bz (by rw[R a]),λe a=>bz (by rw[R a]),λe a=>bz ⟨by rw[R a],by rw[R a]⟩,λe a b=>by rw[<-R a];exact b,?_⟩;unfold Pc;simp only[d];apply eA;grind [jJ,Int.toNat_natCast,NC.eM,List.getElem?_eq_none]
def NC.eq(h:NC p n p.aY.length n kn)(d:p.aU.toNat=n)(c:kn.eM.length=n)(f:p.aY.length<=n):kn=Pc p:=by
 have w:=h.cB d c f;have a:kn.aU=(Pc p).aU:=by
  apply eA;intro e;by_cases j:e<n
  .have b:=Jj (k:=kn) (i:=(e:Int)) V cC;have g:(Pc p).aU[e]? =some (if e<p.aY.length then QE p e else yM):=by
    unfold Pc;simp only[eB];rw[afu V];rfl
   grind [Int.toNat_natCast,NC.ZD,NC.unk]
  .grind [Pc,List.length,List.getElem?_eq_none,NC.aT]
 have b:=w.eM;cases kn;simp only at a b;rw[a,b]
def NC.ok(h:NC p n p.aY.length n kn):nY kn n 1:=by
 have R:∀{e:Int},0<=e->((kn.r e).bF=0\/(kn.r e).bF=1)/\(kn.r e).fr= -1/\(kn.r e).lF= -1:=λ{e} a=>by
  by_cases c:e<n
  .have b:((e.toNat:Nat):Int)=e:=V;by_cases d:e.toNat<p.aY.length
   .grind [NC.ZD,QE]
   .have:=h.unk e.toNat V V V;rw[b]at this;rw[this];exact⟨bz O,O,O⟩
  .rw[Qy cC];exact⟨bz O,O,O⟩
 refine⟨h.aT,λe a=>oh ((R a).1),λe a=>oh ((R a).2.1),λe a=>oh ((R a).2.2),λ_=>0,λe a b=>oh ((R a).2.1)⟩
def abq(V:rj s t m v d f a l c r p L B)(n:XQ L 0 (Pc p))(D:1<=p.aU)(k:∀(e:Nat) kn x,L[e]? =some (some kn)->p.cD[e]? =some x->Il o p L e x kn):sK o p (ND L):=by
 let⟨Q,A,z,w⟩:=V.kL;refine⟨λe g b=>?_,n.rZ,λe x g i b h=>?_,λe x g i b h=>?_⟩
 .have b:=Kr.1 b;have C:=bC b;let⟨j,q⟩:=dY Q e;have:=w e j _ q b;cases j with
  |none=>exact this.elim
  |some j=>
   obtain⟨_,u,ks,_,y⟩:=this;have:=y.aT;omega
 .let⟨y,j,q⟩:=(k e g x (Kr.1 b) i).1 h;grind [XQ.rZ]
 .let⟨j,q,y⟩:=(k e g x (Kr.1 b) i).2 h;grind [XQ.rZ]
end
section
@[grind cases] structure Mb (m0:D) (ro:ag) (m:D) (v:Nat) (d f a l c bs:E) (p:dS) (N:Nat):Prop where
 de:Bs m0 ro m
 bU:dJ m v jd [.s d,.s f,.s a,.s l,.i p.bP,.i p.aU,.s c,.s bs]
 jZ:ro v=4
 rm:iV ro m nM 1 3 bs ((List.replicate N none).map Ce.pp)
variable{h m I r M z:D}{g s K:ag}{v b n A q j N k:Nat}{d f a l c e t ks R S J:E}{C:cO}{p:dS}{L w y:aq}{B u Q:Int}{kn H F G:Kn}{x:Instr}{i:Int}
def Mb.gX{P:Nat->Prop}(b:Mb h g m v d f a l c e p N)(i:eu P g m s r)(j:¬P 0/\¬P 3/\¬P 4):Mb h s r v d f a l c e p N:=
 by constructor<;>grind [Mb.de,Bs.Tl,Mb.bU,dJ.congr,eu.fH,dJ.lt,Mb.jZ,eu.jZ,Mb.rm,iV.gX]
def NC.s1(h:NC p n 0 j kn)(e:j<n)(f:kn.eM.length=n):NC p n 0 (j+1) {(kn.tG j λ_=>yM)with eM:=iv kn.eM j (-1)}:=by
 have b:=h.aT;have R:∀i:Nat,i<n->(Kn.mk (kn.tG j λ_=>yM).aU (iv kn.eM j (-1))).r i=if(i:Int)=j then yM else kn.r i:=λi a=>by
  show(kn.tG j λ_=>yM).r i=_;grind [IA]
 refine⟨by show(kn.tG j λ_=>yM).aU.length=n;rw[lR,b],λi d _=>V,λi _ a c=>?_,λi a c=>?_⟩
 .grind [NC.unk]
 .show br (iv kn.eM j (-1)) i= -1;grind [ng,NC.eM]
def NC.s2(h:NC p n j n kn):NC p n (j+1) n (kn.tG j λ_=>QE p j):=by
 have b:=h.aT;have R:∀i:Nat,i<n->(kn.tG j λ_=>QE p j).r i=if(i:Int)=j then QE p j else kn.r i:=λi a=>by
  grind [IA]
 refine⟨by rw[lR,b],λi a c=>?_,λi a _ c=>?_,h.eM⟩
 .grind [NC.ZD]
 .grind [NC.unk]
theorem YO(n:Nat):nv [.pp none] n=(List.replicate n none).map Ce.pp:=by
 induction n with
 |zero=>rfl
 |succ n a=>
  have e:nv [.pp none] (n+1)=[.pp none]++nv [.pp none] n:=by simp[nv,mF]
  rw[e,a];rfl
theorem Wf(n:Nat):nv [.i 0,.i 0,.t false,.i 0,.i 0,.i 0] n=Ob (List.replicate n ⟨0,0,false,0,0,0⟩):=by
 induction n with
 |zero=>rfl
 |succ n a=>
  have e:nv [.i 0,.i 0,.t false,.i 0,.i 0,.i 0] (n+1)=[.i 0,.i 0,.t false,.i 0,.i 0,.i 0]++nv [.i 0,.i 0,.t false,.i 0,.i 0,.i 0] n:=by simp[nv,mF]
  rw[e,a];rfl
theorem Mb.dX(j:Mb h g m v d f a l c e p N)(z:1<=N/\N<=1000000)(w:mo g m 10 b t ks kn)(x:nY kn p.aU.toNat B)(C:e.len=N):
 rj h g (aW m e.bt (e.off+0*1) [.pp (some (b,0))]) v d f a l c e p ((some kn)::List.replicate (N -1) none) B:=by
 have A:=j.rm.aT
 have s:e.cap≠0:=by have:=j.rm.le;omega
 have r:eu (·=3) g m g (aW m e.bt (e.off+0*1) [.pp (some (b,0))]):=eu.aW j.de.bI (j.rm.bt s).2 _ _
 have D:List.replicate N (none:Option (Nat×Nat))=none::List.replicate (N -1) none:=by
  rw[<-mF];congr 1;omega
 have y:=j.rm.eE (o:=0) (new:=[.pp (some (b,0))]) cC
 refine⟨j.de.Tl r cH,j.bU.congr (r.fH v j.bU.lt cC),j.jZ,⟨some (b,0)::List.replicate (N -1) none,bO,?_,?_⟩,fu⟩
 .grind [jm]
 .intro i q E k n
  cases i with
  |zero=>
   simp at k n
   subst k;subst n
   exact⟨O,t,ks,w.gX r cH,x⟩
  |succ i=>
   simp only[kd,List.getElem?_replicate]at k n
   split at k
   .rename_i u
    rw[a8 u]at n
    simp at k n;subst k;subst n;trivial
   .cases k
end
section
noncomputable def VK (u:cO) (e:dS) (y:Nat) (L:aq):Option aq:=
 match e.cD[y]?,L[y]? with
 |some x,some (some kn)=>wy u e y x kn L
 |_,_=>some L
noncomputable def Zx (u:cO) (e:dS):Option aq:=Xe (VK u e) (some (Pc e)::List.replicate (e.cD.length -1) none) e.cD.length
def adz(u:cO)(e:dS)(C:D)(s:E)(L:aq):Prop:=
 ∃H t v d f a l c B,rj H t C v d f a l c s e L B/\L.length=e.cD.length/\sK u e (ND L)/\Zx u e=some L
variable{H A I C M R:D}{t W h:ag}{v b s S q j N k:Nat}{d f a l c w z ks Y Z K:E}{u:cO}{e:dS}{L Q G:aq}{B P X:Int}{kn U T F:Kn}{x:Instr}{y:Int}
def P4(ad:iW A d K u)(ok:gL u)(hp:u.cU[k]? =some e):
 bJ dP 33 [.agg #[d.v,K.v],vi k] A λaD C=>∃aq R,aD=.tuple #[aq.v,vb R]/\J A C/\(R=true->∃L,adz u e C aq L)/\(R=false->Zx u e=none):=by
 have ao:=ok.eR e (ba hp)
 have aA:=ao.aU
 have aK:=ao.aT
 have aI:=bC hp
 have aL:=ad.cU.aT
 apply KR
 simp -zeta only[dT,iO]
 intro I
 obtain⟨x1,z1⟩:=pu I
 refine(zg (ad.ext x1)).aP ?_
 rintro _ m2 ⟨W,f,sb,rfl,aj,aB,x2⟩
 have aj:=aj.2 ⟨ok.kX,λq hq=>(ok.eR q hq).cW⟩
 obtain⟨rfl,hf⟩:=aB aj
 have z2:=x2.aQ
 refine⟨x2.fg cC,W,f,sb,O,?_⟩
 intro m3 H
 have x4:J m2 H:=by grind [J.cX,J.cz,J.aW]
 have z4:H.size=m2.size+1:=by grind [bE]
 have ak:=(x1.N x2).N x4
 have h4:=ad.ext ak
 let⟨a,l,c,ia,il,ic,g0,g1,g2,g3,g4⟩:=h4.cU.br hp
 have ar:Vx H W f a l c u e:=⟨ok,ba hp,h4.bR,oZ.ext x4 hf,ia,il,ic⟩
 have aF:=ia.aT
 have ac:=ic.aT
 have aG:Bs H (λ_=>0) H:=⟨dt,λ_ _=>O,λ_ _=>O⟩
 refine⟨λxp M=>xp.2=0/\∃t w,Mb H t M xp.1 W f a l c w e e.cD.length/\w.len=e.cD.length,⟨V,V,a,g0,l,g1,_,g2,_,g3,c,g4,V,V,c,g4,⟨V,V,V,V,?_⟩,?_⟩,?_⟩
 .intro B
  obtain⟨E,z5⟩:=pu B
  have Y:dJ B H.size nM (nv [.pp none] c.len):=dJ.push H _ _
  refine⟨E.cK g0,E.cK g1,E.cK g2,E.cK g3,E.cK g4,bD (E.bB _ V) _,bD (E.bB _ V) _,bD (E.bB _ V) _,?_⟩
  intro Q
  obtain⟨P,z6⟩:=pu Q
  have Z:dJ Q B.size jd [.s .nil,.s .nil,.s .nil,.s .nil,.i 0,.i 0,.s .nil,.s .nil]:=dJ.push B _ _
  refine⟨P.cK (E.aS g4),bD (P.bB _ V) _,P.cK (E.aS g0),P.cK (E.aS g1),P.cK (E.aS g2),P.cK (E.aS g3),P.cK (E.aS g4),bD (P.bB _ V) _,bD (P.bB _ V) _,bD (P.bB _ V) _,?_⟩
  intro S
  have X:J B S:=by grind [J.aW]
  have z7:S.size=Q.size:=bE _ _ _ _
  have U:dJ S B.size jd [.s W,.s f,.s a,.s l,.i e.bP,.i e.aU,.s c,.s (.mk H.size 0 c.len c.len)]:=dJ.aW (m:=A) (o:=0) (r:=[.s W,.s f,.s a,.s l,.i e.bP,.i e.aU,.s c,.s (.mk H.size 0 c.len c.len)]) Z
  refine⟨O,pE (pE (λ_=>0) H.size 3) B.size 4,.mk H.size 0 c.len c.len,⟨⟨E.N X,λb T=>by rw[fO V,fO V],λb T=>by rw[fO V,fO V]⟩,U,iE,⟨by simp[ac],bY,bH ⟨H.size,c.len,[],O,by rw[fO V,iE],?_,by simp[ac]⟩⟩⟩,by simp[ac]⟩
  grind [YO,dJ.ext]
 .intro B
  obtain⟨E,z5⟩:=pu B
  have Y:dJ B H.size jd [.s .nil,.s .nil,.s .nil,.s .nil,.i 0,.i 0,.s .nil,.s .nil]:=dJ.push H _ _
  refine⟨E.cK g4,bD (E.bB _ V) _,E.cK g0,E.cK g1,E.cK g2,E.cK g3,E.cK g4,bD (E.bB _ V) _,bD (E.bB _ V) _,bD (E.bB _ V) _,V,V,V,V,?_⟩
  intro Q
  obtain⟨P,z6⟩:=pu Q
  have Z:dJ Q B.size nM (nv [.pp none] c.len):=dJ.push B _ _
  refine⟨P.cK (E.aS g0),P.cK (E.aS g1),P.cK (E.aS g2),P.cK (E.aS g3),P.cK (E.aS g4),bD (P.bB _ V) _,bD (P.bB _ V) _,bD (P.bB _ V) _,?_⟩
  intro S
  have X:J H S:=by grind [J.N,J.aW]
  have z7:S.size=Q.size:=bE _ _ _ _
  have U:dJ S H.size jd [.s W,.s f,.s a,.s l,.i e.bP,.i e.aU,.s c,.s (.mk B.size 0 c.len c.len)]:=dJ.aW (m:=A) (o:=0) (r:=[.s W,.s f,.s a,.s l,.i e.bP,.i e.aU,.s c,.s (.mk B.size 0 c.len c.len)]) (Y.ext P)
  have aa:dJ S B.size nM (nv [.pp none] c.len):=by grind [dJ.congr,cw]
  refine⟨O,pE (pE (λ_=>0) H.size 4) B.size 3,.mk B.size 0 c.len c.len,⟨⟨X,λb T=>by rw[fO V,fO V],λb T=>by rw[fO V,fO V]⟩,U,by rw[fO V,iE],⟨by simp[ac],bY,bH ⟨B.size,c.len,[],O,iE,?_,by simp[ac]⟩⟩⟩,by simp[ac]⟩
  grind [YO]
 rintro⟨v,vo⟩ M ⟨ap,t,w,T,av⟩
 simp only at ap T
 subst ap
 have SM:∀{N N':D}{r1 r2:ag},Bs H r1 N->Bs H r2 N'->gT [m2.size,A.size] N N':=λb1 b2=>J.xh b1.de b2.de cC
 obtain⟨s,hn⟩:∃s,s=e.aU.toNat:=⟨_,O⟩
 refine⟨λfirst N=>∃t fb z ks kn,first=(fb,0)/\Mb H t N v W f a l c w e e.cD.length/\mo t N 10 fb z ks kn/\kn.aU.length=s,⟨_,T.bU.dg 5,_,T.bU.dg 5,⟨V,V,V,V,?_⟩,⟨V,V,V,V,?_⟩⟩,?_⟩
 .rw[<-hn]
  intro B
  obtain⟨E,z5⟩:=pu B
  have Y:dJ B M.size rC (nv [.i 0,.i 0,.t false,.i 0,.i 0,.i 0] s):=dJ.push M _ _
  refine⟨E.cK (T.bU.dg 5),V,V,V,V,?_⟩
  intro Q
  obtain⟨P,z6⟩:=pu Q
  have Z:dJ Q B.size bG (nv [.i 0] s):=dJ.push B _ _
  refine⟨P.cK (E.aS (T.bU.dg 5)),?_⟩
  intro S
  obtain⟨X,z7⟩:=pu S
  have U:dJ S Q.size Ak [.s (.mk M.size 0 s s),.s (.mk B.size 0 s s)]:=dJ.push Q _ _
  have c5:eu (λ_=>False) t M (pE t M.size 10) B:=eu.pE E T.de.bI bY V 10
  have c6:eu (λ_=>False) (pE t M.size 10) B (pE (pE t M.size 10) B.size 10) Q:=eu.pE P c5.bI bY V 10
  have c7:=eu.pE (p:=λ_=>False) X c6.bI (Br Q.size) V 10
  refine⟨pE (pE (pE t M.size 10) B.size 10) Q.size 10,Q.size,.mk M.size 0 s s,.mk B.size 0 s s,⟨List.replicate s ⟨0,0,false,0,0,0⟩,List.replicate s 0⟩,O,T.gX ((c5.N c6).N c7) ⟨id,id,id⟩,⟨U,iE,⟨by simp[vd],bY,bH ⟨M.size,s,[],O,by rw[fO V,fO V,iE],?_,by simp[vd]⟩⟩,⟨bO,bY,bH ⟨B.size,s,[],O,by rw[fO V,iE],?_,bO⟩⟩,fu,bO⟩,bO⟩
  .grind [Wf,dJ.ext,J.N]
  grind [tf,eU,dJ.ext]
 .rw[<-hn]
  intro B
  obtain⟨E,z5⟩:=pu B
  have Y:dJ B M.size bG (nv [.i 0] s):=dJ.push M _ _
  refine⟨E.cK (T.bU.dg 5),V,V,V,V,?_⟩
  intro Q
  obtain⟨P,z6⟩:=pu Q
  have Z:dJ Q B.size rC (nv [.i 0,.i 0,.t false,.i 0,.i 0,.i 0] s):=dJ.push B _ _
  refine⟨P.cK (E.aS (T.bU.dg 5)),?_⟩
  intro S
  obtain⟨X,z7⟩:=pu S
  have U:dJ S Q.size Ak [.s (.mk B.size 0 s s),.s (.mk M.size 0 s s)]:=dJ.push Q _ _
  have c5:eu (λ_=>False) t M (pE t M.size 10) B:=eu.pE E T.de.bI bY V 10
  have c6:eu (λ_=>False) (pE t M.size 10) B (pE (pE t M.size 10) B.size 10) Q:=eu.pE P c5.bI bY V 10
  have c7:=eu.pE (p:=λ_=>False) X c6.bI (Br Q.size) V 10
  refine⟨pE (pE (pE t M.size 10) B.size 10) Q.size 10,Q.size,.mk B.size 0 s s,.mk M.size 0 s s,⟨List.replicate s ⟨0,0,false,0,0,0⟩,List.replicate s 0⟩,O,T.gX ((c5.N c6).N c7) ⟨id,id,id⟩,⟨U,iE,⟨by simp[vd],bY,bH ⟨B.size,s,[],O,by rw[fO V,iE],?_,by simp[vd]⟩⟩,⟨bO,bY,bH ⟨M.size,s,[],O,by rw[fO V,fO V,iE],?_,bO⟩⟩,fu,bO⟩,bO⟩
  .grind [Wf,dJ.ext]
  grind [tf,eU,dJ.ext,J.N]
 clear T t M
 rintro _ M ⟨t,fb,z,ks,kn,rfl,T,af,ax⟩
 have aM:=af.Jp
 have aJ:=af.Yo
 refine⟨z,af.jB.1,iC (n:=s) V (λj N=>∃h E,Mb H h N v W f a l c w e e.cD.length/\mo h N 10 fb z ks E/\NC e s 0 j E) ⟨t,kn,T,af,⟨ax,V,V,V⟩⟩ ?_⟩
 rintro j N al μ hj ⟨h,E,P,S,X⟩ aa
 have an:=X.aT
 have aw:=S.yK
 refine⟨λB=>?_,λB=>?_⟩
 .have B:j<s:=cC
  refine⟨z,S.jB.1,ks,S.jB.2,(xQ (e:=N)).aP ?_⟩
  rintro _ N2 ⟨rfl,x3⟩
  have c3:eu (λ_=>False) h N h N2:=eu.fZ x3 P.de.bI
  have Y:=P.gX c3 ⟨id,id,id⟩
  have K3:=S.ext x3
  refine⟨SM P.de Y.de,-1,0,false,-1,-1,-1,O,by first|exact x3.cK S.jB.1|exact x3.cK S.jB.2,by first|exact x3.cK S.jB.2|exact x3.cK S.jB.1,V,V,by have:=K3.wr (i:=j) (o:=0) (n:=6) V V V;simpa using this,?_⟩
  intro N3
  have K4:mo h N3 10 fb z ks (E.tG j λ_=>yM):=by
   have:=K3.cE (i:=(j:Int)) (o:=0) (new:=[.i (-1),.i 0,.t false,.i (-1),.i (-1),.i (-1)]) (g:=λ_=>yM) V V bO O;grind
  have c4:eu (·=10) h N2 h N3:=K3.qG c3.bI _
  have Q:=Y.gX c4 cH
  refine⟨SM Y.de Q.de,V,V,by have:=K4.wrK (i:=j) V cC;rwa[iO]at this,?_⟩
  intro N4
  have K5:mo h N4 10 fb z ks {(E.tG j λ_=>yM)with eM:=iv (E.tG j λ_=>yM).eM j (-1)}:=by
   grind [mo.adN]
  have c5:eu (·=10) h N3 h N4:=K4.Tm c4.bI _ _
  have Z:=Q.gX c5 cH
  exact⟨SM Q.de Z.de,aa B _ ⟨h,_,Z,K5,X.s1 B V⟩⟩
 have ej:j=s:=cC
 subst ej
 clear aa B
 refine⟨a,P.bU.dg 2,iC (n:=e.aY.length) V (λq N=>∃h E,Mb H h N v W f a l c w e e.cD.length/\mo h N 10 fb z ks E/\NC e j q j E) ⟨h,E,P,S,X⟩ ?_⟩
 clear P S X an aw h E N
 rintro q N al μ hq ⟨h,E,P,S,X⟩ aa
 have an:=X.aT
 refine⟨λB=>?_,λB=>?_⟩
 .have B:q<e.aY.length:=cC
  let⟨ab,ht⟩:=dY e.aY q
  have ae:br e.aY q=ab:=by
   grind [jJ,Int.toNat_natCast,Option.some.inj]
  have e0:E.r q=yM:=cC
  refine⟨V,V,ab,P.de.de.aS (ia.br ht),z,S.jB.1,V,V,l,P.bU.dg 3,(lD (il.ext P.de.de) q).aP ?_⟩
  rintro _ N2 ⟨R,rfl,hr,x3⟩
  have c3:eu (λ_=>False) h N h N2:=eu.fZ x3 P.de.bI
  have Y:=P.gX c3 ⟨id,id,id⟩
  have K3:=S.ext x3
  have ai:R=decide ((q:Int)∈e.cW):=by cases R<;>simp_all
  refine⟨SM P.de Y.de,R,O,by have:=K3.wr (i:=q) (o:=0) (n:=1) V V V;simpa using this,?_⟩
  intro N3
  have K4:mo h N3 10 fb z ks (E.tG q λR=>{R with lP:=ab}):=by
   have:=K3.cE (i:=(q:Int)) (o:=0) (new:=[.i ab]) (g:=λR=>{R with lP:=ab}) V V bO O;grind
  have c4:eu (·=10) h N2 h N3:=K3.qG c3.bI _
  have Q:=Y.gX c4 cH
  refine⟨SM Y.de Q.de,by have:=K4.wr (i:=q) (o:=2) (n:=1) V cC V;rwa[iO]at this,?_⟩
  intro N4
  have K5:mo h N4 10 fb z ks (E.tG q λU=>{U with lP:=ab,cW:=R}):=by
   have:=K4.cE (i:=(q:Int)) (o:=2) (new:=[.t R]) (g:=λU=>{U with cW:=R}) V cC bO O;grind [BT]
  have c5:eu (·=10) h N3 h N4:=K4.qG c4.bI _
  have Z:=Q.gX c5 cH
  have jX:¬(ab≠0/\R=false)->mo h N4 10 fb z ks (E.tG q λ_=>QE e q):=λah=>by
   rw[Pd (l:=λU=>{U with lP:=ab,cW:=R}) V V ?_]
   .exact K5
   .rw[e0];unfold QE yM;grind
  refine⟨SM Q.de Z.de,λe1=>⟨R,?_,λe2=>?_,λe2=>aa B _ ⟨h,_,Z,jX (λhc=>by rw[hc.2]at e2;cases e2),X.s2⟩⟩,λe1=>aa B _ ⟨h,_,Z,jX (λhc=>hc.1 cC),X.s2⟩⟩
  .obtain⟨_,_,w2,_⟩:=K5.dg (i:=q) V cC
   grind [TN,Int.toNat_natCast]
  .refine⟨by have:=K5.wr (i:=q) (o:=1) (n:=1) V cC V;rwa[iO]at this,?_⟩
   intro N5
   have K6:mo h N5 10 fb z ks (E.tG q λU=>{U with lP:=ab,cW:=R,bF:=1}):=by
    have:=K5.cE (i:=(q:Int)) (o:=1) (new:=[.i 1]) (g:=λU=>{U with bF:=1}) V cC bO O;grind [BT]
   have c6:eu (·=10) h N4 h N5:=K5.qG c5.bI _
   have V6:=Z.gX c6 cH
   have K7:mo h N5 10 fb z ks (E.tG q λ_=>QE e q):=by
    rw[Pd (l:=λU=>{U with lP:=ab,cW:=R,bF:=1}) V V ?_]
    .exact K6
    .grind [QE,yM]
   exact⟨SM Z.de V6.de,aa B _ ⟨h,_,V6,K7,X.s2⟩⟩
 have eq:q=e.aY.length:=cC
 subst eq
 clear aa B
 have aH:w.cap≠0:=by have:=P.rm.le;omega
 have Y:=P.dX V S (hn▸X.ok) av
 have w0:=X.cB hn.symm cC V
 have ek:=X.eq hn.symm cC V
 refine⟨w,P.bU.dg 7,V,V,by have:=P.rm.wr (o:=0) (n:=1) cC;simpa using this,?_⟩
 intro N2
 change rj H h N2 v W f a l c w e _ 1 at Y
 refine⟨SM P.de Y.de,c,Y.bU.dg 6,iC (n:=e.cD.length) V (λq N=>∃ai L,rj H ai N v W f a l c w e L (1+3*(q:Int))/\L.length=e.cD.length/\XQ L 0 (Pc e)/\Xe (VK u e) (some (Pc e)::List.replicate (e.cD.length -1) none) q=some L/\∀(y:Nat) kn x,y<q->L[y]? =some (some kn)->e.cD[y]? =some x->Il u e L y x kn)
  ⟨h,_,Y.aP V,fu,⟨dN 0,E,O,w0⟩,by rw[ek];rfl,V⟩ ?_⟩
 rintro q N3 al μ hq ⟨ai,L,Q,hL,h0,ah,hs⟩ aa
 refine⟨λB=>?_,λB=>?_⟩
 .have B:q<e.cD.length:=cC
  let⟨au,hQ,hA,hC⟩:=Q.kL
  let⟨qc,ay⟩:=dY au q
  let⟨ae,ho⟩:=dY L q
  have am:=hC q qc ae ay ho
  have gq:aS N3 w.bt (w.off+q*1)=some (Ce.v (.pp qc)):=by
   have:=hA.kv q (.pp qc) cC;grind
  refine⟨w,Q.bU.dg 7,V,V,qc,gq,λe1=>?_,λe1=>?_⟩
  .obtain⟨ab,rfl⟩:∃ab,ae=some ab:=by
    cases qc with
    |none=>simp at e1
    |some aE=>cases ae with
     |none=>exact am.elim
     |some ab=>exact⟨ab,O⟩
   let⟨x,hx⟩:=dY e.cD q
   refine(wq ar Q V hL ho hx).aP ?_
   rintro _ N4 ⟨R,aC,rfl,c4,hr,az⟩
   have eF:VK u e q L=wy u e q x ab L:=by grind [VK]
   have b4:=Q.de.Tl c4 V
   refine⟨SM Q.de b4,R,O,λe2=>⟨_,false,O,ak.N b4.de,λad=>(by cases ad),λ_=>P7 (s:=q+1) (by rw[vH ah,eF];exact az cC) V⟩,λe2=>?_⟩
   let⟨G,Z,lw,st,w3⟩:=hr cC
   refine aa B _ ⟨aC,G,Z.aP V,lw.aT.trans hL,h0.aP lw,by rw[vH ah,eF,w3],λy F U hi h1 h2=>?_⟩
   by_cases ei:y=q
   .grind
   .rw[lw.bB y V]at h1
    exact(hs y F U V h1 h2).aP lw
  .have Z:ae=none:=by
    cases qc with
    |some aE=>simp at e1
    |none=>cases ae with
     |none=>rfl
     |some ab=>exact am.elim
   refine aa B _ ⟨ai,L,Q.aP V,hL,h0,by
    rw[vH ah];unfold VK;rw[ho,Z];cases e.cD[q]? <;>rfl,λy F U hi h1 h2=>?_⟩
   grind
 .have eq:q=e.cD.length:=cC
  exact⟨w,Q.bU.dg 7,w,true,O,ak.N Q.de.de,λ_=>⟨L,H,ai,v,W,f,a,l,c,_,Q,hL,abq Q h0 aA.2.1 λy kn x h1 h2=>hs y kn x cC h1 h2,by unfold Zx;have U:=ah;rw[eq]at U;exact U⟩,λB=>by cases B⟩
end
section
variable{m:D}{d p:E}{a:cO}
def Tf(a:cO):Prop:=∀p∈a.cU,∃L,Zx a p=some L/\sK a p (ND L)
noncomputable def aec (a:cO) (n:Nat):Nat->Option Kn:=ND ((Zx a (dE a n)).getD [])
def Tf.TA(h:Tf a)(n:Nat)(p:dS)(b:a.cU[n]? =some p):sK a p (aec a n):=by
 let⟨L,e,f⟩:=h p (ba b);have:dE a n=p:=by simp[dE,b]
 grind [aec]
def Ml(h:iW m d p a):bJ dP 11 [.agg #[d.v,p.v]] m λK C=>∃b,K=vb b/\J m C/\(b=true->gL a/\Tf a)/\(b=false->¬(gL a/\Tf a)):=by
 apply He;simp -zeta only[dT];intro D;obtain⟨x,z1⟩:=pu D;refine(sQ (h.ext x)).aP ?_;rintro _ E ⟨b,rfl,w,q⟩;have t:=x.N q;have T:=q.aQ;refine⟨q.fg fu,b,O,λe=>⟨false,O,t,λh=>(by cases h),λ_ g=>nb w e g.1⟩,λe=>?_⟩;have o:=yb w e;have R:=h.cU.aT;have P:=o.kX.aT;refine iC (n:=a.cU.length) V (λk M=>J E M/\∀i p,i<k->a.cU[i]? =some p->∃L,Zx a p=some L/\sK a p (ND L)) ⟨dt,V⟩ ?_;rintro k M N μ Q ⟨s,v⟩ F
 have X:=t.N s;refine dit (λe=>?_) λe=>?_
 .let⟨G,l⟩:=dY a.cU k;refine(P4 (h.ext X) o l).aP ?_;rintro _ S ⟨I,H,rfl,r,A,B⟩;refine⟨r.fg (by have:=s.aQ;simp;omega),I,H,O,λf=>⟨false,O,X.N r,λh=>(by cases h),λ_ g=>?_⟩,λf=>F V _ ⟨s.N r,λi p j c=>?_⟩⟩
  .obtain⟨L,u,_⟩:=g.2 G (ba l);rw[B (sp f)]at u;cases u
  .by_cases y:i=k
   .subst y;rw[l]at c;cases c;obtain⟨L,_,_,_,_,_,_,_,_,_,_,_,z,u⟩:=A (sp f);exact⟨L,u,z⟩
   .exact v i p V c
 .exact⟨true,O,X,λ_=>⟨o,λp c=>by
   let⟨i,j⟩:=db.1 c;exact v i p (oh (bC j)) j⟩,λh=>by cases h⟩
end
section
variable{k:Kn}{b j r:Int}{m:ab}{h:ah}
inductive Out(a:cO):aj->aj->Int->Int->Prop
 |nil (d:Int):Out a [] [] d d
 |fH {c n:aj} {q:bS} {e:Int} (d:Int):Out a c n q.bA e->Out a (c++[q]) (n++[{q with bA:=e}]) d d
 |drop {c n:aj} {q:bS} {d e:Int}:BB (dE a q.fN).cD q.pc.toNat d->Out a c n q.bA e->Out a (c++[q]) n d e
inductive Bt(a:cO):St->St->Prop
 |Nr {s:St} {c n:aj} {f:bS} {e:Int}:s.bo=c++[f]->Out a c n f.bA e->Bt a s {s with bo:=n++[{f with bA:=e}]}
 |done {s:St}:s.bo=[]->Bt a s s
 |ret {s:St} {c n:aj} {p g:bS} {r:Int}:s.dx=3->s.bo=c++[p]->Out a c n p.bA g.bA->BB (dE a p.fN).cD p.pc.toNat r->(bK (fR a) g).op=23->br g.aU (br (bK (fR a) g).aO 0)=br p.aU r->
  Em (bZ g.aU g.bF (cq (fR a) (bK (fR a) g)))->Em g.cL->Bt a s {s with bo:=n++[g]}
variable{a:cO}{s u:St}{rZ:Nat->Nat->Option Kn}{c n:aj}{f:bS}{p:dS}{x:Instr}{bF:ab}{e:Int}
def Out.aT{d e:Int}(h:Out a c n d e):n.length<=c.length:=by
 induction h with
 |nil=>exact bY
 |fH _ _ b=>simp;omega
 |drop _ _ b=>simp;omega
def Bt.aT(h:Bt a s u):u.bo.length<=s.bo.length:=by
 cases h with
 |Nr b o=>have:=o.aT;simp[b];omega
 |done b=>exact bY
 |ret _ b o=>have:=o.aT;simp[b];omega
def Bt.eqs(h:Bt a s u):u={s with bo:=u.bo}:=by cases h<;>rfl
open Classical in
def zD(g:s.dx=3)(b:s.bo=c++[f]):kD a s=if ms (bK a f).op/\s.dv=s.df then{s with dx:=1}else
 if iN a s f (bK a f) (bZ f.aU f.bF (cq a (bK a f)))then dI a s c f (bK a f) (bZ f.aU f.bF (cq a (bK a f)))else{s with dx:=2}:=by
 have d:s.bo.getLast?=some f:=by rw[b];simp
 have e:s.bo.dropLast=c:=by rw[b];simp
 unfold kD
 rw[aV V,d,e]
def Vt{k:Nat}(i:kQ a p k x)(h:x.op≠23):∃(r:St)(g:bS)(m:aj),dI a s c f x bF={r with bo:=c++g::m}/\g.bA=f.bA/\(m=[]\/∃b,m=[b])/\∀(G n:aj)(e:Int),dI a {s with bo:=G} n {f with bA:=e} x bF={r with bo:=n++{g with bA:=e}::m}:=by
 have j:x.op=0\/(x.op=1\/x.op=2\/x.op=3\/x.op=4)\/x.op=5\/x.op=6\/x.op=10\/x.op=14\/x.op=15\/(x.op=16\/x.op=17)\/x.op=18\/x.op=19\/x.op=20\/x.op=21\/x.op=22\/x.op=9\/x.op=24\/x.op=11:=fQ λ_=>by
  simp(disch:=omega) only[kQ,aV]at i
 refine⟨dI a s c f x bF,?_⟩;rcases fS (x.cR≠0/\br f.cL (x.cR -1)≠0)with b|b<;>rcases fS ((bu s.aR (br f.aU (br x.aO 0))).bX=1/\x.op=17)with d|d<;>rcases j with e|e|e|e|e|e|e|e|e|e|e|e|e|e|e|e<;>first
  |(exfalso;omega)
  |(simp(disch:=omega) only[dI,aV,a8];first
   |exact⟨_,[],rfl,rfl,bz rfl,λ_ _ _=>rfl⟩
   |exact⟨_,_,rfl,rfl,bH ⟨_,rfl⟩,λ_ _ _=>rfl⟩)
def Oa(h:x.op=23):dI a s c f x bF=match c.getLast? with
 |none=>{s with dx:=0,kY:=br f.aU (br x.aO 0),bo:=[]}
 |some q=>{s with bo:=c.dropLast++[q.cE f.bA (br f.aU (br x.aO 0)) (ig (br f.aU (br x.aO 0)))]}:=by
 simp(disch:=omega) only[dI,aV]
 cases c.getLast?<;>rfl
def adA{n:Int}(d:0<=j)(a:0<=b)(h:b≠j):(k.iA j n).r b=k.r b:=by unfold Kn.iA;rw[IA d a,aV λc=>h c.1]
def Gv(c:0<=j)(a:0<=b)(h:b≠j):(fP k [j]).r b=k.r b:=by
 simp only[fP];split
 .rfl
 .exact adA c a h
theorem XZ(d:Int)(r:tE):(tF d r).bF=r.bF:=by unfold tF;split<;>rfl
theorem TR(h:m.length=1):m=[br m 0]:=by
 let⟨v,a⟩:=yy.1 h;rw[a];rfl
def abe{rZ:Nat->Option Kn}(z:nH a p)(s:sK a p rZ){k:Nat}(t:BB p.cD k r):∀kn,rZ k=some kn->(∀b,0<=b->b≠r->(kn.r b).bF<=0)/\∀C∈kn.eM,C<0:=by
 induction t with
 | @yJ k r x g e t w=>
  intro kn n;let⟨A,c,v⟩:=s.kD k x kn g n V;unfold vX at c;rw[a8 e]at c;let⟨y,b1,b2⟩:=v x.cG (by unfold tI;rw[a8 e];simp);let⟨h,f⟩:=w y b1;subst c;exact⟨λb d m=>by rw[<-b2.bF b d];exact h b d m,by rw[<-b2.eM];exact f⟩
 | @move k r x g e q t w=>
  intro kn n;let⟨A,c,v⟩:=s.kD k x kn g n V;unfold vX at c;simp only[]at c;simp(disch:=omega) only[aV,a8]at c;obtain⟨-,-,hd,rfl⟩:=c;let⟨y,b1,b2⟩:=v (k+1) (by unfold tI;rw[aV V,aV V,aV V,aV V];simp);let⟨h,f⟩:=w y b1;have I:=z.eR k x g;have o:=I.op;unfold kQ at o;rw[aV V,aV V,a8 V]at o;have j:=I.aO _ (gZ (l:=x.aO) (i:=0) V V);rw[q]at hd b2 j;have D:=s.aT k kn n;have B:0<=x.bA/\x.bA<(fP kn [r]).aU.length:=by rw[xA];have:=I.bA;omega
  refine⟨λb d m=>?_,?_⟩
  .by_cases u:b=x.bA
   .rw[<-Gv (k:=kn) j.1 d m,u];exact hd
   .have:=h b d u;rw[b2.bF b d,QO B d,aV u,XZ,Gv j.1 d m]at this;exact this
  .rw[b2.eM]at f;have:(fP kn [r]).eM=kn.eM:=pC _ _;rw[<-this];exact f
 | @ret k r x g e q=>
  intro kn n;obtain⟨A,c,-⟩:=s.kD k x kn g n V;unfold vX at c;simp only[]at c;simp(disch:=omega) only[aV]at c;obtain⟨v,-,-,-,c⟩:=c;rw[a8 (bz e)]at c;obtain⟨h,f,-⟩:=c;have I:=z.eR k x g;have o:=I.op;unfold kQ at o;rw[aV V,aV V,a8 V]at o;have u:cq a x=[r]:=by rw[<-q,<-TR o.1];unfold cq;rw[a8 V]
  have j:=I.aO _ (gZ (l:=x.aO) (i:=0) V V);rw[q]at j;rw[u]at h f;exact⟨λb d m=>by rw[<-Gv (k:=kn) j.1 d m];exact h b d,by rw[pC]at f;exact f⟩
def YN(h:∀b,0<=b->br m b<=0)(d:∀o∈m,0<=o):Em m:=λo a=>by
 let⟨b,c⟩:=db.1 a;have:=h b V;rw[XV c]at this;have:=d o a;omega
def SZ(F:FW a h c f k)(g:f.cL.length=f.aU.length)(e:∀n∈k.eM,n<0):Em f.cL:=λo i=>by
 let⟨b,d⟩:=db.1 i;have j:=bC d;have:=F.kp b V (e _ (gZ V (by rw[F.yK,F.aT,<-g];omega)));rw[XV d]at this;exact this
def FW.VX(F:FW a h c f k){d:Int}(i:0<=d/\d<f.aU.length/\d<f.bF.length)(j:0<=(k.r d).lP):∀b,0<=b->(fP k [d]).r b={k.r b with bF:=br (bZ f.aU f.bF [d]) b}:=
 LQ [d] k f.bF F.bF (λr g=>by simp at g;subst g;rw[F.aT];exact i) λr g=>by
  simp at g;subst g;rcases DY 0 (k.r r).lP with e|e
  .exact bH ⟨V,F.TY r i.1 e⟩
  .exact bz ⟨V,F.qt r i.1 V⟩
def adD(Q:∀(y:Nat)(p:dS),a.cU[y]? =some p->sK a p (rZ y))(N:eJ a s)(E:VS a rZ s)(I:s.bo=c++[f])(G:BB (dE a f.fN).cD f.pc.toNat r):
 iN a s f (bK a f) (bZ f.aU f.bF (cq a (bK a f)))/\((bK a f).op=22/\cq a (bK a f)=[]/\BB (dE a f.fN).cD (bK a f).cG.toNat r\/(bK a f).op=18/\br (bK a f).aO 0=r/\BB (dE a f.fN).cD (f.pc.toNat+1) (bK a f).bA\/(bK a f).op=23/\br (bK a f).aO 0=r):=by
 have j:gB a f:=by grind [eJ.bo]
 let⟨p,K,w,X,u,t⟩:=j.AJ N.iu
 let⟨k,S,F⟩:=E.jA c f I
 have TA:=Q _ p K
 rw[w]at G⊢
 generalize bK a f=x at*
 have W:=j.lr;have U:=j.lo
 rw[w]at W U
 have D:=t.op
 unfold kQ at D
 have EQ:x.op=22/\BB p.cD x.cG.toNat r\/x.op=18/\br x.aO 0=r/\BB p.cD (f.pc.toNat+1) x.bA\/x.op=23/\br x.aO 0=r:=by
  cases G with
  |yJ d n g=>rw[u]at d;cases d;exact bz ⟨n,g⟩
  |move d n g o=>rw[u]at d;cases d;exact bH (bz ⟨n,g,o⟩)
  |ret d n g=>rw[u]at d;cases d;exact bH (bH ⟨n,g⟩)
 have M:∀{m:ab},(∀b:Nat,b<m.length->0<=br m b)->∀z∈m,0<=z:=λh z T=>by
  let⟨b,v⟩:=db.1 T;have:=h b (bC v);rw[XV v]at this;exact this
 let⟨Y,g,J⟩:=TA.kD _ x k u S V
 unfold vX at g;simp only[]at g
 rcases EQ with⟨e,b1⟩|⟨e,C,b1⟩|⟨e,C⟩
 .have q:cq a x=[]:=by unfold cq;rw[aV V,aV V,aV V]
  rw[q]
  exact⟨⟨j.NV,λh=>by unfold kT at h;omega,λh=>V,λh=>V,λh=>V,λh=>V,λh=>V,λh=>V,λh=>V,λh=>V,λh=>V,λh=>V,λh=>V⟩,bz ⟨e,O,b1⟩⟩
 .simp(disch:=omega) only[aV,a8]at g
  obtain⟨H,d,n,-⟩:=g
  rw[aV V,aV V,a8 V]at D
  have o:=t.aO _ (gZ (l:=x.aO) (i:=0) V V)
  have q:cq a x=[br x.aO 0]:=by grind [TR,cq]
  have R:=F.VX ⟨o.1,V,V⟩ H
  rw[q]
  have hd:=t.bA
  refine⟨⟨M λb v=>?_,λ_=>?_,λh=>V,λh=>V,λh=>V,λh=>V,λh=>V,λh=>V,λh=>V,λh=>V,λh=>V,λh=>V,λh=>V⟩,bH (bz ⟨e,C,b1⟩)⟩
  .by_cases A:(b:Int)=br x.aO 0
   .grind
   .have:=R b V
    rw[Gv o.1 V A]at this
    have B:(k.r b).bF=br (bZ f.aU f.bF [br x.aO 0]) b:=by rw[this]
    rw[<-B,F.bF b V];exact UQ j.NV b
  grind
 .simp(disch:=omega) only[aV]at g
  obtain⟨aa,n,d,-,g⟩:=g
  rw[a8 (bz e)]at g
  unfold uP at n
  rw[aV V,a8 e]at n
  rw[aV V,aV V,a8 V]at D
  have P:=gZ (l:=x.aO) (i:=0) V V
  have o:=t.aO _ P
  have q:cq a x=[br x.aO 0]:=by grind [TR,cq]
  have ac:(k.r (br x.aO 0)).lP=p.bP:=by
   have:=CK (k:=k) (jJ (l:=x.aO) (i:=0) V V);grind
  have r0:=(N.iu.kX.eR p (ba K)).2.2.1
  have R:=F.VX ⟨o.1,V,V⟩ V
  rw[q]at g d⊢
  have L:∀z∈bZ f.aU f.bF [br x.aO 0],0<=z:=M λb v=>by
   by_cases A:(b:Int)=br x.aO 0
   .grind [List.mem_singleton]
   .have:=R b V;rw[Gv o.1 V A]at this;have B:(k.r b).bF=br (bZ f.aU f.bF [br x.aO 0]) b:=by rw[this]
    rw[<-B,F.bF b V];exact UQ j.NV b
  have B:=j.lh
  rw[w]at B
  refine⟨⟨L,λh=>by unfold kT at h;omega,λh=>V,λh=>V,λh=>V,λ_=>⟨YN (λb H=>?_) L,SZ F V λy J=>g.2.1 y (by rw[pC];exact J)⟩,λ_=>?_,λh=>V,λh=>V,λh=>V,λh=>V,λh=>V,λh=>V⟩,bH (bH ⟨e,C⟩)⟩
  .grind
  .cases c with
   |cons Z m=>left;rw[I];simp
   |nil=>
    right
    have:=E.first f cC
    rw[w]at this
    exact F.qt _ o.1 V
def aaR(b:gB a f){e:Int}:bK (fR a) {f with bA:=e}=sB (dE a f.fN).cD f.pc.toNat (bK a f):=by
 grind [dY,dE,gB.pc,bK,G5,Ke]
def YB{G:aj}(h:x.op≠23):iN a {s with bo:=G} {f with bA:=e} x bF<->iN a s f x bF:=
 ⟨λb=>⟨b.nn,b.bA,b.nZ,b.jM,b.cW,b.mQ,λc=>absurd c h,b.apply,b.WQ,b.uV,b.AL,b.pV,b.ta⟩,
  λb=>⟨b.nn,b.bA,b.nZ,b.jM,b.cW,b.mQ,λc=>absurd c h,b.apply,b.WQ,b.uV,b.AL,b.pV,b.ta⟩⟩
theorem Rp{y:Instr}(h:y.cG=x.cG):∀(m:ab)(k:Nat),je a y k m=je a x k m
 |[],_=>O
 |r::m,k=>by
  have e:jv a y k=jv a x k:=by grind [jv]
  simp only[je,e,Rp h m]
def Qd{y:Instr}(h:y.cG=x.cG):∀(m:ab)(k:Nat),fx a y k m=fx a x k m
 |[],_=>O
 |r::m,k=>by
  have e:jv a y k=jv a x k:=by grind [jv]
  simp only[fx,e,Qd h m]
end
section
variable{l:ab}
def XT(b d:cO)(c u:St):Prop:=∀a,uN a (qA d u).op (tq d u)=uN a (qA b c).op (tq b c)
def ZQ(b:cO)(c t:St):Prop:=c.dx=3/\t.dx=3/\t.aR=c.aR/\∀a,uN a (qA b c).op (tq b c)=a
variable{b:cO}{c u:St}{rZ:Nat->Nat->Option Kn}{i g:aj}{a:bS}{p:dS}{h:Instr}{bF:ab}{d:Int}
theorem Mg(d:c.bo=i++[a]):qA b c=bK b a:=by grind [qA]
theorem Aq(d:c.bo=i++[a]):tq b c=decide ((bK b a).op=6/\(bK b a).cR≠0/\br a.cL ((bK b a).cR -1)≠0):=by grind [tq]
def KX(g:c.dx=3)(f:c.bo=i++[a])(h:(bK b a).op=22\/(bK b a).op=18\/(bK b a).op=23){t:St}(d:t.dx=3)(e:t.aR=c.aR):ZQ b c t:=by
 constructor<;>grind [Mg,Aq,uN]
def adC{i:Int}(h:br l i≠0):br l i∈l:=by
 grind [br]
theorem abT(h:Em l)(i:Int):br l i=0:=fQ λc=>c (h _ (adC c))
def abd(w:∀(n:Nat)(p:dS),b.cU[n]? =some p->sK b p (rZ n))(s:eJ b c)(t:VS b rZ c)(B:c.bo=i++[a])(Q:(bK b a).op=9)(l:BB (dE b a.fN).cD (a.pc.toNat+1) (bK b a).bA)
 (M:∀o∈bZ a.aU a.bF (cq b (bK b a)),0<=o):Em (bZ a.aU a.bF (cq b (bK b a)))/\Em a.cL:=by
 have f:gB b a:=cC
 let⟨p,o,q,y,A,g⟩:=f.AJ s.iu
 let⟨k,z,F⟩:=t.jA i a B
 have TA:=w _ p o
 rw[q]at l
 generalize bK b a=h at*
 have L:=f.lr;have K:=f.lo;have J:=f.lh
 rw[q]at L K J
 let⟨T,d,D⟩:=TA.kD _ h k A z V
 unfold vX at d;simp only[]at d
 simp(disch:=omega) only[aV]at d
 obtain⟨U,H,-,-,d⟩:=d
 have G:kT h.op:=by grind [kT]
 have C:h.cR=0:=by have:=g.cR;omega
 rw[aV V]at d
 simp only[]at d
 rw[a8 C,a8 G]at d
 obtain⟨hd,rfl⟩:=d
 let⟨I,b1,b2⟩:=D (a.pc.toNat+1) (by unfold tI;rw[aV V,aV V,aV V,aV V];simp)
 let⟨z1,N⟩:=abe y TA l I b1
 have m:∀r∈h.aO,0<=r/\r<k.aU.length/\r<a.bF.length:=λr e=>by have:=g.aO r e;rw[F.aT];omega
 have R:=LQ (aU:=a.aU) (cq b h) k a.bF F.bF (λr e=>m r (ry e)) λr e=>by
  have x:=(m r (ry e)).1;have P:=YK s.iu.kX (ba o) H _ (fA.2 ⟨r,ry e,O⟩);grind [Kn.r,FW.TY,FW.qt]
 have S:0<=h.bA/\h.bA<(fP k (cq b h)).aU.length:=by rw[xA,F.aT];have:=g.bA;omega
 refine⟨YN (λj x=>?_) M,SZ F V λn E=>N n (by rw[b2.eM];show n∈(fP k (cq b h)).eM;rw[pC];exact E)⟩
 have u:((fP k (cq b h)).r j).bF=br (bZ a.aU a.bF (cq b h)) j:=cC
 rw[<-u]
 by_cases v:j=h.bA
 .rw[v];exact hd
 .grind [QO,XZ]
def QH(g:(bK b a).op=23)(f:c.dx=3)(e:c.bo=i++[a])(d:iN b c a (bK b a) (bZ a.aU a.bF (cq b (bK b a)))):kD b c=match i.getLast? with
 |none=>{c with dx:=0,kY:=br a.aU (br (bK b a).aO 0),bo:=[]}
 |some q=>{c with bo:=i.dropLast++[q.cE a.bA (br a.aU (br (bK b a).aO 0)) (ig (br a.aU (br (bK b a).aO 0)))]}:=by
 rw[zD f e,aV (by unfold ms;omega),a8 d,Oa g]
 all_goals cases i.getLast?<;>rfl
def TZ(g:h.op=23)(z:Em bF)(f:Em a.cL)(d:1<c.bo.length\/br a.aU (br h.aO 0)<1000):iN b c a h bF:=
 ⟨λo e=>((z o e)▸dN _),λd=>by unfold kT at d;omega,λd=>V,λd=>V,λd=>V,λ_=>⟨z,f⟩,λ_=>d,λd=>V,λd=>V,λd=>V,λd=>V,λd=>V,λd=>V⟩
def aeL(e:h.op=24)(f:∀o∈bF,0<=o)(d:tP b c.aR a h)(z:Em bF/\Em a.cL):iN b c a h bF:=
 by constructor<;>grind [kT]
theorem Xo{q:bS}{d w o:Int}(h:0<=d/\d<q.aU.length):br (q.cE d w o).aU d=w:=by
 show br (iv q.aU d w) d=w;grind [ng]
def aaM(fl:∀(J:Nat)(p:dS),b.cU[J]? =some p->sK b p (rZ J))(D:eJ b c)(Y:VS b rZ c)(k:Bt b c u):
 (Bt b (kD b c) u/\ZQ b c (kD b c))\/(Bt b (kD b c) (kD (fR b) u)/\(c.dx=3->XT b (fR b) c u)):=by
 by_cases h:c.dx=3
 case neg=>
  have hu:u.dx≠3:=(k.eqs▸h)
  rw[pB h,pB hu]
  exact bH ⟨k,λk=>absurd k h⟩
 cases k with
 |done j=>exact absurd (D.cB.2 j) V
 | @Nr i g a d j o=>
  have H:gB b a:=cC
  obtain⟨p,hp,ad,hP,ab,U⟩:=H.AJ D.iu
  have t:=aaR H (e:=d)
  have z:({c with bo:=g++[{a with bA:=d}]}:St).bo=g++[{a with bA:=d}]:=rfl
  by_cases X:(bK b a).op=9/\BB (dE b a.fN).cD (a.pc.toNat+1) (bK b a).bA
  · -- a call that is made a tail call
   obtain⟨m,B⟩:=X
   unfold sB at t
   rw[a8 ⟨m,B⟩]at t
   have K:cq (fR b) (bK (fR b) {a with bA:=d})=cq b (bK b a):=by
    rw[t,Rh];unfold cq;simp only;simp(disch:=omega) only[aV,a8];grind [Rp]
   refine bH ⟨?_,λ_ w=>?_⟩
   .rw[zD h j,zD (s:={c with bo:=g++[{a with bA:=d}]}) h z,K,t]
    have F:ms (bK b a).op:=bz m
    have G:ms (24:Int):=bH (bH O)
    by_cases C:c.dv=c.df
    .rw[a8 ⟨F,C⟩]
     refine Eq.mpr (jR (Bt b _) (a8 ⟨G,C⟩)) ?_
     exact Bt.Nr j o
    rw[aV λw=>C w.2]
    refine Eq.mpr (jR (Bt b _) (aV λw=>C w.2)) ?_
    have n:=Qd (a:=b) (y:={bK b a with op:=24,bA:=0}) (x:=bK b a) O (bK b a).aO 0
    have E:tP b c.aR a {bK b a with op:=24,bA:=0}<->tP b c.aR a (bK b a):=
     ⟨λk v h=>k v (show v∈fx b {bK b a with op:=24,bA:=0} 0 (bK b a).aO by rw[n];exact h),λk v h=>k v (by
      have A:=h;rw[n]at A;exact A)⟩
    have A:iN (fR b) {c with bo:=g++[{a with bA:=d}]} {a with bA:=d} {bK b a with op:=24,bA:=0} (bZ a.aU a.bF (cq b (bK b a)))<->iN b c a (bK b a) (bZ a.aU a.bF (cq b (bK b a))):=by
     constructor
     .intro M;refine⟨M.nn,λ_=>?_,λk=>V,λk=>V,λ_=>E.1 (vA.1 (M.cW (bH O))),λk=>V,λk=>V,λk=>V,λk=>V,λk=>V,λk=>V,λk=>V,λk=>V⟩;grind [abT]
     .intro M;have I:=abd fl D Y j m B M.nn;exact aeL O M.nn (vA.2 (E.2 (M.cW (bz m)))) I
    by_cases M:iN b c a (bK b a) (bZ a.aU a.bF (cq b (bK b a)))
    .rw[a8 M]
     refine Eq.mpr (jR (Bt b _) (a8 (A.2 M))) ?_
     have P:dI b c i a (bK b a) (bZ a.aU a.bF (cq b (bK b a)))={c with dv:=c.dv+1,bo:=(i++[{a with bF:=bZ a.aU a.bF (cq b (bK b a)),pc:=a.pc+1}])++[ct b (bK b a).cG (bK b a).bA (dR a (bK b a).aO)]}:=by
      simp(disch:=omega) only[dI,aV,a8];simp
     have p2:dI (fR b) {c with bo:=g++[{a with bA:=d}]} g {a with bA:=d} {bK b a with op:=24,bA:=0} (bZ a.aU a.bF (cq b (bK b a)))={c with dv:=c.dv+1,bo:=g++[ct b (bK b a).cG d (dR a (bK b a).aO)]}:=by
      rw[LO];simp(disch:=omega) only[dI,aV];rfl
     rw[P,p2]
     have ac:=H.pc
     exact Bt.Nr (s:={c with dv:=c.dv+1,bo:=(i++[{a with bF:=bZ a.aU a.bF (cq b (bK b a)),pc:=a.pc+1}])++[ct b (bK b a).cG (bK b a).bA (dR a (bK b a).aO)]}) O (.drop (by rw[show(a.pc+1).toNat=a.pc.toNat+1 by omega];exact B) o)
    .rw[aV M]
     refine Eq.mpr (jR (Bt b _) (aV λw=>M (A.1 w))) ?_
     exact Bt.Nr j o
   .rw[Mg j,Mg z,Aq j,Aq z,t,m];simp[uN]
  unfold sB at t
  rw[aV X]at t
  have K:cq (fR b) (bK (fR b) {a with bA:=d})=cq b (bK b a):=by rw[t,Rh]
  have Q:XT b (fR b) c {c with bo:=g++[{a with bA:=d}]}:=λw=>by rw[Mg j,Mg z,Aq j,Aq z,t]
  by_cases n:(bK b a).op=23
  .have A:(1<c.bo.length\/br a.aU (br (bK b a).aO 0)<1000->1<(g++[{a with bA:=d}]).length\/br a.aU (br (bK b a).aO 0)<1000)->iN b c a (bK b a) (bZ a.aU a.bF (cq b (bK b a)))->
    iN (fR b) {c with bo:=g++[{a with bA:=d}]} {a with bA:=d} (bK b a) (bZ a.aU a.bF (cq b (bK b a))):=λL M=>TZ n (M.mQ (bH n)).1 (M.mQ (bH n)).2 (L (M.qv n))
   have ae:(1<(g++[{a with bA:=d}]).length\/br a.aU (br (bK b a).aO 0)<1000->1<c.bo.length\/br a.aU (br (bK b a).aO 0)<1000)->iN (fR b) {c with bo:=g++[{a with bA:=d}]} {a with bA:=d} (bK b a) (bZ a.aU a.bF (cq b (bK b a)))->
    iN b c a (bK b a) (bZ a.aU a.bF (cq b (bK b a))):=λL M=>TZ n (M.mQ (bH n)).1 (M.mQ (bH n)).2 (L (M.qv n))
   have nc:¬(ms (bK b a).op/\c.dv=c.df):=by grind [ms]
   have aa:¬iN b c a (bK b a) (bZ a.aU a.bF (cq b (bK b a)))->¬iN (fR b) {c with bo:=g++[{a with bA:=d}]} {a with bA:=d} (bK b a) (bZ a.aU a.bF (cq b (bK b a)))->Bt b (kD b c) (kD (fR b) {c with bo:=g++[{a with bA:=d}]}):=λZ n2=>by
    rw[zD h j,zD (s:={c with bo:=g++[{a with bA:=d}]}) h z,K,t,aV nc,aV Z];refine Eq.mpr (jR (Bt b _) ((aV nc).trans (aV n2))) ?_;exact Bt.Nr j o
   have R:=λM=>QH n h j M
   have I:iN (fR b) {c with bo:=g++[{a with bA:=d}]} {a with bA:=d} (bK b a) (bZ a.aU a.bF (cq b (bK b a)))->_:=λM=>QH (b:=fR b) (a:={a with bA:=d}) (c:={c with bo:=g++[{a with bA:=d}]}) cC h z cC
   rw[t]at I
   generalize hd:a.bA=F at o
   cases o with
   |nil F=>
    by_cases M:iN b c a (bK b a) (bZ a.aU a.bF (cq b (bK b a)))
    .grind [Bt.done]
    .grind
   | @fH G S E e0 F o=>
    by_cases M:iN b c a (bK b a) (bZ a.aU a.bF (cq b (bK b a)))
    .refine bH ⟨?_,λ_=>Q⟩
     rw[R M,I (A (λ_=>bz bO) M)]
     simp only[uE,qY,GG,uD]
     rw[<-hd]
     exact Bt.Nr (s:={c with bo:=G++[E.cE a.bA (br a.aU (br (bK b a).aO 0)) (ig (br a.aU (br (bK b a).aO 0)))]}) O o
    .grind
   | @drop G S E F d B o=>
    by_cases M:iN b c a (bK b a) (bZ a.aU a.bF (cq b (bK b a)))
    .left
     have m:=R M
     simp only[uE,qY,GG,uD]at m
     rw[m]
     have W:=D.tX G.length E a cC (by rw[j];simp)
     have N:=D.bo E cC
     have T:=N.lr;have h2:=N.lo
     refine⟨?_,KX h j (bH (bH n)) h O⟩
     exact Bt.ret h O o (hd▸B) cC (by rw[t,Xo ⟨W.1,V⟩]) cC (M.mQ (bH n)).2
    .grind
  .refine bH ⟨?_,λ_=>Q⟩
   rw[zD h j,zD (s:={c with bo:=g++[{a with bA:=d}]}) h z,K,t]
   by_cases C:ms (bK b a).op/\c.dv=c.df
   .rw[a8 C]
    refine Eq.mpr (jR (Bt b _) (a8 C)) ?_
    exact Bt.Nr j o
   rw[aV C]
   refine Eq.mpr (jR (Bt b _) (aV C)) ?_
   by_cases M:iN b c a (bK b a) (bZ a.aU a.bF (cq b (bK b a)))
   .rw[a8 M]
    refine Eq.mpr (jR (Bt b _) (a8 (VW.2 ((YB n).2 M)))) ?_
    obtain⟨v,m,l,Z,R,e3,e4⟩:=Vt U.op n
    have e5:=e4 (g++[{a with bA:=d}]) g d
    rw[Z]
    refine Eq.mpr (jR (Bt b _) (LO.trans e5)) ?_
    rcases e3 with rfl|⟨J,rfl⟩
    .exact Bt.Nr O (R▸o)
    .have A:=Bt.Nr (a:=b) (s:={v with bo:=(i++[m])++[J]}) (f:=J) O (Out.fH (q:=m) J.bA (R▸o))
     simpa using A
   .rw[aV M]
    refine Eq.mpr (jR (Bt b _) (aV λw=>M ((YB n).1 (VW.1 w)))) ?_
    exact Bt.Nr j o
 | @ret i g p m v h3 j o B n X R C=>
  have H:gB b p:=by grind [eJ.bo]
  obtain⟨M,EQ⟩:=adD fl D Y j B
  have ac:=H.pc
  have nc:¬(ms (bK b p).op/\c.dv=c.df):=by unfold ms;omega
  have A:=zD (a:=b) h j
  rw[aV nc,a8 M]at A
  obtain⟨q0,ae,ad,hP,ab,U⟩:=H.AJ D.iu
  rcases EQ with⟨d,K,b1⟩|⟨d,t,b1⟩|⟨d,t⟩
  .left
   have P:kD b c={c with bo:=i++[{p with bF:=bZ p.aU p.bF (cq b (bK b p)),pc:=(bK b p).cG}]}:=by
    rw[A];simp(disch:=omega) only[dI,aV,a8]
   rw[P]
   exact⟨Bt.ret h O o b1 n X R C,KX h j (bz d) h O⟩
  .left
   have P:kD b c={c with bo:=i++[bS.cE {p with bF:=bZ p.aU p.bF (cq b (bK b p)),pc:=p.pc+1} (bK b p).bA (br p.aU v) (ig (br p.aU v))]}:=by
    rw[A];unfold dI;simp only[];rw[aV V,aV V,aV V,aV V,aV V,aV V,aV V,aV V,a8 d,t]
   rw[P]
   have hd:=U.bA
   have T:=H.lr
   rw[ad]at T
   refine⟨Bt.ret (r:=(bK b p).bA) h O o ?_ n ?_ R C,KX h j (bH (bz d)) h O⟩
   .show BB (dE b p.fN).cD (p.pc+1).toNat (bK b p).bA
    rw[show(p.pc+1).toNat=p.pc.toNat+1 by omega];exact b1
   grind [Xo]
  .rw[Oa d,t]at A
   have z:({c with bo:=g++[m]}:St).bo=g++[m]:=rfl
   have I:(1<(g++[m]).length\/br m.aU (br (bK (fR b) m).aO 0)<1000)->_:=λL=>QH (c:={c with bo:=g++[m]}) n h z (TZ n R C L)
   rw[X]at I
   have Q:XT b (fR b) c {c with bo:=g++[m]}:=λw=>by
    grind [Mg,Aq]
   generalize hd:p.bA=F at o
   generalize P:m.bA=d2 at o
   cases o with
   |nil F=>
    refine bH ⟨?_,λ_=>Q⟩
    have aa:=M.qv d
    rw[t,j]at aa
    rw[A,I (aa.imp (λk=>by simp at k) id)]
    exact Bt.done O
   | @fH G S E e0 F o=>
    refine bH ⟨?_,λ_=>Q⟩
    rw[A,I (bz bO)]
    simp only[uE,qY,GG,uD]
    rw[hd,P]
    exact Bt.Nr (s:={c with bo:=G++[E.cE F (br p.aU v) (ig (br p.aU v))]}) O o
   | @drop G S E F Z B o=>
    left
    simp only[uE,qY,GG,uD]at A
    have W:=D.tX G.length E p cC (by rw[j];simp)
    have N:=D.bo E cC
    have T:=N.lr;have h2:=N.lo
    rw[A]
    refine⟨?_,KX h j (bH (bH d)) h O⟩
    exact Bt.ret h O (P▸o) (hd▸B) n (by rw[Xo ⟨W.1,V⟩];exact X) R C
end
section
variable{a:cO}{b u:St}{rZ:Nat->Nat->Option Kn}{df:Int}
def Rg:dX (fR a) df=dX a df:=by grind [dX,VV]
def Zp:Bt a (dX a df) (dX (fR a) df):=by
 rw[Rg];exact Bt.Nr (s:=dX a df) (c:=[]) (n:=[]) (f:=ct a 0 0 []) (e:=0) O (.nil 0)
end
section
variable{a:cO}{s:St}
def Bd(c d:oW):Prop:=c.oa<=d.oa/\c.eG<=d.eG/\c.gV<=d.gV
def aeD{a b:Int}:a<=mx a b:=by unfold mx;split<;>omega
theorem Td.up{c d:oW}(h:Td c s)(b:Bd c d):Td d s:=⟨yx h.oa b.1,yx h.eG b.2.1,Un _ _ λe a=>yx (SY _ _ h.gV e a) b.2.2⟩
end
section
variable{a b:Int}
@[grind cases] structure wI (c d:oW):Prop where
 bq:d.bq<=c.bq
 eG:d.eG<=c.eG
 jD:d.jD=c.jD
 lg:d.lg=c.lg
 wW:d.wW=c.wW
 qh:d.qh=c.qh
 oa:d.oa=c.oa
 gV:d.gV=c.gV
def abx{c d:Int}(h:c<=a)(g:d<=b):mx c d<=mx a b:=by unfold mx;split<;>split<;>omega
def aeC(h:b<=a):mx a b=a:=by unfold mx;split<;>omega
variable{e f:cO}{s u t:St}{c d:oW}{rZ:Nat->Nat->Option Kn}{df:Int}
theorem wI.Uw(h:wI c d)(a:u.aR=s.aR)(b:u.bo.length<=s.bo.length):wI (Uw c s) (Uw d u):=by
 unfold Go.Proofs.YtbbbdejieenniaaGreat.Uw;exact⟨h.bq,abx h.eG V,h.jD,h.lg,h.wW,h.qh,by rw[h.oa,a],by rw[h.gV,a]⟩
theorem wI.uN(h:wI c d){b:Int}{a:Bool}:wI (uN c b a) (uN d b a):=by
 unfold Go.Proofs.YtbbbdejieenniaaGreat.uN;split
 .exact⟨h.bq,h.eG,h.jD,by simp only;rw[h.lg],h.wW,h.qh,h.oa,h.gV⟩
 split
 .exact⟨h.bq,h.eG,by simp only;rw[h.jD],h.lg,h.wW,h.qh,h.oa,h.gV⟩
 split
 .exact⟨h.bq,h.eG,h.jD,h.lg,by simp only;rw[h.wW],h.qh,h.oa,h.gV⟩
 split
 .exact⟨h.bq,h.eG,h.jD,h.lg,h.wW,by simp only;rw[h.qh],h.oa,h.gV⟩
 .exact h
def wI.afN(h:wI c d)(b:XT e f s u)(j:(kD f u).dx=(kD e s).dx)(g:(kD f u).aR=(kD e s).aR)(i:(kD f u).bo.length<=(kD e s).bo.length):wI (Pa e s c) (Pa f u d):=by
 unfold Pa;simp only[];have a:wI {c with bq:=c.bq+1} {d with bq:=d.bq+1}:=⟨by have:=h.bq;simp only;omega,h.eG,h.jD,h.lg,h.wW,h.qh,h.oa,h.gV⟩;refine wI.Uw ?_ g i;rw[j];split
 .rw[b];exact a.uN
 .exact a
def wI.aeJ(h:wI c d)(q:ZQ e s (kD e s))(a:Td c s):wI (Pa e s c) d:=by
 unfold Pa;simp only[];rw[a8 (bz q.2.1),q.2.2.2];unfold Go.Proofs.YtbbbdejieenniaaGreat.Uw;refine⟨by have:=h.bq;simp only;omega,yx h.eG aeD,h.jD,h.lg,h.wW,h.qh,?_,?_⟩
 .simp only[];rw[q.2.2.1,aeC a.oa];exact h.oa
 .simp only[];rw[q.2.2.1,a.gV];exact h.gV
def VI(a:∀(n:Nat)(p:dS),e.cU[n]? =some p->sK e p (rZ n))(b:gL e)(d:0<=df/\df<=40):∀n,(∀j,j<n->(bq e j (dX e df)).dx=3)->∃k,k<=n/\Bt e (bq e n (dX e df)) (bq (fR e) k (dX (fR e) df))/\
 (∀j,j<k->(bq (fR e) j (dX (fR e) df)).dx=3)/\wI (my e (dX e df) n) (my (fR e) (dX (fR e) df) k)
 |0,_=>⟨0,bY,Zp,λ_ h=>V,by rw[Rg];exact⟨dN _,dN _,O,O,O,O,O,O⟩⟩
 |n+1,m=>by
  let⟨k,s,h,c,l⟩:=VI a b d n λj c=>m j V;have i:=m n V;rcases aaM a (Bm n (Gs b d)) (VS.bq a b d n) h with⟨g,q⟩|⟨g,o⟩
  .exact⟨k,V,by rw[ou];exact g,c,l.aeJ q (Od e n)⟩
  .refine⟨k+1,V,by rw[ou,ou];exact g,λj r=>?_,l.afN (o i) ?_ ?_ g.aT⟩
   .rcases eH j k with f|f
    .exact c j f
    .have:j=k:=V;subst this;rw[h.eqs];exact i
   .rw[g.eqs]
   .rw[g.eqs]
def XE(f:∀(n:Nat)(p:dS),e.cU[n]? =some p->sK e p (rZ n))(c:gL e)(d:0<=df/\df<=40):wI (vS e df) (vS (fR e) df):=by
 let⟨n,g,a,b⟩:=PU e (dX e df) 100000 (by have:=(YE c d).2.2;rwa[Nq]at this);let⟨l,m,h,j,i⟩:=VI f c d n b;rw[zC g a b,zC (k:=l) V (by rw[h.eqs];exact a) j];exact i
end
section
section
open Tryz
variable{m:D}{R:ak}
def zT(a:E):=eS m R A0 [a] func4
end
variable{m:D}
def Ds{cD:E}(h:Kh m cD):bJ dP 4 [cD.v] m (LwR m):=by
 apply zT;simp(config:={maxSteps:=1000000}) -zeta only[dT];refine⟨λ_=>⟨O,dt⟩,λX=>?_⟩;refine(Js h).aP λ_ x⟨v,z,a,k,e,w,q⟩=>⟨v,z,k,e,?_⟩;have l:iW x v z a:=⟨w.bR.le fJ,ly.le fJ w.cU⟩;intro m2 P;obtain⟨C,z3⟩:=pv P;refine(CO (l.ext C) k).aP λ_ Q⟨e,r⟩=>⟨r.fg fu,_,_,_,_,_,_,_,_,_,e,?_⟩;intro m5 R;obtain⟨V,z6⟩:=pv R;have z4:=r.aQ;have u:=(C.N r).N V;refine(OA (l.ext u) k).aP λ_ S⟨e,s⟩=>⟨s.fg fu,_,_,_,_,_,_,_,_,_,e,?_⟩;intro m8 y;obtain⟨W,z9⟩:=pv y;have z7:=s.aQ;have c:∀o∈[S.size,Q.size,x.size],o<y.size:=fu;refine(sW (tB a k).c).bL dt c λZ n _=>⟨_,O,?_⟩;have j:=((u.N s).N W).N n;have C8:=n.aQ;refine⟨sx,λ_=>⟨sx,λ_=>⟨λY=>?_,λJ=>?_⟩⟩⟩
 .refine(sW (tB a k).c).bL n c λK b _=>⟨_,O,λ_=>⟨bO,(q.N j).N b⟩,sx⟩
 let⟨g,D⟩:=adT (a:=a) (df:=k) (sp J);refine(Ml (l.ext j)).aP λ_ K⟨o,e,b,p,_⟩=>⟨b.fg λd f=>oh (c d f),o,e,λe=>?_,λe=>?_⟩
 .have t:=n.N b;refine(sW (tB a k).c).bL t c λL i _=>⟨_,O,λ_=>⟨bO,(q.N (j.N b)).N i⟩,sx⟩
 obtain⟨_,p⟩:=p (sp e);have ad:=b.aQ;have t:=j.N b;refine(KH (l.ext t) g.1).aP λ_ L⟨H,T,e,I,i⟩=>⟨i.fg λd f=>oh (c d f),H,T,true,e,?_⟩;intro aa M;obtain⟨A,af⟩:=pv M;have ae:=i.aQ;refine(CO (I.ext A) k).aP λ_ ab⟨e,B⟩=>⟨B.fg λd f=>by
  rcases aZ.1 f with e|e
  .omega
  .have:=c d e;omega,_,_,_,_,_,_,_,_,_,e,?_⟩
 intro ac N;have U:=py N;have F:=XE p.TA g.1 g.2;have G:tB (fR a) k=⟨vS (fR a) k,true⟩:=a8 ⟨abJ g.1,g.2⟩;rw[G,D];exact⟨λ_=>⟨λ_=>⟨λ_=>⟨λ_=>⟨λ_=>⟨λ_=>⟨λ_=>⟨λ_=>⟨λ_=>⟨by simp[F.gV],(q.N t).N (((i.N A).N B).N U)⟩,λh=>by simp[F.oa]at h⟩,λh=>by simp[F.qh]at h⟩,λh=>by simp[F.wW]at h⟩,λh=>by simp[F.lg]at h⟩,λh=>by simp[F.jD]at h⟩,λh=>by have:=F.eG;simp at h;omega⟩,λh=>by have:=F.bq;simp at h;omega⟩,sx⟩,sx⟩
end
end Go.Proofs.YtbbbdejieenniaaGreat
namespace Go.Vc
section
variable{t:TypeId}{a:Addr}
open Go.ChangeShapes Go.WideShapes Go.RowKit
section
variable{H:Type}{b:TypeId×Value->H}{P:Program}{w:World}
def ZS(b:TypeId×Value->H)(P:Program)(w:World)(t:TypeId)(Q:ae->Prop):Prop:=
 ∀(n:Nat)(a:ap)(x:DataW H×aI),DataW.trod b P w 0 (λ_=>true) true n t a=some x->∃c,a=c.map Ce.v/\Q c
theorem ZS.aP{Q Q':ae->Prop}(h:ZS b P w t Q)(f:∀a,Q a->Q' a):ZS b P w t Q':=λn a x g=>
 let⟨c,d,e⟩:=h n a x g
 ⟨c,d,f _ e⟩
theorem Y0{v:Value}(h:w.cell? a=some v):a.spot=none:=by
 unfold World.cell? at h;split at h
 .split at h
  .cases h
  .rename_i b;simpa using b
 .cases h
theorem YW(h:a.spot=none)(i:Nat):a.add i=⟨a.block,a.off+i,none⟩:=by
 obtain⟨b,o,s⟩:=a;grind [Go.Addr.add]
end
variable{H:Type}{b:TypeId×Value->H}{P:Program}
theorem IJ(k:laidOutB P=true){W i:World}(j:Below W.heap.size W i):∀{d:List TypeId}{g:ap}{e:List (DataW H)}{c:aI},
 (d.all λt=>P.readableRec t&&decide (t<P.types.size))=true->DataW.TrodAll b P W 0 (λ_=>true) true d g e c->(∀x∈c,x.block<W.heap.size)->∀sp:Nat->Bool,(∀p∈c,sp p.block=true)->
 DataW.TrodAll b P i 0 sp true d g e c
 |[],_,_,_,_,h,_,_,_=>by
  obtain⟨rfl,rfl,rfl⟩:=trodAll_nil h;exact trodAll_mk0
 |t::d,_,_,_,f,h,l,sp,m=>by
  obtain⟨v,g,r,e,p,q,rfl,rfl,rfl,n,o⟩:=trodAll_cons h;simp only[Ta,fe,bh]at f;exact⟨p,q,WideElems.Trod_stays k f.1.1 f.1.2 n (λx a=>j.same (l x (by simp[a]))) (λx a=>m x (by simp[a])),IJ k j cC o (λx a=>l x (by simp[a])) sp (λx a=>m x (by simp[a])),O⟩
def RQ{f:Func}{s:ChangeSpec}{W c:World}{d:Array Value}{a:List (DataW H)}{h:aI}
 (D:laidOutB P=true)(G:(f.params.toList.all λt=>P.readableRec t&&decide (t<P.types.size))=true)(w:f.resultTypes=#[t])(o:P.underlying t=some .bool)(l:s.vars=[])
 (e:DataW.Whole b P f.params.toList s.vars false W d.toList a [] h)(C:(s.fn H (a++[])).args=a)(q:(s.fn H (a++[])).results=[.lit (.bool true)])(r:(s.fn H (a++[])).vars=[])
 (n:Below W.heap.size W c):s.post b P f false true false false W d (.bool true) c:=by
 have k:∀p∈h,p.block<W.heap.size:=λp u=>by simpa using e.lt p u
 have j:=e
 obtain⟨p,I,B,i,rfl,A,E⟩:=e
 rw[l]at i
 obtain⟨_,rfl⟩:=trodVars_none i
 simp only[gA]at k A j
 have m:∀sp:Nat->Bool,(∀x∈p,sp x.block=true)->DataW.TrodAll b P c 0 sp true f.params.toList d.toList (s.fn H (a++[])).args p:=λsp F=>by
  grind [IJ]
 have y:∀sp:Nat->Bool,DataW.TrodVars b P c sp s.vars (s.fn H (a++[])).vars []:=λsp=>by rw[l,r];rfl
 have v:∀(g:Nat)(sp:Nat->Bool)(hd:Bool),DataW.TrodAll b P c g sp hd f.resultTypes.toList ((Value.bool true).resultList f.resultTypes.size) (s.fn H (a++[])).results []:=λg sp hd=>by
  rw[q,w];exact trodAll_cons_mk (shut_bool o _) trodAll_mk0
 refine⟨a,[],p,[],p,[],j,v _ _ _,m _ (λx z=>by simpa using k x z),y _,n.frame _,λ_=>?_⟩
 constructor<;>grind [Go.RowKit.ok_one,Go.RowKit.okWide_bool_mk,Go.ChangeShapes.trodAll_append,Go.RowKit.Below.frozen]
end
end Go.Vc
section
namespace Go.Proofs.YtbbbdejieenniaaGreat
open Go.Vc Go.ChangeShapes
def Zi{H:Type}{x:TypeId×Value->H}{P:Program}{w:World}{t e r:Nat}{v:Value}{u:DataW H}{J:aI}(p:P.underlying t=some (.slice e))(B:P.underlying e=some (.int .u8))(A:P.cellsOf e=1)
 (F:Value.okWide P w .any r t v)(y:DataW.Trod x P w 0 (λ_=>true) true t v u J):∃s,v=s.v/\Kh w.heap s:=by
 obtain⟨K,q,h,rfl⟩:=Go.WideShapes.okWide_slice p F
 obtain⟨M,C⟩:=y
 rcases open_ints p B A C with⟨b,_⟩|⟨d,Q,L,g,b,_,D,N,I,_,l,G⟩
 .simp[Value.cells]at b
  obtain⟨rfl,rfl,rfl⟩:=b
  exact⟨.nil,O,bY,λk a=>by simp at a⟩
 .simp[Value.cells]at b
  obtain⟨rfl,rfl,rfl⟩:=b
  simp only[vW]at I
  rcases GF h with i|i
  .subst i
   have:q=0:=V
   subst this
   obtain⟨c,o,s⟩:=d
   cases s with
   |none=>exact⟨.mk c o 0 0,O,bY,λk a=>by simp at a⟩
   |some sp=>exact⟨.Ec c o sp,O,bY,λk a=>by simp at a⟩
  .have z:=l 0 V
   have n:d.spot=none:=by
    have:=Y0 z;simpa[Addr.add]using this
   obtain⟨c,o,s⟩:=d
   simp only at n
   subst n
   refine⟨.mk c o q h,O,D,λk a=>?_⟩
   simp only[E.lU]at a
   have m:k<g.length:=V
   have j:=l k m
   have f:=G (g.getD k 0) (by rw[fG,abZ m];simp)
   rw[Lit.wf,fe,bh,bh]at f
   refine⟨g.getD k 0,f.1,f.2,?_⟩
   .rw[YW O,Eu]at j
    simpa using j
end Go.Proofs.YtbbbdejieenniaaGreat
end
