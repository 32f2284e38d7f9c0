/- Part of a proof. -/
import Derived.Test.YtbbbdejieenniaaGreatRB01
set_option linter.all false
set_option maxHeartbeats 8000000
set_option maxRecDepth 100000
namespace Go.Proofs.YtbbbdejieenniaaGreat
open Go.Vc
section
variable{w:Int}{r:ab}
structure dz where
 bX:Int
 jH:Int
 bV:ab
abbrev ah:=List dz
structure bS where
 fN:Int
 pc:Int
 bA:Int
 aU:ab
 bF:ab
 cL:ab
abbrev aj:=List bS
structure St where
 dx:Int
 kY:Int
 dv:Int
 df:Int
 cJ:ab
 aR:ah
 bo:aj
def br(l:ab)(i:Int):Int:=l.getD i.toNat 0
def iv(l:ab)(i:Int)(v:Int):ab:=l.set i.toNat v
def ix(w:Int):Nat:=(w -1000).toNat
def mV(w:Int):Prop:=-999<=w/\w<=999
def iL(h:ah)(a:Nat):Prop:=∃c,h[a]? =some c/\0<c.bX
def iR(h:ah)(w:Int):Prop:=1000<=w/\iL h (ix w)
def zS(h:ah)(w:Int):Prop:=mV w\/iR h w
def kV:dz:=⟨0,0,[]⟩
def bu(h:ah)(w:Int):dz:=(h[ix w]?).getD kV
def afW:dS:=⟨[],[],0,0,[]⟩
def dE(a:cO)(n:Int):dS:=(a.cU[n.toNat]?).getD afW
def cT(a:cO):Int:=(gU a.bR).length
def kG:ab->Nat->Int
 |[],_=>0
 |w::b,a=>(if w=1000+(a:Int)then 1 else 0)+kG b a
def qN:ah->Nat->Int
 |[],_=>0
 |c::h,a=>kG c.bV a+qN h a
def jk:ab->ab->Nat->Int
 |r::c,o::b,a=>(if r=1000+(a:Int)then o else 0)+jk c b a
 |_,_,_=>0
def oO:aj->Nat->Int
 |[],_=>0
 |f::b,a=>jk f.aU f.bF a+oO b a
def gP:aj->Nat->Int
 |[],_=>0
 |f::b,a=>kG f.cL a+gP b a
def jv(a:cO)(x:Instr)(k:Nat):Bool:=(dE a x.cG).cW.any (λy=>y==(k:Int))
def je(a:cO)(x:Instr):Nat->ab->ab
 |_,[]=>[]
 |k,r::b=>if jv a x k then je a x (k+1) b else r::je a x (k+1) b
def fx(a:cO)(x:Instr):Nat->ab->ab
 |_,[]=>[]
 |k,r::b=>if jv a x k then r::fx a x (k+1) b else fx a x (k+1) b
def cq(a:cO)(x:Instr):ab:=
 if x.op=15\/x.op=6\/x.op=10\/x.op=11\/x.op=18\/x.op=23 then x.aO
 else if x.op=16\/x.op=17 then x.aO.take 1
 else if x.op=9\/x.op=24 then je a x 0 x.aO
 else[]
def bZ(aU bF:ab):ab->ab
 |[]=>bF
 |r::a=>bZ aU (if 1000<=br aU r then iv bF r (br bF r -1)else bF) a
def dR(f:bS)(a:ab):ab:=a.map (br f.aU)
def oF(l:ab):ab:=l.filter (λw=>decide (1000<=w))
def oJ(h:ah)(a:ab):Prop:=∀w∈a,1000<=w->(bu h w).bX+kG a (ix w)<=999999
def GJ(h:ah)(f:bS)(x:Instr):Prop:=
 let w:=br f.aU (br x.aO 0)
 iR h w/\oF (bu h w).bV=dR f (x.aO.drop 1)/\((bu h w).bX=1\/oJ h (bu h w).bV)/\(x.op=17->br f.cL (br x.aO 0)=0)
def tQ(a:cO)(h:ah)(w:Int):Prop:=
 iR h w/\0<=(bu h w).jH -cT a/\(bu h w).jH -cT a<a.cU.length/\
  (dE a ((bu h w).jH -cT a)).aY.length=(bu h w).bV.length+1/\(dE a ((bu h w).jH -cT a)).cW.length=0/\
  ((bu h w).bX=1\/oJ h (bu h w).bV)
def Ko(h:ah)(f:bS)(x:Instr):Prop:=
 x.cR≠0->br f.cL (x.cR -1)≠0->(bu h (br f.cL (x.cR -1))).bV.length=x.aO.length
def tP(a:cO)(h:ah)(f:bS)(x:Instr):Prop:=∀r∈fx a x 0 x.aO,1000<=br f.aU r->iR h (br f.aU r)
def Em(l:ab):Prop:=∀n∈l,n=0
@[grind cases] structure iN (im:cO) (s:St) (f:bS) (x:Instr) (bF:ab):Prop where
 nn:∀o∈bF,0<=o
 bA:kT x.op->br bF x.bA<=0
 nZ:(x.op=1\/x.op=2\/x.op=3\/x.op=4\/x.op=5\/x.op=20)->∀r∈x.aO,br f.aU r<1000
 jM:x.op=6->Ko s.aR f x
 cW:(x.op=9\/x.op=24)->tP im s.aR f x
 mQ:(x.op=24\/x.op=23)->Em bF/\Em f.cL
 qv:x.op=23->1<s.bo.length\/br f.aU (br x.aO 0)<1000
 apply:x.op=11->tQ im s.aR (br f.aU (br x.aO 0))
 WQ:x.op=14->iR s.aR (br f.aU (br x.aO 0))/\(bu s.aR (br f.aU (br x.aO 0))).bX<999999
 uV:x.op=15->1000<=br f.aU (br x.aO 0)
 AL:(x.op=16\/x.op=17)->GJ s.aR f x
 pV:x.op=19->iR s.aR (br f.aU (br x.aO 0))/\x.cG<(bu s.aR (br f.aU (br x.aO 0))).bV.length
 ta:x.op=21->iR s.aR (br f.aU (br x.aO 0))/\(bu s.aR (br f.aU (br x.aO 0))).jH∈cY im.bR x.cG
def Kx(n:Int):Int:=if n< -999 then -999 else if 999<n then 999 else n
def TX(c a b:Int):Int:=
 if c=1 then Kx (a+b)else if c=2 then Kx (a -b)else if c=3 then Kx (a*b)else if c=4/\a<b then 1 else 0
def fF:ah->Nat
 |[]=>0
 |c::h=>if c.bX=0 then 0 else fF h+1
def jM(h:ah)(a:Nat)(c:dz):ah:=if a=h.length then h++[c]else h.set a c
def pU(h:ah)(w:Int):ah:=h.set (ix w) {bu h w with bX:=(bu h w).bX+1}
def iQ(h:ah)(w:Int):ah:=h.set (ix w) {bu h w with bX:=(bu h w).bX -1}
def kO(h:ah):ab->ah
 |[]=>h
 |w::a=>kO (pU h w) a
def lL(h:ah):Nat->Nat
 |0=>0
 |n+1=>match h[n]? with
  |some c=>if c.bX=0 then lL h n else n+1
  |none=>lL h n
def oY(h:ah):ah:=h.take (lL h h.length)
def Es:ah->Nat
 |[]=>0
 |c::h=>(if 0<c.bX then c.bX.toNat+c.bV.length else 0)+Es h
def mq:∀{e:ah}{f:Nat}{b d:dz},e[f]? =some b->Es (e.set f d)+(if 0<b.bX then b.bX.toNat+b.bV.length else 0)=Es e+(if 0<d.bX then d.bX.toNat+d.bV.length else 0)
 |[],f,b,d,e=>by simp at e
 |i::e,0,b,d,g=>by simp at g;subst g;simp only[np,Es];omega
 |i::e,f+1,b,d,g=>by
  have:=mq (e:=e) (f:=f) (b:=b) (d:=d) cC;grind [Es]
theorem dL{h:ah}(b:iR h w):h[ix w]? =some (bu h w)/\0<(bu h w).bX:=by
 obtain⟨_,d,a,c⟩:=b;simp[bu,a,c]
open Classical in
noncomputable def ju (h:ah) (c:ab):ah:=
 match c with
 |[]=>h
 |w::r=>
  if b:iR h w then
   if a:(bu h w).bX=1 then ju (h.set (ix w) kV) ((bu h w).bV.reverse++r)
   else ju (iQ h w) r
  else ju h r
termination_by Es h+c.length
decreasing_by
 .let⟨e,a⟩:=dL b
  have:=mq (d:=kV) e
  simp only[kV,a8 a]at this
  simp[kV]
  simp at this
  omega
 .let⟨e,a⟩:=dL b
  have b:=mq (d:={bu h w with bX:=(bu h w).bX -1}) e
  simp only[a8 a]at b
  rw[a8 V]at b
  simp[iQ]
  omega
 .simp
def uT(h:ah):ju h []=h:=by rw[ju]
def uU{h:ah}(b:iR h w)(a:(bu h w).bX=1):ju h (w::r)=ju (h.set (ix w) kV) ((bu h w).bV.reverse++r):=by
 grind [ju]
def sO{h:ah}(b:iR h w)(a:(bu h w).bX≠1):ju h (w::r)=ju (iQ h w) r:=by
 grind [ju]
def sP{h:ah}(a:¬iR h w):ju h (w::r)=ju h r:=by
 rw[ju,dif_neg a]
def bS.cE(f:bS)(r w o:Int):bS:={f with aU:=iv f.aU r w,bF:=iv f.bF r o}
def ig(w:Int):Int:=if 1000<=w then 1 else 0
def fj(bF:ab):ab->ab
 |[]=>bF
 |r::a=>fj (iv bF r (br bF r+1)) a
def eU(n:Nat):ab:=List.replicate n 0
def fK(cW:ab):Nat->ab->ab
 |_,[]=>[]
 |k,w::a=>(if cW.any (λy=>y==(k:Int))then 0 else ig w)::fK cW (k+1) a
def ct(a:cO)(g c:Int)(b:ab):bS:=
 ⟨g,0,c,b++eU ((dE a g).aU.toNat -b.length),fK (dE a g).cW 0 b++eU ((dE a g).aU.toNat -b.length),eU (dE a g).aU.toNat⟩
open Classical in
noncomputable def iK (h:ah) (w:Int):ah:=
 if(bu h w).bX=1 then oY (h.set (ix w) kV)else kO (iQ h w) (oF (bu h w).bV)
def ua(l:ab)(n:Int):Nat:=l.findIdx (λy=>y==n)
open Classical in
noncomputable def dI (b:cO) (s:St) (a:aj) (f:bS) (x:Instr) (bF:ab):St:=
 let g:bS:={f with bF:=bF,pc:=f.pc+1}
 let c:=br x.aO 0
 let w:=br f.aU c
 if x.op=0 then{s with bo:=a++[g.cE x.bA x.cG 0]}
 else if x.op=1\/x.op=2\/x.op=3\/x.op=4 then{s with bo:=a++[g.cE x.bA (TX x.op w (br f.aU (br x.aO 1))) 0]}
 else if x.op=5 then{s with cJ:=s.cJ++[w],bo:=a++[g.cE x.bA w 0]}
 else if x.op=6 then
  if x.cR≠0/\br f.cL (x.cR -1)≠0 then
   {s with aR:=s.aR.set (ix (br f.cL (x.cR -1))) ⟨1,x.cG,dR f x.aO⟩,bo:=a++[{g with cL:=iv f.cL (x.cR -1) 0}.cE x.bA (br f.cL (x.cR -1)) 1]}
  else{s with aR:=jM s.aR (fF s.aR) ⟨1,x.cG,dR f x.aO⟩,bo:=a++[g.cE x.bA (1000+fF s.aR) 1]}
 else if x.op=10 then{s with aR:=jM s.aR (fF s.aR) ⟨1,cT b+x.cG,dR f x.aO⟩,bo:=a++[g.cE x.bA (1000+fF s.aR) 1]}
 else if x.op=14 then{s with aR:=pU s.aR w,bo:=a++[{g with bF:=iv bF c (br bF c+1)}]}
 else if x.op=15 then{s with aR:=oY (ju s.aR [w]),bo:=a++[g]}
 else if x.op=16\/x.op=17 then
  let d:={g with bF:=fj bF (x.aO.drop 1)}
  if(bu s.aR w).bX=1/\x.op=17 then{s with aR:=s.aR.set (ix w) ⟨-1,0,eU (bu s.aR w).bV.length⟩,bo:=a++[{d with cL:=iv f.cL c w}]}
  else{s with aR:=iK s.aR w,bo:=a++[d]}
 else if x.op=18 then{s with bo:=a++[g.cE x.bA w (ig w)]}
 else if x.op=19 then{s with bo:=a++[g.cE x.bA (br (bu s.aR w).bV x.cG) 0]}
 else if x.op=20 then{s with bo:=a++[{g with pc:=if w=0 then x.cG else f.pc+1}]}
 else if x.op=21 then{s with bo:=a++[{g with pc:=br x.fU (ua (cY b.bR x.cG) (bu s.aR w).jH)}]}
 else if x.op=22 then{s with bo:=a++[{g with pc:=x.cG}]}
 else if x.op=9 then{s with dv:=s.dv+1,bo:=a++[g,ct b x.cG x.bA (dR f x.aO)]}
 else if x.op=24 then{s with dv:=s.dv+1,bo:=a++[ct b x.cG f.bA (dR f x.aO)]}
 else if x.op=11 then
  {s with dv:=s.dv+1,aR:=iK s.aR w,bo:=a++[g,ct b ((bu s.aR w).jH -cT b) x.bA ((bu s.aR w).bV++[br f.aU (br x.aO 1)])]}
 else -- 23
  match a.getLast? with
  |none=>{s with dx:=0,kY:=w,bo:=[]}
  |some p=>{s with bo:=a.dropLast++[p.cE f.bA w (ig w)]}
def ms(a:Int):Prop:=a=9\/a=11\/a=24
instance(a:Int):Decidable (ms a):=by unfold ms;infer_instance
def bK(a:cO)(f:bS):Instr:=((dE a f.fN).cD[f.pc.toNat]?).getD ⟨0,0,0,0,[],[]⟩
open Classical in
noncomputable def kD (a:cO) (s:St):St:=
 if s.dx≠3 then s else
 match s.bo.getLast? with
 |none=>s
 |some f=>
  if ms (bK a f).op/\s.dv=s.df then{s with dx:=1}
  else if iN a s f (bK a f) (bZ f.aU f.bF (cq a (bK a f)))then
   dI a s s.bo.dropLast f (bK a f) (bZ f.aU f.bF (cq a (bK a f)))
  else{s with dx:=2}
end
section
variable{f b:Nat}{h g:ah}{e e':Nat->Int}{w:Int}{c d:dz}
def qM:∀(l r:ab)(f:Nat),kG (l++r) f=kG l f+kG r f
 |[],r,f=>by simp[kG]
 |w::l,r,f=>by simp only[eN,kG,qM l r f];omega
def EV:∀(l:ab)(f:Nat),kG l.reverse f=kG l f
 |[],f=>O
 |w::l,f=>by simp only[Wj,qM,EV l f,kG];omega
def nj:∀(l:ab)(f:Nat),0<=kG l f
 |[],f=>by simp[kG]
 |w::l,f=>by have:=nj l f;simp only[kG];split<;>omega
theorem ui:∀{l:ab}{f:Nat},(1000+(f:Int))∉l->kG l f=0
 |[],f,_=>O
 |w::l,f,h=>by
  simp only[aZ,CL]at h;simp only[kG,ui h.2];grind
def zk:∀{l:ab}{f:Nat},(1000+(f:Int))∈l->1<=kG l f
 |[],f,h=>by simp at h
 |w::l,f,h=>by
  simp only[kG];rcases aZ.1 h with rfl|h
  .rw[a8 O];have:=nj l f;omega
  .have:=zk h;split<;>omega
theorem Yw{l:ab}(h:0<kG l f):(1000+(f:Int))∈l:=
 by grind [ui]
def Zh{n:Nat}:kG (eU n) f=0:=ui λh=>by have:=abY h;omega
theorem EU:∀(l:ab)(f:Nat),kG (oF l) f=kG l f
 |[],f=>O
 |w::l,f=>by
  have:=EU l f;grind [oF,kG]
def BU:∀(l:ab)(f:Nat),kG l f<=l.length
 |[],f=>by simp[kG]
 |w::l,f=>by have:=BU l f;simp only[kG,dD];split<;>omega
def EY:∀(h k:ah)(f:Nat),qN (h++k) f=qN h f+qN k f
 |[],k,f=>by simp[qN]
 |c::h,k,f=>by simp only[eN,qN,EY h k f];omega
def KY:∀(h:ah)(f:Nat),0<=qN h f
 |[],f=>by simp[qN]
 |c::h,f=>by have:=KY h f;have:=nj c.bV f;simp only[qN];omega
theorem EZ:∀{h:ah}{f:Nat}{c:dz}(e:dz)(_:h[f]? =some c)(b:Nat),qN (h.set f e) b=qN h b -kG c.bV b+kG e.bV b
 |[],f,c,e,h,b=>by simp at h
 |d::h,0,c,e,g,b=>by simp at g;subst g;simp only[np,qN];omega
 |d::h,f+1,c,e,g,b=>by
  have:=EZ (h:=h) (f:=f) e (sp g) b;grind [qN]
def QD:∀{h:ah}{f:Nat},0<qN h f->∃c∈h,(1000+(f:Int))∈c.bV
 |[],f,h=>by simp[qN]at h
 |c::h,f,e=>by
  simp only[qN]at e;rcases fS (0<kG c.bV f)with b|b
  .grind [Yw]
  .let⟨d,hd,g⟩:=QD (h:=h) (f:=f) (oh (nj c.bV f));grind
def Yz:∀{h:ah}{c:dz}(_:c∈h)(f:Nat),kG c.bV f<=qN h f
 |[],c,a,f=>by simp at a
 |d::h,c,a,f=>by
  simp only[qN];rcases aZ.1 a with rfl|a
  .have:=KY h f;omega
  .have:=Yz a f;have:=nj d.bV f;omega
@[grind cases] structure tL (h:ah) (c:dz):Prop where
 fl:c.bV.length<=3
 lo: -1<=c.bX
 hi:c.bX<=999999
 PK:c.bX<1->c.jH=0/\(∀w∈c.bV,w=0)/\(c.bX=0->c.bV=[])
 yZ:0<c.bX->(∀w∈c.bV,zS h w)/\0<=c.jH/\c.jH<=99
def ad1(h:ah):Prop:=∃a:ag,∀(i:Nat)(c:dz),h[i]? =some c->∀w∈c.bV,1000<=w->a (ix w)<a i
@[grind cases] structure jc (h:ah) (e:Nat->Int):Prop where
 iF:∀c∈h,tL h c
 IU:ad1 h
 ex:∀(a:Nat)(c:dz),h[a]? =some c->0<c.bX->c.bX=qN h a+e a
 nn:∀a,0<=e a
 lv:∀a,0<e a->iL h a
theorem jc.congr(c:jc h e)(a:∀b,e' b=e b):jc h e':=by
 constructor<;>grind
theorem EO(f:Nat):ix (1000+(f:Int))=f:=by unfold ix;omega
theorem nK(h:1000<=w):1000+((ix w:Nat):Int)=w:=by unfold ix;omega
def Xf{v:Int}(a:1000<=v)(b:1000<=w)(h:ix v=ix w):v=w:=by grind [nK]
theorem jc.qj(f:jc h e)(d:c∈h)(i:w∈c.bV)(j:1000<=w):iR h w:=by
 have g:=f.iF c d;rcases fS (0<c.bX)with b|b
 .rcases(g.yZ b).1 w i with a|a
  .have:=a.2;omega
  .exact a
 .grind
def jc.adM(d:jc h e)(i:¬iL h f):qN h f=0:=by
 rcases fS (0<qN h f)with a|a
 .let⟨c,b,g⟩:=QD a;have:=(d.qj b g V).2;grind [EO]
 .have:=KY h f;omega
def jc.aeG(a:jc h e)(b:¬iL h f):e f=0:=by
 grind
theorem po(a:b≠f):(h.set f c)[b]? =h[b]? :=cC
theorem lA(hd:h[f]? =some d):(h.set f c)[f]? =some c:=by
 rw[fy (bC hd)]
theorem iL.ne(a:b≠f):iL (h.set f c) b<->iL h b:=by grind [iL]
theorem iL.Hk(hd:h[f]? =some d):iL (h.set f c) f<->0<c.bX:=by
 grind [iL]
theorem zS.aP(c:zS h w)(b:1000<=w->iL h (ix w)->iL g (ix w)):zS g w:=by
 rcases c with a|a
 .exact bz a
 .exact bH ⟨a.1,b a.1 a.2⟩
theorem tL.aP{h g:ah}{c:dz}(a:tL h c)(b:0<c.bX->∀w∈c.bV,1000<=w->iL h (ix w)->iL g (ix w)):tL g c:=
 by constructor<;>grind [zS.aP]
def sg{x:dz}(a:x∈h.set f c):x=c\/∃b,b≠f/\h[b]? =some x:=by
 grind [List.mem_iff_getElem?]
def jc.Pe(k:jc h e)(a:h[f]? =some c)(g:0<c.bX){n:Int}(s:0<n)(r:n<=999999)
 (x:∀b,e' b=e b+if b=f then n -c.bX else 0)(u:0<=e' f):jc (h.set f {c with bX:=n}) e':=by
 have l:∀b,iL (h.set f {c with bX:=n}) b<->iL h b:=λb=>by
  by_cases i:b=f
  .subst i;rw[iL.Hk a];exact⟨λ_=>⟨c,a,g⟩,λ_=>s⟩
  .exact iL.ne i
 have y:∀b,qN (h.set f {c with bX:=n}) b=qN h b:=λb=>by rw[EZ _ a];simp only[];omega
 refine⟨λz t=>?_,?_,λb d hd v=>?_,λb=>?_,λb p=>?_⟩
 .rcases sg t with rfl|⟨b,_,p⟩
  .have j:=k.iF c (ba a)
   exact⟨j.fl,by simp only[];omega,r,λo=>by simp only[]at o;omega,λ_=>⟨λw m=>((j.yZ g).1 w m).aP λ_ q=>(l _).2 q,(j.yZ g).2⟩⟩
  grind [tL.aP]
 .let⟨j,o⟩:=k.IU
  refine⟨j,λq d hd w m g=>?_⟩
  grind
 .grind
 .grind
 .rw[l]
  by_cases i:b=f
  .subst i;exact⟨c,a,g⟩
  grind
def jc.Xa(i:jc h e)(o:h[f]? =some c)(A:c.bX=1)(C:0<e f){c':dz}(v: -1<=c'.bX)(E:c'.bX<1)(y:c'.jH=0)
 (r:∀w∈c'.bV,w=0)(t:c'.bV.length<=3)(s:c'.bX=0->c'.bV=[])
 (p:∀b,e' b=e b -(if b=f then 1 else 0)+kG c.bV b):jc (h.set f c') e':=by
 have j:=i.ex f c o V
 have I:=KY h f
 have D:e f=1:=V
 have J:∀x∈h,(1000+(f:Int))∉x.bV:=λx j g=>by
  have:=Yz j f;have:=zk g;omega
 have G:kG c.bV f=0:=by grind [ui]
 have H:∀b,kG c'.bV b=0:=λb=>ui λg=>by have:=r _ g;omega
 have u:∀b,b≠f->iL h b->iL (h.set f c') b:=by grind [iL.ne]
 have F:∀x∈h,∀w∈x.bV,1000<=w->ix w≠f:=λx j w g q z=>by
  grind [nK]
 refine⟨λx j=>?_,?_,λb d hd B=>?_,λb=>?_,λb k=>?_⟩
 .rcases sg j with rfl|⟨b,_,k⟩
  .exact⟨t,v,V,λ_=>⟨y,r,s⟩,λq=>V⟩
  grind [tL.aP]
 .let⟨m,n⟩:=i.IU
  refine⟨m,λK d hd w g q=>?_⟩
  grind
 .grind [EZ]
 .rw[p]
  have:=i.nn b
  have:=nj c.bV b
  grind
 .rw[p]at k
  by_cases n:b=f
  .grind
  .rw[aV n]at k
   refine u b n ?_
   rcases fS (0<e b)with m|m
   .exact i.lv b m
   .have:=i.nn b
    have g:=Yw (l:=c.bV) (f:=b) V
    have:=(i.qj (ba o) g V).2
    rwa[EO]at this
def jc.Xg(j:jc h e){t:Int}{a:ab}(s:¬iL h f)(p:g[f]? =some ⟨1,t,a⟩)(u:∀b,b≠f->g[b]? =h[b]?)
 (L:∀b,qN g b=qN h b+kG a b)(v:∀w∈a,zS h w)(z:a.length<=3)(D:0<=t/\t<=99)(A:∀b,kG a b<=e b)
 (y:∀b,e' b=e b -kG a b+if b=f then 1 else 0):jc g e':=by
 have r:∀b,iL h b->iL g b:=λb c=>by
  grind [iL]
 have J:=j.aeG s
 have M:=j.adM s
 have K:kG a f=0:=by have:=nj a f;have:=A f;omega
 refine⟨λH F=>?_,?_,λb d hd I=>?_,λb=>?_,λb i=>?_⟩
 .let⟨b,i⟩:=db.1 F
  by_cases l:b=f
  .subst l;rw[p]at i;simp at i;subst i
   exact⟨z,bO,bO,sx,λ_=>⟨λw m=>(v w m).aP λ_ c=>r _ c,D⟩⟩
  .rw[u b l]at i
   exact(j.iF H (ba i)).aP λ_ w _ _ c=>r _ c
 .let⟨q,N⟩:=j.IU
  refine⟨λk=>if k=f then(a.map λw=>q (ix w)).sum+1 else q k,λk d hd w m C=>?_⟩
  have E:ix w≠f:=λx=>by
   have B:iR h w:=by
    by_cases o:k=f
    .subst o;rw[p]at hd;simp at hd;subst hd;rcases v w m with n|n
     .have:=n.2;omega
     .exact n
    .rw[u k o]at hd;exact j.qj (ba hd) m C
   exact s (x▸B.2)
  simp only[aV E]
  by_cases o:k=f
  .subst o;rw[p]at hd;simp at hd;subst hd
   rw[a8 O]
   have:∀(n:ab),w∈n->q (ix w)<=(n.map λw=>q (ix w)).sum:=by
    intro n c;induction n with
    |nil=>simp at c
    |cons P n G=>
     simp only[eP,List.sum_cons];rcases aZ.1 c with rfl|c
     .omega
     .have:=G c;omega
   have:=this a m;omega
  grind
 .grind
 .grind
 .rw[y]at i
  by_cases l:b=f
  .subst l;exact⟨_,p,bO⟩
  .rw[aV l]at i
   exact r b (j.lv b (oh (nj a b)))
theorem jc.ju:∀(n:Nat)(h:ah)(k:ab)(e:Nat->Int),Es h+k.length<=n->jc h (λb=>e b+kG k b)->(∀b,0<=e b)->jc (ju h k) e
 |n,h,[],e,_,a,_=>by rw[uT];exact a.congr λb=>by simp[kG]
 |n,h,w::r,e,i,a,d=>by
  rcases fS (iR h w)with c|c
  .let⟨f,j⟩:=dL c;have q:=nK c.1;have o:∀b,kG (w::r) b=(if b=ix w then 1 else 0)+kG r b:=λb=>by
    grind [kG]
   have l:=mq (d:=kV) f;by_cases g:(bu h w).bX=1
   .rw[uU c g];simp only[a8 j,kV]at l;simp at l;cases n with
    |zero=>simp at i
    |succ n=>
    refine jc.ju n _ _ e ?_ (jc.Xa a f g ?_ cH cH O (by simp[kV]) (by simp[kV]) (λ_=>O) λb=>?_) d
    .grind [kV]
    .simp only[o,a8];have:=d (ix w);have:=nj r (ix w);omega
    .simp only[o,qM,EV];omega
   .rw[sO c g];have m:=mq (d:={bu h w with bX:=(bu h w).bX -1}) f;simp only[a8 j]at m;rw[a8 V]at m;have p:=(a.iF _ (ba f)).hi;cases n with
    |zero=>simp at i
    |succ n=>
    refine jc.ju n _ _ e ?_ (jc.Pe a f j V V (λb=>?_) ?_) d
    .grind [iQ]
    .grind
    .have:=d (ix w);have:=nj r (ix w);omega
  .rw[sP c];cases n with
   |zero=>simp at i
   |succ n=>
   refine jc.ju n _ _ e cC (a.congr λb=>?_) d;simp only[kG];rw[aV]
   .omega
   .intro f;have:=a.lv b (by simp only[kG,a8 f];have:=d b;have:=nj r b;omega);exact c ⟨V,by rw[f,EO];exact this⟩
theorem yu(h:ah):∀n,lL h n<=n
 |0=>bY
 |n+1=>by
  simp only[lL];have:=yu h n;grind
theorem ys(h:ah):∀(n k:Nat)(c:dz),lL h n<=k->k<n->h[k]? =some c->c.bX=0
 |0,k,c,_,d,_=>V
 |n+1,k,c,a,e,b=>by
  simp only[lL]at a;by_cases d:k=n
  .grind
  .split at a
   .split at a
    .exact ys h n k c a V b
    .omega
   .exact ys h n k c a V b
def Rm(h:ah):∀(n:Nat)(c:dz),n<=h.length->h[lL h n -1]? =some c->0<lL h n->c.bX≠0
 |0,c,_,_,a=>by simp[lL]at a
 |n+1,c,f,b,a=>by
  simp only[lL]at b a;let⟨d,hd⟩:=dY h n;rw[hd]at b a;simp only[]at b a;split at b
  .rename_i e;rw[a8 e]at a;exact Rm h n c V b a
  .grind
def rh(h:ah):Prop:=∀c,h[h.length -1]? =some c->c.bX≠0
def LU:rh (oY h):=by
 intro c a;have d:=yu h h.length;unfold oY at a;rw[qZ,mK d]at a;rcases GF (lL h h.length)with b|b
 .grind
 .rw[qe V]at a;exact Rm h _ c bY a b
def SN:∀{h:ah},(∀c∈h,c.bV=[])->∀f,qN h f=0
 |[],_,f=>O
 |c::h,a,f=>by simp only[qN,a c cQ,kG,SN (λd hd=>a d (aX _ hd)) f];rfl
theorem jc.oY{h:ah}{e:Nat->Int}(d:jc h e):jc (oY h) e:=by
 have u:=yu h h.length;have q:∀(b:Nat)(c:dz),h[b]? =some c->c.bX≠0->b<lL h h.length:=λb c a i=>
  fQ λv=>i (ys h h.length b c V (bC a) a)
 have k:∀(b:Nat)(c:dz),(Go.Proofs.YtbbbdejieenniaaGreat.oY h)[b]? =some c->h[b]? =some c:=λb c a=>by
  unfold Go.Proofs.YtbbbdejieenniaaGreat.oY at a;have:=bC a;rw[qZ]at this;rwa[qe V]at a
 have l:∀b,iL h b->iL (Go.Proofs.YtbbbdejieenniaaGreat.oY h) b:=λb⟨c,a,j⟩=>⟨c,by
  unfold Go.Proofs.YtbbbdejieenniaaGreat.oY;rw[qe (q b c a V)];exact a,j⟩
 have s:∀b,qN (Go.Proofs.YtbbbdejieenniaaGreat.oY h) b=qN h b:=λb=>by
  have m:h=Go.Proofs.YtbbbdejieenniaaGreat.oY h++h.drop (lL h h.length):=(jW _ _).symm;have n:qN (h.drop (lL h h.length)) b=0:=SN (λc a=>by
   let⟨o,g⟩:=db.1 a;rw[rT]at g;have i:=ys h h.length _ c V (bC g) g;exact((d.iF c (ba g)).PK V).2.2 i) b
  have o:=jR (λg=>qN g b) m;simp only[EY,n]at o;omega
 refine⟨λc a=>?_,?_,λf c a j=>?_,d.nn,λf p=>l f (d.lv f p)⟩
 .let⟨b,g⟩:=db.1 a;exact(d.iF c (ba (k b c g))).aP λ_ w _ _ r=>l _ r
 .let⟨t,r⟩:=d.IU;exact⟨t,λg c a=>r g c (k g c a)⟩
 .rw[s];exact d.ex f c (k f c a) j
end
section
variable{i x v:Int}{k:Nat}{c:cO}{f:bS}{s:St}
theorem jJ{l:ab}(b:0<=i)(c:i<l.length):l[i.toNat]? =some (br l i):=by
 let⟨x,a⟩:=dY l i.toNat;simp[br,a]
theorem XV{l:ab}(h:l[k]? =some x):br l k=x:=by simp[br,h]
theorem IV{l:ab}(h:l[i.toNat]? =some x):br l i=x:=by simp[br,h]
theorem gZ{l:ab}(a:0<=i)(b:i<l.length):br l i∈l:=kE (jJ a b)
theorem jE{l:ab}:(iv l i v).length=l.length:=by simp[iv]
def uf{l:ab}(h:x∈iv l i v):x=v\/x∈l:=by
 rcases iX h with h|h
 .exact bH h
 .exact bz h
def Fe(l:ab)(i v:Int)(k:Nat):(iv l i v)[k]? =if k=i.toNat/\k<l.length then some v else l[k]? :=by
 unfold iv;by_cases h:k=i.toNat
 .subst h;by_cases a:i.toNat<l.length
  .rw[fy a,a8 ⟨O,a⟩]
  .rw[aV V,ab0 V]
 .rw[aV V,jf (λe=>h e.symm)]
theorem ng{l:ab}(a:0<=i)(b:i<l.length)(j:Int)(c:0<=j):br (iv l i v) j=if j=i then v else br l j:=by
 unfold br;rw[fG,fG,Fe];by_cases h:j=i
 .subst h;rw[a8 O,a8 ⟨O,V⟩];rfl
 .rw[aV h,aV V]
def Mz:∀(aU bF:ab)(k:Nat)(w o e d:Int)(a:Nat),aU[k]? =some e->bF[k]? =some d->
 jk (aU.set k w) (bF.set k o) a=jk aU bF a -(if e=1000+(a:Int)then d else 0)+(if w=1000+(a:Int)then o else 0)
 |[],bF,k,w,o,e,d,a,b,c=>by simp at b
 |r::f,[],k,w,o,e,d,a,b,c=>by simp at c
 |r::f,q::g,0,w,o,e,d,a,b,c=>by
  simp at b c;subst b;subst c;simp only[np,jk];omega
 |r::f,q::g,k+1,w,o,e,d,a,b,c=>by
  have:=Mz f g k w o e d a (sp b) (sp c);simp only[wG,jk,this];omega
def aaL{l:ab}(h:l[k]? =some x):l.set k x=l:=by
 apply eA;intro i;by_cases a:k=i
 .subst a;rw[fy (bC h),h]
 .rw[jf a]
def My{aU bF:ab}{r:Int}(c:0<=r)(d:r<aU.length)(e:r<bF.length)(o:Int)(a:Nat):
 jk aU (iv bF r o) a=jk aU bF a+(if br aU r=1000+(a:Int)then o -br bF r else 0):=by
 have b:=jJ c d
 have:=Mz aU bF r.toNat (br aU r) o _ _ a b (jJ c e)
 rw[aaL b]at this
 rw[iv,this];split<;>omega
def SK{aU bF:ab}{r:Int}(b:0<=r)(c:r<aU.length)(d:r<bF.length)(e:br bF r=0)(w o:Int)(a:Nat):
 jk (iv aU r w) (iv bF r o) a=jk aU bF a+(if w=1000+(a:Int)then o else 0):=by
 have:=Mz aU bF r.toNat w o _ _ a (jJ b c) (jJ b d)
 rw[iv,iv,this,e];split<;>omega
def AM:∀{aU bF:ab},(∀o∈bF,0<=o)->∀a,0<=jk aU bF a
 |[],bF,h,a=>by cases bF<;>simp[jk]
 |r::b,[],h,a=>by simp[jk]
 |r::b,o::d,h,a=>by
  have:=AM (aU:=b) (bF:=d) (λx c=>h x (aX _ c)) a;have:=h o cQ;simp only[jk];split<;>omega
def xY:∀{aU bF:ab},Em bF->∀a,jk aU bF a=0
 |[],bF,h,a=>by cases bF<;>simp[jk]
 |r::b,[],h,a=>by simp[jk]
 |r::b,o::d,h,a=>by
  have:=xY (aU:=b) (bF:=d) (λx c=>h x (aX _ c)) a;have:=h o cQ;simp only[jk,this];split<;>omega
def KV:∀{c o1:ab}(b o2:ab),c.length=o1.length->∀a,jk (c++b) (o1++o2) a=jk c o1 a+jk b o2 a
 |[],[],b,o2,_,a=>by simp[jk]
 |[],_::_,_,_,h,_=>by simp at h
 |_::_,[],_,_,h,_=>by simp at h
 |r::e,o::d,b,o2,h,a=>by
  have:=KV (c:=e) (o1:=d) b o2 (sp h) a;simp only[eN,jk,this];omega
def Qu:∀{aU bF:ab}{k:Nat}{w o:Int}(_:∀o∈bF,0<=o)(_:aU[k]? =some w)(_:bF[k]? =some o){c:Nat}(_:w=1000+(c:Int)),o<=jk aU bF c
 |[],_,_,_,_,_,a,_,_,_=>by simp at a
 |_::_,[],_,_,_,_,_,b,_,_=>by simp at b
 |r::h,q::g,0,w,o,d,a,b,c,e=>by
  simp at a b;subst a;subst b;have:=AM (aU:=h) (bF:=g) (λx f=>d x (aX _ f)) c;simp only[jk,a8 e];omega
 |r::h,q::g,k+1,w,o,d,a,b,c,e=>by
  have:=Qu (aU:=h) (bF:=g) (k:=k) (λx f=>d x (aX _ f)) (sp a) (sp b) e;have:=d q cQ;simp only[jk];split<;>omega
def jP:∀(l r:aj)(a:Nat),oO (l++r) a=oO l a+oO r a
 |[],r,a=>by simp[oO]
 |f::l,r,a=>by simp only[eN,oO,jP l r a];omega
theorem oP(f:bS)(a:Nat):oO [f] a=jk f.aU f.bF a:=by simp[oO]
def iZ:∀(l r:aj)(a:Nat),gP (l++r) a=gP l a+gP r a
 |[],r,a=>by simp[gP]
 |f::l,r,a=>by simp only[eN,gP,iZ l r a];omega
def mI(f:bS)(a:Nat):gP [f] a=kG f.cL a:=by simp[gP]
def EC:∀(l:aj)(a:Nat),0<=gP l a
 |[],a=>by simp[gP]
 |f::l,a=>by have:=EC l a;have:=nj f.cL a;simp only[gP];omega
theorem mz(aU:ab):∀(a bF:ab),(bZ aU bF a).length=bF.length
 |[],bF=>O
 |r::a,bF=>by simp only[bZ];rw[mz aU a];split<;>simp[jE]
def CG{aU:ab}:∀(b bF:ab),(∀r∈b,0<=r/\r<aU.length)->aU.length=bF.length->∀a,jk aU (bZ aU bF b) a=jk aU bF a -kG (b.map (br aU)) a
 |[],bF,_,_,a=>by simp[bZ,kG]
 |r::b,bF,h,c,a=>by
  have e:=h r cQ;have f:=λbF c=>CG (aU:=aU) b bF (λx d=>h x (aX _ d)) c a;simp only[bZ,eP,kG];by_cases d:1000<=br aU r
  .rw[a8 d,f _ (by rw[jE];exact c),My e.1 e.2 V];split<;>omega
  .rw[aV d,f _ c,aV V];omega
def oB{aU:ab}:∀(b bF:ab)(k:Nat)(o:Int),(bZ aU bF b)[k]? =some o->∃q,bF[k]? =some q/\o<=q
 |[],bF,k,o,h=>⟨o,h,dN _⟩
 |r::b,bF,k,o,h=>by
  simp only[bZ]at h;let⟨q,a,d⟩:=oB b _ k o h;split at a
  .rw[Fe]at a;split at a
   .rename_i c;let⟨y,e⟩:=jq c.2;have f:br bF r=y:=by rw[br,fG,<-c.1,e];rfl
    simp at a;exact⟨y,e,V⟩
   .exact⟨q,a,d⟩
  .exact⟨q,a,d⟩
theorem vD:∀(a bF:ab),(fj bF a).length=bF.length
 |[],bF=>O
 |r::a,bF=>by simp only[fj];rw[vD a,jE]
def Ku{aU:ab}:∀(b bF:ab),(∀r∈b,0<=r/\r<aU.length)->aU.length=bF.length->∀a,jk aU (fj bF b) a=jk aU bF a+kG (b.map (br aU)) a
 |[],bF,_,_,a=>by simp[fj,kG]
 |r::b,bF,h,d,a=>by
  have c:=h r cQ;simp only[fj,eP,kG];rw[Ku (aU:=aU) b _ (λx e=>h x (aX _ e)) (by rw[jE];exact d) a,My c.1 c.2 V];split<;>omega
def PB{aU:ab}:∀(c bF:ab),(∀r∈c,0<=r/\r<bF.length/\1000<=br aU r)->
 (∀(k:Nat)(o w:Int),bF[k]? =some o->aU[k]? =some w->0<=o/\(0<o->1000<=w))->∀(k:Nat)(o w:Int),(fj bF c)[k]? =some o->aU[k]? =some w->0<=o/\(0<o->1000<=w)
 |[],bF,_,h,k,o,w,a,b=>h k o w a b
 |r::c,bF,f,h,k,o,w,a,b=>by
  refine PB (aU:=aU) c (iv bF r (br bF r+1)) (λx d=>by rw[jE];exact f x (aX _ d)) (λk o w a b=>?_) k o w a b;rw[Fe]at a;split at a
  .rename_i e;have d:=f r cQ;have g:br aU r=w:=by rw[br,fG,<-e.1,b];rfl
   have i:=h k (br bF r) w (by rw[e.1];exact jJ d.1 d.2.1) b;simp at a;exact⟨V,λ_=>V⟩
  .exact h k o w a b
def jy(h:ah)(a:Nat):Prop:=∃c,h[a]? =some c/\c.bX<0
@[grind cases] structure gB (im:cO) (f:bS):Prop where
 fN:0<=f.fN/\f.fN<im.cU.length
 pc:0<=f.pc/\f.pc<(dE im f.fN).cD.length
 lr:(f.aU.length:Int)=(dE im f.fN).aU
 lo:(f.bF.length:Int)=(dE im f.fN).aU
 lh:(f.cL.length:Int)=(dE im f.fN).aU
 ZF:∀w∈f.aU,mV w\/1000<=w
 bF:∀(k:Nat)(o w:Int),f.bF[k]? =some o->f.aU[k]? =some w->0<=o/\(0<o->1000<=w)
 cL:∀w∈f.cL,w=0\/1000<=w
@[grind cases] structure eJ (im:cO) (s:St):Prop where
 iu:gL im
 dx:0<=s.dx/\s.dx<=3
 cB:s.dx=0<->s.bo=[]
 kY:mV s.kY
 Nw:s.kY≠0->s.dx=0
 df:0<=s.df/\s.df<=40
 dv:0<=s.dv/\s.dv<=s.df
 eG:(s.bo.length:Int)<=s.dv+1
 cJ:∀n∈s.cJ,mV n
 aR:jc s.aR (oO s.bo)
 nW:rh s.aR
 bo:∀f∈s.bo,gB im f
 first:∀f,s.bo[0]? =some f->f.bA=0
 tX:∀(k:Nat)(f g:bS),s.bo[k]? =some f->s.bo[k+1]? =some g->0<=g.bA/\g.bA<f.bF.length/\br f.bF g.bA=0
 eM:∀a,jy s.aR a->gP s.bo a=1
 uC:∀a,¬jy s.aR a->gP s.bo a=0
def gB.NV(h:gB c f):∀o∈f.bF,0<=o:=λo b=>by
 let⟨k,a⟩:=db.1 b;have e:=bC a;have:=h.lo;have:=h.lr;let⟨w,d⟩:=dY f.aU k;exact(h.bF k o w a d).1
def KW{c:cO}:∀{b:aj},(∀f∈b,gB c f)->∀a,0<=oO b a
 |[],_,a=>by simp[oO]
 |f::b,h,a=>by
  have:=KW (λg d=>h g (aX _ d)) a;have:=AM (aU:=f.aU) (h f cQ).NV a;simp only[oO];omega
def eJ.split(h:eJ c s)(b:s.dx=3):∃a f,s.bo=a++[f]:=by
 have:s.bo≠[]:=λe=>by have:=h.cB.2 e;omega
 exact⟨s.bo.dropLast,s.bo.getLast this,(sE this).symm⟩
theorem gB.AJ(j:gL c)(h:gB c f):∃p,c.cU[f.fN.toNat]? =some p/\dE c f.fN=p/\nH c p/\p.cD[f.pc.toNat]? =some (bK c f)/\iJ c p f.pc.toNat (bK c f):=by
 let⟨p,b⟩:=dY c.cU f.fN.toNat (oh h.fN);have e:dE c f.fN=p:=by simp[dE,b]
 have g:=j.eR p (ba b);have k:=h.pc;rw[e]at k;let⟨i,a⟩:=dY p.cD f.pc.toNat;have d:bK c f=i:=by simp[bK,e,a]
 exact⟨p,b,e,g,d▸a,d▸g.eR _ _ a⟩
def ZH(l:aj):Prop:=∀(k:Nat)(f g:bS),l[k]? =some f->l[k+1]? =some g->0<=g.bA/\g.bA<f.bF.length/\br f.bF g.bA=0
section
variable{l r d:aj}{a b:bS}
def ZH.Dr(h:ZH (l++[a]))(e:b.bA=a.bA):ZH (l++[b]):=λk p q c d=>by
 have:=h k;grind
def ZH.iA(h:ZH (l++[a]))(e:0<=b.bA/\b.bA<a.bF.length/\br a.bF b.bA=0):ZH (l++[a,b]):=λk p q c d=>by
 have:=h k;grind
def ZH.rG(h:ZH (l++[a]++[b])):ZH (l++[a]):=λk p q c d=>by
 have:=h k;grind
def PV(h:∀x,(l++a::r)[0]? =some x->x.bA=0)(e:b.bA=a.bA)(x:bS)(c:(l++b::d)[0]? =some x):x.bA=0:=by
 cases l<;>grind
end
def eJ.jA(h:eJ c s)(r:s.dx=3){b:aj}{g:bS}(e:s.bo=b++[f]){d:ah}{cJ:ab}(q:gB c g)(hd:g.bA=f.bA)
 (k:jc d (oO (b++[g])))(n:rh d)(l:∀a,jy d a->gP (b++[g]) a=1)(o:∀a,¬jy d a->gP (b++[g]) a=0)(m:∀a∈cJ,mV a){dv:Int}(j:s.dv<=dv/\dv<=s.df):
 eJ c {s with aR:=d,cJ:=cJ,dv:=dv,bo:=b++[g]}:=by
 have p:=h.dv
 have a:=h.eG
 rw[e]at a
 refine⟨h.iu,h.dx,⟨λi=>by simp at i;omega,sx⟩,h.kY,h.Nw,h.df,⟨by simp only[];omega,j.2⟩,by simp at a⊢;omega,m,k,n,λt i=>?_,PV (e▸h.first) hd,ZH.Dr (e▸h.tX) hd,l,o⟩
 grind [eJ.bo,List.mem_append_left]
end
section
variable{h:ah}{a:Nat}{c d:dz}{w:Int}{e e':Nat->Int}
def jy.ne{b:Nat}(d:b≠a):jy (h.set a c) b<->jy h b:=by grind [jy,po]
def jy.Hk(hd:h[a]? =some d):jy (h.set a c) a<->c.bX<0:=by grind [jy,lA]
theorem jy.eE(hd:h[a]? =some d)(g:0<=d.bX)(i:0<=c.bX)(b:Nat):jy (h.set a c) b<->jy h b:=by
 by_cases f:b=a
 .subst f;rw[jy.Hk hd];refine⟨λj=>V,λ⟨e,l,k⟩=>?_⟩;grind
 .exact jy.ne f
def jy.aaT(b:jy h a):¬iL h a:=λ⟨c,e,g⟩=>by
 let⟨d,hd,f⟩:=b;grind
theorem jy.iQ(c:iR h w)(b:Nat):jy (iQ h w) b<->jy h b:=by
 let⟨a,d⟩:=dL c;exact jy.eE a V cC b
def jy.pU(c:iR h w)(b:Nat):jy (pU h w) b<->jy h b:=by
 let⟨a,d⟩:=dL c;exact jy.eE a V cC b
def jy.Xa(a:iR h w)(b:Nat):jy (h.set (ix w) kV) b<->jy h b:=by
 let⟨c,d⟩:=dL a;grind [jy.eE,kV]
theorem jy.ju:∀(n:Nat)(h:ah)(i:ab),Es h+i.length<=n->∀b,jy (ju h i) b<->jy h b
 |n,h,[],_,b=>by rw[uT]
 |0,h,w::r,c,b=>by simp at c
 |n+1,h,w::r,c,b=>by
  simp only[dD]at c;rcases fS (iR h w)with a|a
  .let⟨f,g⟩:=dL a;by_cases d:(bu h w).bX=1
   .have e:=mq (d:=kV) f;simp only[a8 g,kV]at e;simp at e;rw[uU a d,jy.ju n _ _ (by simp[kV];omega) b,jy.Xa a]
   .have e:=mq (d:={bu h w with bX:=(bu h w).bX -1}) f;simp only[a8 g]at e;rw[a8 V]at e;rw[sO a d,jy.ju n _ _ (by simp only[Go.Proofs.YtbbbdejieenniaaGreat.iQ];omega) b,jy.iQ a]
  .rw[sP a,jy.ju n _ _ V b]
theorem jy.oY{h:ah}(b:Nat):jy (oY h) b<->jy h b:=by
 grind [yu,List.length,jy,oY,bC,List.length_take,List.getElem?_take_of_lt,ys]
def jc.pU(c:jc h e)(d:iR h w)(i:(bu h w).bX<999999)(g:∀b,e' b=e b+if b=ix w then 1 else 0):jc (pU h w) e':=by
 let⟨a,f⟩:=dL d;refine c.Pe a f V V (λb=>?_) ?_
 .grind
 .grind [ix]
def UR(a:iR h w){v:Int}(c:1000<=v):(bu (pU h w) v).bX=(bu h v).bX+(if v=w then 1 else 0):=by
 let⟨d,f⟩:=dL a;unfold pU;by_cases e:v=w
 .grind [bu,lA]
 .rw[aV e];conv=>lhs;unfold bu
  rw[po (λb=>e (Xf c a.1 b))];simp[bu]
theorem iL.pU{h:ah}{w:Int}(a:iR h w){b:Nat}:iL (pU h w) b<->iL h b:=by
 let⟨c,d⟩:=dL a;by_cases e:b=ix w
 .subst e;unfold Go.Proofs.YtbbbdejieenniaaGreat.pU;rw[iL.Hk c];exact⟨λ_=>a.2,λ_=>by simp only[];omega⟩
 .exact iL.ne e
def mg(a:1000<=w)(r:ab)(b:Nat):kG (w::r) b=(if b=ix w then 1 else 0)+kG r b:=by
 grind [kG,nK,ix,EO]
def jc.kO:∀(a:ab)(h:ah)(e e':Nat->Int),jc h e->(∀w∈a,iR h w/\(bu h w).bX+kG a (ix w)<=999999)->(∀b,e' b=e b+kG a b)->jc (kO h a) e'/\(∀b,jy (kO h a) b<->jy h b)/\(kO h a).length=h.length
 |[],h,e,e',i,_,g=>⟨i.congr λb=>by rw[g];simp[kG],λ_=>Nz,O⟩
 |w::a,h,e,e',i,k,g=>by
  let⟨c,p⟩:=k w cQ;rw[mg c.1,a8 O]at p;have:=nj a (ix w);let⟨m,n,o⟩:=jc.kO a (Go.Proofs.YtbbbdejieenniaaGreat.pU h w) (λb=>e b+if b=ix w then 1 else 0) e' (i.pU c V λb=>O) (λv q=>by
   let⟨d,j⟩:=k v (aX _ q);refine⟨⟨d.1,(iL.pU c).2 d.2⟩,?_⟩;rw[UR c d.1];rw[mg c.1]at j;split
   .rename_i f;subst f;rw[a8 O]at j;omega
   .rename_i f;rw[aV (λl=>f (Xf d.1 c.1 l))]at j;omega) (λb=>by rw[g,mg c.1];omega)
  refine⟨m,λb=>by rw[Go.Proofs.YtbbbdejieenniaaGreat.kO,n,jy.pU c],by rw[Go.Proofs.YtbbbdejieenniaaGreat.kO,o];simp[Go.Proofs.YtbbbdejieenniaaGreat.pU]⟩
theorem nU{l:ab}:w∈oF l<->w∈l/\1000<=w:=by simp[oF]
theorem jc.iK{h:ah}{e e':Nat->Int}(j:jc h e){w:Int}(o:iR h w)(H:0<e (ix w))(t:(bu h w).bX=1\/oJ h (bu h w).bV)
 (A:∀b,e' b=e b -(if b=ix w then 1 else 0)+kG (bu h w).bV b)(K:rh h):jc (iK h w) e'/\(∀b,jy (iK h w) b<->jy h b)/\rh (iK h w):=by
 let⟨g,J⟩:=dL o
 unfold Go.Proofs.YtbbbdejieenniaaGreat.iK
 by_cases r:(bu h w).bX=1
 .rw[a8 r]
  exact⟨(j.Xa g r H (c':=kV) cH cH O (by simp[kV]) (by simp[kV]) (λ_=>O) A).oY,λb=>by rw[jy.oY,jy.Xa o],LU⟩
 .rw[aV r]
  have t:oJ h (bu h w).bV:=by rcases t with m|m;exact absurd m r;exact m
  have R:=(j.iF _ (ba g)).hi
  have I:jc (Go.Proofs.YtbbbdejieenniaaGreat.iQ h w) (λb=>e b -if b=ix w then 1 else 0):=j.Pe g J V V (λb=>by split<;>omega) fu
  have u:∀b,iL h b->iL (Go.Proofs.YtbbbdejieenniaaGreat.iQ h w) b:=λb f=>by
   by_cases k:b=ix w
   .subst k;unfold Go.Proofs.YtbbbdejieenniaaGreat.iQ;rw[iL.Hk g];simp only[];omega
   .exact(iL.ne k).2 f
  let⟨m,y,z⟩:=jc.kO (oF (bu h w).bV) _ _ e' I (λv x=>by
   let⟨s,p⟩:=nU.1 x;have a:=j.qj (ba g) s p;refine⟨⟨a.1,u _ a.2⟩,?_⟩;have:=t v s p;rw[EU];have P:(bu (Go.Proofs.YtbbbdejieenniaaGreat.iQ h w) v).bX<=(bu h v).bX:=by
    by_cases k:ix v=ix w
    .have i:=Xf p o.1 k;subst i;unfold Go.Proofs.YtbbbdejieenniaaGreat.iQ;conv=>lhs;unfold bu
     rw[lA g];show(bu h v).bX -1<=(bu h v).bX;omega
    .unfold Go.Proofs.YtbbbdejieenniaaGreat.iQ;conv=>lhs;unfold bu
     rw[po k];exact dN _
   omega) (λb=>by rw[A,EU])
  refine⟨m,λb=>by rw[y,jy.iQ o],λc n=>?_⟩
  intro M
  rw[z]at n
  have B:(Go.Proofs.YtbbbdejieenniaaGreat.iQ h w).length=h.length:=by simp[Go.Proofs.YtbbbdejieenniaaGreat.iQ]
  rw[B]at n
  have f:=bC n
  rw[z,B]at f
  let⟨d,hd⟩:=dY h (h.length -1)
  have N:=K d hd
  have G:=j.iF d (ba hd)
  have Q:=G.lo
  rcases fS (0<d.bX)with C|C
  .have F:∀(q:ab)(l:ah),(∀v∈q,iR l v)->∀b,iL l b->iL (Go.Proofs.YtbbbdejieenniaaGreat.kO l q) b:=by
    intro q;induction q with
    |nil=>intro l _ b f;exact f
    |cons v q L=>
     intro l i b f;have a:=i v cQ;exact L _ (λE D=>⟨(i E (aX _ D)).1,(iL.pU a).2 (i E (aX _ D)).2⟩) b ((iL.pU a).2 f)
   let⟨D,i,E⟩:=F (oF (bu h w).bV) (Go.Proofs.YtbbbdejieenniaaGreat.iQ h w) (λv x=>by
    let⟨s,p⟩:=nU.1 x;have a:=j.qj (ba g) s p;exact⟨a.1,u _ a.2⟩) _ (u _ ⟨d,hd,C⟩)
   rw[n]at i;simp at i;subst i;omega
  .have l:jy h (h.length -1):=⟨d,hd,V⟩
   let⟨D,i,q⟩:=(y (h.length -1)).2 ((jy.iQ o _).2 l)
   rw[n]at i;simp at i;subst i;omega
def tv:∀(h:ah),fF h<=h.length
 |[]=>bY
 |c::h=>by have:=tv h;simp only[fF,dD];split<;>omega
def BD:∀(h:ah)(c:dz),h[fF h]? =some c->c.bX=0
 |[],c,a=>by simp[fF]at a
 |d::h,c,a=>by
  simp only[fF]at a;split at a
  .rename_i b;simp at a;subst a;exact b
  .exact BD h c (sp a)
def jc.abc(k:jc h e){t:Int}{f:ab}(s:∀w∈f,zS h w)(m:f.length<=3)(r:0<=t/\t<=99)(n:∀b,kG f b<=e b)
 (l:∀b,e' b=e b -kG f b+if b=fF h then 1 else 0)(u:rh h):
 jc (jM h (fF h) ⟨1,t,f⟩) e'/\(∀b,jy (jM h (fF h) ⟨1,t,f⟩) b<->jy h b)/\rh (jM h (fF h) ⟨1,t,f⟩):=by
 unfold jM
 have o:¬iL h (fF h):=λ⟨c,a,v⟩=>by have:=BD h c a;omega
 by_cases i:fF h=h.length
 .rw[a8 i]
  have q:(h++[⟨1,t,f⟩])[fF h]? =some ⟨1,t,f⟩:=by rw[i];simp
  have p:∀b,b≠fF h->(h++[⟨1,t,f⟩])[b]? =h[b]? :=λb g=>by
   rcases eH b h.length with j|j
   .rw[dZ j]
   .rw[lp fu,lp j]
  refine⟨k.Xg o q p (λb=>by rw[EY];simp[qN]) s m r n l,λb=>?_,λc a=>?_⟩
  .by_cases g:b=fF h
   .rw[g];unfold jy;rw[q,i];simp
   .unfold jy;rw[p b g]
  .simp at a;subst a;simp
 .rw[aV i]
  have q:fF h<h.length:=by have:=tv h;omega
  let⟨d,hd⟩:=jq q
  have j:=BD h d hd
  have p:=((k.iF d (ba hd)).PK V).2.2 j
  refine⟨k.Xg o (lA hd) (λb g=>po g) (λb=>by rw[EZ _ hd,p];simp[kG]) s m r n l,λb=>jy.eE hd V bO b,λc a=>?_⟩
  rw[Zz]at a
  by_cases g:h.length -1=fF h
  .rw[g,lA hd]at a;simp at a;subst a;simp
  .rw[po g]at a;exact u c a
end
section
variable{c:cO}{w n g j:Int}{e:ab}{s:St}{d:aj}{f:bS}
theorem vj{c:cO}{x:Instr}:∀{l:ab}{k:Nat}{r:Int},r∈je c x k l->r∈l
 |[],k,r,h=>by simp[je]at h
 |y::l,k,r,h=>by
  simp only[je]at h;split at h
  .exact aX _ (vj h)
  .rcases aZ.1 h with rfl|h
   .exact cQ
   .exact aX _ (vj h)
def ry{x:Instr}{r:Int}(h:r∈cq c x):r∈x.aO:=by
 unfold cq at h;split at h
 .exact h
 split at h
 .exact jG h
 split at h
 .exact vj h
 .simp at h
def Ew{a:af}(h:eT a)(c:Int):(da a c).length<=3:=by
 unfold da;split
 .cases g:(gU a)[c.toNat]? with
  |none=>simp
  |some f=>
   have d:=ba g;unfold gU at d;let⟨e,hd,b⟩:=List.mem_flatMap.1 d;let⟨k,i⟩:=db.1 hd;have:=(h.eR k e i).iY (adW b);exact(this.2.2.2 f b).1
 .simp
def gB.cE{c:cO}{g:bS}(h:gB c g){r w o:Int}(f:mV w\/1000<=w)(d:0<=o)(e:0<o->1000<=w):gB c (g.cE r w o):=by
 refine⟨h.fN,h.pc,by simp only[bS.cE,jE];exact h.lr,by simp only[bS.cE,jE];exact h.lo,h.lh,λy a=>?_,λk q y b a=>?_,h.cL⟩
 .rcases uf a with rfl|a
  .exact f
  .exact h.ZF y a
 .simp only[bS.cE]at b a;rw[Fe]at b a;have:=h.lr;have:=h.lo;split at b<;>split at a
  .simp at b a;subst b;subst a;exact⟨d,e⟩
  .omega
  .omega
  .exact h.bF k q y b a
def MB:0<=ig w:=by unfold ig;split<;>omega
def Jm(h:0<ig w):1000<=w:=by unfold ig at h;split at h<;>omega
def BY(w:Int)(b:Nat):(if w=1000+(b:Int)then ig w else 0)=kG [w] b:=by
 simp only[kG,ig];split
 .rw[a8 V];rfl
 .rfl
def Mf:mV (Kx n):=by unfold Kx mV;split<;>(try split)<;>omega
def Qw(c a b:Int):mV (TX c a b):=by
 unfold TX;split
 .exact Mf
 split
 .exact Mf
 split
 .exact Mf
 split<;>(unfold mV;omega)
theorem mh(cW:ab):∀(e:ab)(k:Nat),(fK cW k e).length=e.length
 |[],k=>O
 |w::e,k=>by simp only[fK,dD,mh cW e]
def NX(cW:ab):∀(e:ab)(k j:Nat)(o w:Int),(fK cW k e)[j]? =some o->e[j]? =some w->0<=o/\(0<o->1000<=w)
 |[],k,j,o,w,_,h=>by simp at h
 |v::e,k,0,o,w,a,b=>by
  simp[fK]at a b;subst b;split at a
  .subst a;omega
  .subst a;exact⟨MB,Jm⟩
 |v::e,k,j+1,o,w,a,b=>NX cW e (k+1) j o w (by simpa[fK]using a) (sp b)
theorem lX(n:Nat):(eU n).length=n:=by simp[eU]
theorem pQ{n:Nat}(h:w∈eU n):w=0:=abY h
def zj{p:dS}(m:gL c)(l:0<=g)(h:c.cU[g.toNat]? =some p)(q:e.length=p.aY.length)(n:∀w∈e,mV w\/1000<=w):gB c (ct c g j e):=by
 have d:dE c g=p:=by simp[dE,h]
 have i:=m.eR p (ba h);have t:=i.aU;have r:=i.aT;have s:=bC h;refine⟨⟨l,by simp only[ct];omega⟩,⟨by simp[ct],by simp only[ct,d];omega⟩,?_,?_,?_,λw a=>?_,λk o w b a=>?_,λw a=>bz (pQ a)⟩
 .simp only[ct,d,dC,lX];omega
 .simp only[ct,d,dC,lX,mh];omega
 .simp only[ct,d,lX];omega
 .simp only[ct]at a;rcases bT.1 a with a|a
  .exact n w a
  .rw[pQ a];exact bz (by unfold mV;omega)
 .simp only[ct]at b a;rcases eH k e.length with f|f
  .rw[dZ (by rw[mh];exact f)]at b;rw[dZ f]at a;exact NX _ e 0 k o w b a
  .rw[dQ (by rw[mh];exact f)]at b;rw[pQ (kE b)];omega
theorem vv(c:cO)(g j:Int)(e:ab)(b:Nat):jk (ct c g j e).aU (ct c g j e).bF b=jk e (fK (dE c g).cW 0 e) b:=by
 simp only[ct];rw[KV _ _ (mh _ _ _).symm,xY (λn a=>pQ a)];omega
def ug(b:Nat):gP [ct c g j e] b=0:=by
 rw[mI];exact Zh
def MA{c:cO}{d:Instr}(f:bS):∀(e:ab)(k:Nat)(b:Nat),jk (dR f e) (fK (dE c d.cG).cW k (dR f e)) b=kG ((je c d k e).map (br f.aU)) b
 |[],k,b=>by simp[dR,jk,je,kG]
 |r::h,k,b=>by
  have g:=MA (c:=c) (d:=d) f h (k+1) b;simp only[dR,eP,fK,jk,je]at g⊢;rw[g];by_cases a:jv c d k=true
  .rw[a8 a];unfold jv at a;rw[a8 a];split<;>omega
  .rw[aV a];unfold jv at a;rw[aV a];simp only[eP,kG];have:=BY (br f.aU r) b;simp only[kG]at this;omega
def NY:∀(e:ab)(k:Nat)(b:Nat),jk e (fK [] k e) b=kG e b
 |[],k,b=>by simp[jk,kG]
 |w::e,k,b=>by
  have:=NY e (k+1) b;have a:=BY w b;simp only[kG]at a;simp only[fK,jk,kG,this,Wg,rS,mD];omega
def eJ.uX{e:ah}{g:bS}(i:eJ c s)(l:s.bo=d++[f])(m:g.cL=f.cL)(j:∀b,jy e b<->jy s.aR b):
 (∀a,jy e a->gP (d++[g]) a=1)/\(∀a,¬jy e a->gP (d++[g]) a=0):=by
 have h:∀a,gP (d++[g]) a=gP s.bo a:=λa=>by rw[l,iZ,iZ,mI,mI,m]
 exact⟨λa b=>by rw[h];exact i.eM a ((j a).1 b),λa b=>by rw[h];exact i.uC a λk=>b ((j a).2 k)⟩
def TQ:∀{l:ab}{k:Nat}{v:Int}(w:Int)(b:Nat),l[k]? =some v->kG (l.set k w) b=kG l b -(if v=1000+(b:Int)then 1 else 0)+(if w=1000+(b:Int)then 1 else 0)
 |[],k,v,w,b,h=>by simp at h
 |y::l,0,v,w,b,h=>by simp at h;subst h;simp only[np,kG];omega
 |y::l,k+1,v,w,b,h=>by have:=TQ w b (sp h);simp only[wG,kG,this];omega
def rh.eE{h:ah}{a:Nat}{c:dz}(t:rh h)(b:c.bX≠0):rh (h.set a c):=by
 grind [rh]
def TS{b:Nat}(h:1000<=w):(if w=1000+(b:Int)then n else 0)=if b=ix w then n else 0:=by grind [nK,EO]
def VX{l:ab}(h:1<=l.length):l.take 1=[br l 0]:=by
 cases l with
 |nil=>simp at h
 |cons v l=>rfl
def Xl(j:eJ c s)(P:s.dx=3)(u:s.bo=d++[f])
 (I:iN c s f (bK c f) (bZ f.aU f.bF (cq c (bK c f))))(a3:¬(ms (bK c f).op/\s.dv=s.df)):
 eJ c (dI c s d f (bK c f) (bZ f.aU f.bF (cq c (bK c f)))):=by
 have E:gB c f:=j.bo f (by rw[u];simp)
 let⟨Z,hp,aj,hP,aJ,hI⟩:=E.AJ j.iu
 generalize bK c f=x at*
 have⟨lr,lo,lh⟩:(f.aU.length:Int)=Z.aU/\(f.bF.length:Int)=Z.aU/\(f.cL.length:Int)=Z.aU:=⟨aj▸E.lr,aj▸E.lo,aj▸E.lh⟩
 have aa:∀p∈x.aO,0<=p/\p<f.aU.length:=λp q=>by have:=hI.aO p q;omega
 have aH:∀m∈cq c x,0<=m/\m<f.aU.length:=λm P=>aa m (ry P)
 have a_:=CG (aU:=f.aU) (cq c x) f.bF aH V
 have a9:=mz f.aU (cq c x) f.bF
 have a7:=oB (aU:=f.aU) (cq c x) f.bF
 generalize bZ f.aU f.bF (cq c x)=bF at*
 have ay:∀M∈d,gB c M:=λM J=>j.bo M (by rw[u];exact dO _ J)
 have ac:∀e,0<=oO d e+jk f.aU bF e:=λe=>by
  have:=KW ay e;have:=AM (aU:=f.aU) I.nn e;omega
 have C:jc s.aR (λe=>oO d e+jk f.aU bF e+kG ((cq c x).map (br f.aU)) e):=j.aR.congr λe=>by
  rw[u,jP,oP,a_];omega
 have aS:∀L:Int,0<=L->L<Z.cD.length->gB c {f with bF:=bF,pc:=L}:=λL h0 k=>
  ⟨E.fN,⟨h0,by rw[aj];exact k⟩,E.lr,by simp only[a9];exact E.lo,E.lh,E.ZF,λX Y w T o=>by
   let⟨M,J,y⟩:=a7 X Y T;have z:=E.bF X M w J o;exact⟨I.nn Y (kE T),λv=>z.2 V⟩,E.cL⟩
 have aw:=j.first
 have au:ZH s.bo:=j.tX
 rw[u]at aw au
 have bb:=E.pc
 rw[aj]at bb
 have aP:x.op≠23->x.op≠24->f.pc+1<Z.cD.length:=λk z=>by
  rcases fS (f.pc+1<Z.cD.length)with D|D
  .exact D
  .have R:f.pc.toNat=Z.cD.length -1:=V;rw[R]at aJ;have:=hP.Dr x aJ;omega
 have W:x.op≠23->x.op≠24->gB c {f with bF:=bF,pc:=f.pc+1}:=λk z=>aS _ V (aP k z)
 have ae:∀m:Int,0<=m->m<f.aU.length->mV (br f.aU m)\/1000<=br f.aU m:=λm h0 k=>E.ZF _ (gZ h0 k)
 have aN:∀m:Int,0<=m->m<f.aU.length->br f.aU m<1000->mV (br f.aU m):=λm h0 k z=>by rcases ae m h0 k with D|D;exact D;omega
 have av:=hI.bA
 have aK:kT x.op->br bF x.bA=0:=λK=>by
  have k:=I.bA K;have z:=I.nn _ (gZ (l:=bF) av.1 V);omega
 have bd:∀m∈cq c x,zS s.aR (br f.aU m):=λm aT=>by
  have aW:=aH m aT;rcases ae m aW.1 aW.2 with D|D
  .exact bz D
  .refine bH ⟨D,C.lv _ ?_⟩;have:=ac (ix (br f.aU m));have:=zk (l:=(cq c x).map (br f.aU)) (f:=ix (br f.aU m)) (by rw[nK D];exact fA.2 ⟨m,aT,O⟩);omega
 have al:∀(L:Int)(aL:ab)(w Y:Int),kT x.op->∀e,oO (d++[bS.cE {f with bF:=bF,pc:=L,cL:=aL} x.bA w Y]) e=oO d e+jk f.aU bF e+(if w=1000+(e:Int)then Y else 0):=λL aL w Y K e=>by
  rw[jP,oP];simp only[bS.cE];rw[SK av.1 V V (aK K)];omega
 have ap:∀(w:Int)(cJ:ab),kT x.op->x.op≠23->x.op≠24->cq c x=[]->(mV w\/1000<=w)->(∀n∈cJ,mV n)->eJ c {s with cJ:=cJ,bo:=d++[bS.cE {f with bF:=bF,pc:=f.pc+1} x.bA w 0]}:=λw cJ K k z v o T=>by
  let⟨F,N⟩:=j.uX u (g:=bS.cE {f with bF:=bF,pc:=f.pc+1} x.bA w 0) O (λe=>Nz);refine j.jA P u (hd:=O) ((W k z).cE o (dN _) (λD=>V)) (C.congr λe=>?_) j.nW F N T (dv:=s.dv) ⟨dN _,j.dv.2⟩;rw[al _ _ _ _ K,v];simp[kG]
 have ar:∀L:Int,0<=L->L<Z.cD.length->cq c x=[]->eJ c {s with bo:=d++[{f with bF:=bF,pc:=L}]}:=λL h0 k v=>by
  let⟨F,N⟩:=j.uX u (g:={f with bF:=bF,pc:=L}) O (λe=>Nz);refine j.jA P u (hd:=O) (aS L h0 k) (C.congr λe=>?_) j.nW F N j.cJ (dv:=s.dv) ⟨dN _,j.dv.2⟩;rw[jP,oP,v];simp[kG]
 have y:=hI.op
 unfold kQ at y
 by_cases e0:x.op=0
 .simp(disch:=omega) only[dI,aV,a8]at y⊢
  exact ap _ _ (by unfold kT;omega) V V (by simp[cq,e0]) (bz y.2) j.cJ
 by_cases e1:x.op=1\/x.op=2\/x.op=3\/x.op=4
 .simp(disch:=omega) only[dI,aV,a8]
  exact ap _ _ (by unfold kT;omega) V V (by simp(disch:=omega) only[cq,aV]) (bz (Qw _ _ _)) j.cJ
 have af:1<=x.aO.length->0<=br x.aO 0/\br x.aO 0<f.aU.length:=λk=>aa _ (gZ V V)
 by_cases e5:x.op=5
 .simp(disch:=omega) only[dI,aV,a8]at y⊢
  have q:=af V
  have ag:mV (br f.aU (br x.aO 0)):=aN _ q.1 q.2 (I.nZ V _ (gZ V V))
  refine ap _ _ (by unfold kT;omega) V V (by simp[cq,e5]) (bz ag) λn B=>?_
  rcases bT.1 B with B|B
  .exact j.cJ n B
  .simp at B;subst B;exact ag
 have aX:(cq c x=x.aO)->∀w∈dR f x.aO,zS s.aR w:=λv w o=>by
  obtain⟨m,U,rfl⟩:=fA.1 o;exact bd m (v▸U)
 have aC:∀ak,cq c x=x.aO->x.op≠23->x.op≠24->kT x.op->x.aO.length<=3->0<=ak/\ak<=99->eJ c {s with aR:=jM s.aR (fF s.aR) ⟨1,ak,dR f x.aO⟩,bo:=d++[bS.cE {f with bF:=bF,pc:=f.pc+1} x.bA (1000+fF s.aR) 1]}:=λak v k z K D aA=>by
  let⟨Q,k2,k3⟩:=C.abc (t:=ak) (f:=dR f x.aO) (e':=oO (d++[bS.cE {f with bF:=bF,pc:=f.pc+1} x.bA (1000+fF s.aR) 1])) (aX v) (by simpa[dR]using D) aA (λe=>by rw[v];have:=ac e;simp only[dR];omega) (λe=>by
   rw[al _ _ _ _ K,v];simp only[dR];have:(if(1000+(fF s.aR:Int))=1000+(e:Int)then(1:Int)else 0)=if e=fF s.aR then 1 else 0:=by
    by_cases A:e=fF s.aR
    .rw[a8 A,a8 V]
    .rw[aV A,aV V]
   rw[this];omega) j.nW
  let⟨F,N⟩:=j.uX u (g:=bS.cE {f with bF:=bF,pc:=f.pc+1} x.bA (1000+fF s.aR) 1) O k2;exact j.jA P u (hd:=O) ((W k z).cE (bH V) V (λ_=>V)) Q k3 F N j.cJ (dv:=s.dv) ⟨dN _,j.dv.2⟩
 have bh:(gU c.bR).length<=12:=by
  have:=tZ j.iu.kX.dj c.bR.length;rw[qI _ _ bY]at this;exact this
 have bj:=j.iu.kX.aT
 by_cases e6:x.op=6
 .simp(disch:=omega) only[dI,aV,a8]at y⊢
  have v:cq c x=x.aO:=by simp(disch:=omega) only[cq,aV,a8]
  have K:kT x.op:=by unfold kT;omega
  have am:x.aO.length<=3:=by rw[y.2.1];exact Ew j.iu.kX.dj _
  split
  .rename_i aB
   have G:0<=x.cR -1/\x.cR -1<f.cL.length:=V
   have hv:=E.cL _ (gZ (l:=f.cL) G.1 G.2)
   have S:1000<=br f.cL (x.cR -1):=V
   have az:0<gP s.bo (ix (br f.cL (x.cR -1))):=by
    rw[u,iZ,mI];have:=EC d (ix (br f.cL (x.cR -1)));have:=zk (l:=f.cL) (f:=ix (br f.cL (x.cR -1))) (by rw[nK S];exact gZ G.1 G.2);omega
   have ai:jy s.aR (ix (br f.cL (x.cR -1))):=fQ λB=>by have:=j.uC _ B;omega
   have ao:=j.eM _ ai
   let⟨ad,hd,aq⟩:=ai
   have ax:∀e,kG ad.bV e=0:=λe=>ui λo=>by
    have:=((C.iF ad (ba hd)).PK V).2.1 _ o;omega
   have Q:=C.Xg (t:=x.cG) (a:=dR f x.aO) (e':=oO (d++[bS.cE {f with bF:=bF,pc:=f.pc+1,cL:=iv f.cL (x.cR -1) 0} x.bA (br f.cL (x.cR -1)) 1])) (f:=ix (br f.cL (x.cR -1))) (g:=s.aR.set (ix (br f.cL (x.cR -1))) ⟨1,x.cG,dR f x.aO⟩)
    (jy.aaT ⟨ad,hd,aq⟩) (lA hd) (λe A=>po A) (λe=>by rw[EZ _ hd,ax];simp only[];omega) (aX v) (by simpa[dR]using am) V (λe=>by rw[v];have:=ac e;simp only[dR];omega) (λe=>by
     rw[al _ _ _ _ K,v];simp only[dR];rw[TS S];omega)
   have H:∀e,gP (d++[bS.cE {f with bF:=bF,pc:=f.pc+1,cL:=iv f.cL (x.cR -1) 0} x.bA (br f.cL (x.cR -1)) 1]) e=gP s.bo e -(if e=ix (br f.cL (x.cR -1))then 1 else 0):=λe=>by
    rw[u,iZ,iZ,mI,mI];simp only[bS.cE,iv];rw[TQ _ _ (jJ G.1 G.2),TS S,aV (show¬0=1000+(e:Int)by omega)];omega
   have an:gB c {f with bF:=bF,pc:=f.pc+1,cL:=iv f.cL (x.cR -1) 0}:=by
    have k:=W V V;exact⟨k.fN,k.pc,k.lr,k.lo,by simp only[jE];exact k.lh,k.ZF,k.bF,λw o=>by rcases uf o with o|o;exact bz o;exact k.cL w o⟩
   refine j.jA P u (hd:=O) (an.cE (bH S) V (λ_=>S)) Q (j.nW.eE bO) (λp q=>?_) (λp q=>?_) j.cJ (dv:=s.dv) ⟨dN _,j.dv.2⟩
   .rw[H]
    by_cases A:p=ix (br f.cL (x.cR -1))
    .subst A;rw[jy.Hk hd]at q;simp at q
    .rw[aV A];rw[jy.ne A]at q;have:=j.eM p q;omega
   .rw[H]
    by_cases A:p=ix (br f.cL (x.cR -1))
    .subst A;rw[a8 O];omega
    .rw[aV A];rw[jy.ne A]at q;have:=j.uC p q;omega
  .exact aC _ v V V K am V
 by_cases be:x.op=10
 .simp(disch:=omega) only[dI,aV,a8]at y⊢
  obtain⟨⟨M,am,ad,an⟩,_⟩:=y
  have D:=(j.iu.kX.eR M (ba ad)).1
  have:=bC ad
  exact aC _ (by simp(disch:=omega) only[cq,aV,a8]) V V (by unfold kT;omega) V (by unfold cT;omega)
 by_cases aD:x.op=14
 .simp(disch:=omega) only[dI,aV,a8]at y⊢
  have q:=af V
  have v:cq c x=[]:=by simp[cq,aD]
  let⟨B,aq⟩:=I.WQ aD
  let⟨F,N⟩:=j.uX u (g:={f with bF:=iv bF (br x.aO 0) (br bF (br x.aO 0)+1),pc:=f.pc+1}) O (λe=>jy.pU B e)
  have k:=W V V
  refine j.jA P u (hd:=O) (g:={f with bF:=iv bF (br x.aO 0) (br bF (br x.aO 0)+1),pc:=f.pc+1}) ⟨k.fN,k.pc,k.lr,by simp only[jE];exact k.lo,k.lh,k.ZF,λX Y w T o=>?_,k.cL⟩ (C.pU B aq λe=>?_) ?_ F N j.cJ (dv:=s.dv) ⟨dN _,j.dv.2⟩
  .simp only[]at T o
   rw[Fe]at T
   split at T
   .rename_i G
    simp at T
    have R:br f.aU (br x.aO 0)=w:=by rw[br,fG,<-G.1,o];rfl
    have:=I.nn _ (gZ (l:=bF) q.1 V)
    have:=B.1
    exact⟨V,λ_=>V⟩
   .exact k.bF X Y w T o
  .rw[jP,oP,v]
   simp only[]
   rw[My q.1 q.2 V]
   have G:=nK B.1
   simp only[jg,kG]
   rw[TS B.1];omega
  .let⟨S,ai⟩:=dL B
   exact j.nW.eE fu
 have aq:x.aO.length=1->x.aO=[br x.aO 0]:=λk=>by
  let⟨bl,hv⟩:=yy.1 k;rw[hv];rfl
 by_cases bf:x.op=15
 .simp(disch:=omega) only[dI,aV,a8]at y⊢
  have v:cq c x=[br x.aO 0]:=by simp(disch:=omega) only[cq,a8];exact aq V
  rw[v]at C
  have Q:=jc.ju _ s.aR [br f.aU (br x.aO 0)] (λe=>oO d e+jk f.aU bF e) bY (C.congr λe=>O) ac
  let⟨F,N⟩:=j.uX u (g:={f with bF:=bF,pc:=f.pc+1}) O (λe=>(jy.oY (h:=ju s.aR [br f.aU (br x.aO 0)]) e).trans (jy.ju _ _ _ bY e))
  exact j.jA P u (hd:=O) (W V V) (Q.oY.congr λe=>by rw[jP,oP]) LU F N j.cJ (dv:=s.dv) ⟨dN _,j.dv.2⟩
 by_cases aZ:x.op=16\/x.op=17
 .simp(disch:=omega) only[dI,aV,a8]at y⊢
  have q:=af V
  have v:cq c x=[br x.aO 0]:=by simp(disch:=omega) only[cq,aV,a8,VX]
  let⟨B,aF,ax,aO⟩:=I.AL aZ
  let⟨S,ai⟩:=dL B
  have aG:∀m∈x.aO.drop 1,0<=m/\m<bF.length/\1000<=br f.aU m:=λm U=>by
   have k:=aa m (uF U);have z:br f.aU m∈oF (bu s.aR (br f.aU (br x.aO 0))).bV:=by rw[aF];exact fA.2 ⟨m,U,O⟩
   exact⟨k.1,V,(nU.1 z).2⟩
  have k:=W V V
  have X:gB c {f with bF:=fj bF (x.aO.drop 1),pc:=f.pc+1}:=⟨k.fN,k.pc,k.lr,by simp only[vD];exact k.lo,k.lh,k.ZF,PB (aU:=f.aU) _ bF aG k.bF,k.cL⟩
  have aY:∀e,jk f.aU (fj bF (x.aO.drop 1)) e=jk f.aU bF e+kG (bu s.aR (br f.aU (br x.aO 0))).bV e:=λe=>by
   rw[Ku (aU:=f.aU) _ _ (λm U=>oh (aG m U)) V,<-EU (bu s.aR _).bV,aF];rfl
  have aB:0<oO d (ix (br f.aU (br x.aO 0)))+jk f.aU bF (ix (br f.aU (br x.aO 0)))+kG ((cq c x).map (br f.aU)) (ix (br f.aU (br x.aO 0))):=by
   rw[v];have:=ac (ix (br f.aU (br x.aO 0)));simp only[eP,jg,mg B.1,a8,kG];omega
  have az:∀e,oO d e+jk f.aU (fj bF (x.aO.drop 1)) e=(oO d e+jk f.aU bF e+kG ((cq c x).map (br f.aU)) e) -(if e=ix (br f.aU (br x.aO 0))then 1 else 0)+kG (bu s.aR (br f.aU (br x.aO 0))).bV e:=λe=>by
   rw[aY,v];simp only[eP,jg,mg B.1,kG];omega
  split
  .rename_i ao
   have aM:=aO ao.2
   have Q:=C.Xa S ao.1 aB (c':=⟨-1,0,eU (bu s.aR (br f.aU (br x.aO 0))).bV.length⟩) bO bO O (λw o=>pQ o) (by simp only[lX];exact(C.iF _ (ba S)).fl) sx (e':=oO (d++[{f with bF:=fj bF (x.aO.drop 1),pc:=f.pc+1,cL:=iv f.cL (br x.aO 0) (br f.aU (br x.aO 0))}])) (λe=>by rw[jP,oP];exact az e)
   have aI:br x.aO 0<f.cL.length:=V
   have H:∀e,gP (d++[{f with bF:=fj bF (x.aO.drop 1),pc:=f.pc+1,cL:=iv f.cL (br x.aO 0) (br f.aU (br x.aO 0))}]) e=gP s.bo e+(if e=ix (br f.aU (br x.aO 0))then 1 else 0):=λe=>by
    rw[u,iZ,iZ,mI,mI];have aE:=jJ (l:=f.cL) q.1 aI;rw[aM]at aE;simp only[iv];rw[TQ _ _ aE,TS B.1,aV V];omega
   have aQ:¬jy s.aR (ix (br f.aU (br x.aO 0))):=λF=>F.aaT B.2
   refine j.jA P u (hd:=O) (g:={f with bF:=fj bF (x.aO.drop 1),pc:=f.pc+1,cL:=iv f.cL (br x.aO 0) (br f.aU (br x.aO 0))}) ⟨X.fN,X.pc,X.lr,X.lo,by simp only[jE];exact X.lh,X.ZF,X.bF,λw o=>?_⟩ Q (j.nW.eE bO) (λp G=>?_) (λp G=>?_) j.cJ (dv:=s.dv) ⟨dN _,j.dv.2⟩
   .rcases uf o with o|o
    .rw[o];exact bH B.1
    .exact E.cL w o
   .rw[H]
    by_cases A:p=ix (br f.aU (br x.aO 0))
    .rw[a8 A,A,j.uC _ aQ];rfl
    .rw[aV A];rw[jy.ne A]at G;have:=j.eM p G;omega
   .rw[H]
    by_cases A:p=ix (br f.aU (br x.aO 0))
    .subst A;rw[jy.Hk S]at G;simp at G
    .rw[aV A];rw[jy.ne A]at G;have:=j.uC p G;omega
  .let⟨Q,k2,k3⟩:=C.iK B aB ax (e':=oO (d++[{f with bF:=fj bF (x.aO.drop 1),pc:=f.pc+1}])) (λe=>by rw[jP,oP];exact az e) j.nW
   let⟨F,N⟩:=j.uX u (g:={f with bF:=fj bF (x.aO.drop 1),pc:=f.pc+1}) O k2
   exact j.jA P u (hd:=O) X Q k3 F N j.cJ (dv:=s.dv) ⟨dN _,j.dv.2⟩
 by_cases bg:x.op=18
 .simp(disch:=omega) only[dI,aV,a8]at y⊢
  have q:=af V
  have v:cq c x=[br x.aO 0]:=by simp(disch:=omega) only[cq,a8];exact aq V
  have K:kT x.op:=by unfold kT;omega
  let⟨F,N⟩:=j.uX u (g:=bS.cE {f with bF:=bF,pc:=f.pc+1} x.bA (br f.aU (br x.aO 0)) (ig (br f.aU (br x.aO 0)))) O (λe=>Nz)
  refine j.jA P u (hd:=O) ((W V V).cE (ae _ q.1 q.2) MB Jm) (C.congr λe=>?_) j.nW F N j.cJ (dv:=s.dv) ⟨dN _,j.dv.2⟩
  rw[al _ _ _ _ K,v,BY];rfl
 by_cases aE:x.op=19
 .simp(disch:=omega) only[dI,aV,a8]at y⊢
  let⟨B,A⟩:=I.pV aE
  let⟨S,ai⟩:=dL B
  refine ap _ _ (by unfold kT;omega) V V (by simp[cq,aE]) ?_ j.cJ
  rcases((C.iF _ (ba S)).yZ ai).1 _ (gZ y.2.1 A)with z|z
  .exact bz z
  .exact bH z.1
 by_cases a0:x.op=20
 .simp(disch:=omega) only[dI,aV,a8]at y⊢
  have:=aP V V
  exact ar _ (by split<;>omega) (by split<;>omega) (by simp[cq,a0])
 by_cases aF:x.op=21
 .simp(disch:=omega) only[dI,aV,a8]at y⊢
  let⟨B,aA⟩:=I.ta aF
  have X:ua (cY c.bR x.cG) (bu s.aR (br f.aU (br x.aO 0))).jH<(cY c.bR x.cG).length:=mC ⟨_,aA,bO⟩
  let⟨ao,A⟩:=y.2.2
  have:=A _ (gZ (l:=x.fU) (i:=(ua (cY c.bR x.cG) (bu s.aR (br f.aU (br x.aO 0))).jH:Nat)) V V)
  exact ar _ V V (by simp[cq,aF])
 by_cases a1:x.op=22
 .simp(disch:=omega) only[dI,aV,a8]at y⊢
  exact ar _ V V (by simp[cq,a1])
 have aY:∀w∈dR f x.aO,mV w\/1000<=w:=λw o=>by
  obtain⟨m,U,rfl⟩:=fA.1 o;exact ae m (aa m U).1 (aa m U).2
 have az:ms x.op->s.dv<s.df:=λS=>by
  have:=j.dv;have:s.dv≠s.df:=λR=>a3 ⟨S,R⟩;omega
 have aO:∀(hp:ah),s.dv<s.df->x.op≠23->x.op≠24->∀(g:bS),gB c g->kT x.op->g.bA=x.bA->jc hp (oO (d++[{f with bF:=bF,pc:=f.pc+1},g]))->rh hp->(∀e,jy hp e<->jy s.aR e)->(∀e,gP [g] e=0)->
  eJ c {s with dv:=s.dv+1,aR:=hp,bo:=d++[{f with bF:=bF,pc:=f.pc+1},g]}:=λhp bi k z g hg K a5 hH hT hK a6=>by
  have aI:=j.dv
  have X:=j.eG
  rw[u]at X
  have H:∀e,gP (d++[{f with bF:=bF,pc:=f.pc+1},g]) e=gP s.bo e:=λe=>by
   have:=a6 e;simp only[u,iZ,gP]at this⊢;omega
  refine⟨j.iu,j.dx,⟨λR=>by simp at R;omega,sx⟩,j.kY,j.Nw,j.df,⟨by simp only[];omega,by simp only[];omega⟩,by simp at X⊢;omega,j.cJ,hH,hT,λM J=>?_,PV aw O,(au.Dr (b:={f with bF:=bF,pc:=f.pc+1}) O).iA (by rw[a5];exact⟨av.1,by simp only[];omega,aK K⟩),λp q=>by rw[H];exact j.eM p ((hK p).1 q),λp q=>by rw[H];exact j.uC p λD=>q ((hK p).2 D)⟩
  have:=W k z
  grind
 by_cases e9:x.op=9
 .simp(disch:=omega) only[dI,aV,a8]at y⊢
  let⟨M,am,ad,an⟩:=y
  have v:cq c x=je c x 0 x.aO:=by simp(disch:=omega) only[cq,aV,a8]
  refine aO s.aR (az (bz e9)) V V (ct c x.cG x.bA (dR f x.aO)) (zj j.iu am ad (by simp[dR,an]) aY) (by unfold kT;omega) O (C.congr λe=>?_) j.nW (λ_=>Nz) ug
  rw[jP,v]
  simp only[oO]
  rw[vv,MA];omega
 by_cases aG:x.op=24
 .simp(disch:=omega) only[dI,aV,a8]at y⊢
  let⟨M,am,ad,an⟩:=y
  have v:cq c x=je c x 0 x.aO:=by simp(disch:=omega) only[cq,aV,a8]
  let⟨ao,aB⟩:=I.mQ (bz aG)
  have H:∀e,gP (d++[ct c x.cG f.bA (dR f x.aO)]) e=gP s.bo e:=λe=>by
   rw[u,iZ,iZ,ug,mI,ui (λo=>oh (aB _ o))]
  have A:=az (bH (bH aG))
  refine j.jA P u (hd:=O) (zj j.iu am ad (by simp[dR,an]) aY) (C.congr λe=>?_) j.nW (λp q=>by rw[H];exact j.eM p q) (λp q=>by rw[H];exact j.uC p q) j.cJ (dv:=s.dv+1) V
  rw[jP,oP,vv,MA,v,xY ao];omega
 by_cases am:x.op=11
 .simp(disch:=omega) only[dI,aV,a8]at y⊢
  have v:cq c x=x.aO:=by simp(disch:=omega) only[cq,aV,a8]
  have a2:x.aO=[br x.aO 0,br x.aO 1]:=by
   cases A:x.aO with
   |nil=>rw[A]at y;simp at y
   |cons an ad=>cases ad with
    |nil=>rw[A]at y;simp at y
    |cons aM ad=>cases ad with
     |nil=>rfl
     |cons _ _=>rw[A]at y;simp at y
  have an:0<=br x.aO 1/\br x.aO 1<f.aU.length:=aa _ (gZ V V)
  let⟨B,bc,bk,a4,aM,ax⟩:=I.apply am
  let⟨S,ai⟩:=dL B
  let⟨M,J⟩:=dY c.cU (((bu s.aR (br f.aU (br x.aO 0))).jH -cT c).toNat)
  have aQ:dE c ((bu s.aR (br f.aU (br x.aO 0))).jH -cT c)=M:=by simp[dE,J]
  rw[aQ]at a4 aM
  have ad:∀e,kG ((cq c x).map (br f.aU)) e=(if e=ix (br f.aU (br x.aO 0))then 1 else 0)+kG [br f.aU (br x.aO 1)] e:=λe=>by
   rw[v,a2];simp only[eP,jg];rw[mg]
   .rfl
   .exact B.1
  let⟨Q,k2,k3⟩:=C.iK B (by simp only[ad,a8];have:=ac (ix (br f.aU (br x.aO 0)));have:=nj [br f.aU (br x.aO 1)] (ix (br f.aU (br x.aO 0)));omega) ax
   (e':=oO (d++[{f with bF:=bF,pc:=f.pc+1},ct c ((bu s.aR (br f.aU (br x.aO 0))).jH -cT c) x.bA ((bu s.aR (br f.aU (br x.aO 0))).bV++[br f.aU (br x.aO 1)])])) (λe=>by
    rw[jP,ad];simp only[oO];rw[vv,aQ,cp.1 aM,NY,qM];omega) j.nW
  refine aO _ (az (bH (bz am))) V V _ (zj j.iu bc J fu λw o=>?_) (by unfold kT;omega) O Q k3 k2 ug
  rcases bT.1 o with o|o
  .rcases((C.iF _ (ba S)).yZ ai).1 w o with z|z
   .exact bz z
   .exact bH z.1
  .simp at o;subst o;exact ae _ an.1 an.2
 have ai:x.op=23:=fQ λ_=>by simp(disch:=omega) only[aV]at y
 simp(disch:=omega) only[dI,aV,a8]at y⊢
 have q:=af V
 have v:cq c x=[br x.aO 0]:=by simp(disch:=omega) only[cq,a8];exact aq V
 let⟨ao,aB⟩:=I.mQ (bH ai)
 have an:∀e,gP [f] e=0:=λe=>by rw[mI];exact ui (λo=>oh (aB _ o))
 split
 .rename_i A
  have ad:d=[]:=List.getLast?_eq_none_iff.1 A
  subst ad
  have B:=I.qv ai
  have ag:=aN _ q.1 q.2 (by rcases B with k|k;(rw[u]at k;simp at k);exact k)
  have aI:=j.dv
  refine⟨j.iu,⟨bO,bO⟩,bO,ag,bO,j.df,j.dv,fu,j.cJ,C.congr λe=>?_,j.nW,bO,bO,bO,λp G=>?_,λp G=>?_⟩
  .rw[v,xY ao]
   simp only[oO,eP,jg]
   rw[ui (by simp;have:=ag.2;omega)];rfl
  .have k:=j.eM p G
   rw[u]at k
   have z:=an p
   simp only[iy]at k
   omega
  .simp[gP]
 .rename_i B A
  have ad:d=d.dropLast++[B]:=by
   have ax:d≠[]:=λR=>by rw[R]at A;simp at A
   rw[rH ax]at A;simp at A;rw[<-A];exact(sE ax).symm
  generalize d.dropLast=fs' at ad
  subst ad
  have ag:gB c B:=ay B bO
  let⟨aM,aQ,a2⟩:=j.tX fs'.length B f (by rw[u];simp) (by rw[u];simp)
  have a4:f.bA<B.aU.length:=by have:=ag.lr;have:=ag.lo;omega
  have aI:=j.dv
  have X:=j.eG
  rw[u]at X
  have H:∀e,gP (fs'++[B.cE f.bA (br f.aU (br x.aO 0)) (ig (br f.aU (br x.aO 0)))]) e=gP s.bo e:=λe=>by
   rw[u,iZ,iZ,an,iZ,mI,mI];simp[bS.cE]
  refine⟨j.iu,j.dx,⟨λR=>by simp at R;omega,sx⟩,j.kY,j.Nw,j.df,j.dv,by simp at X⊢;omega,j.cJ,C.congr λe=>?_,j.nW,λM J=>?_,PV (l:=fs') (a:=B) (r:=[f]) (sp aw) O,au.rG.Dr O,λp G=>by rw[H];exact j.eM p G,λp G=>by rw[H];exact j.uC p G⟩
  .rw[jP,oP,jP,oP,v,xY ao]
   simp only[bS.cE,eP,jg]
   rw[SK aM a4 aQ a2,BY];omega
  .rcases bT.1 J with J|J
   .exact ay M (dO _ J)
   .simp at J;subst J
    exact ag.cE (ae _ q.1 q.2) MB Jm
def Pf(h:eJ c s):eJ c (kD c s):=by
 unfold kD;by_cases b:s.dx=3
 .rw[aV (sp b)];let⟨d,f,a⟩:=h.split b;have i:s.bo.getLast?=some f:=by rw[a];simp
  have j:s.bo.dropLast=d:=by rw[a];simp
  rw[i,j];simp only[];have g:∀n,1<=n->n<=2->eJ c {s with dx:=n}:=λn l m=>
   ⟨h.iu,⟨by simp only[];omega,by simp only[];omega⟩,⟨λe=>by simp only[]at e;omega,λe=>by simp only[]at e;rw[a]at e;simp at e⟩,h.kY,λe=>oh (h.Nw e),h.df,h.dv,h.eG,h.cJ,h.aR,h.nW,h.bo,h.first,h.tX,h.eM,h.uC⟩
  split
  .exact g 1 V V
  .rename_i e;split
   .rename_i k;exact Xl h b a k e
   .exact g 2 V V
 .rw[a8 (sp b)];exact h
end
section
variable{a:cO}{s:St}
def wM(a:cO):aj->Int
 |[]=>0
 |f::b=>((dE a f.fN).cD.length -f.pc)+wM a b
def qO(a:cO):∀(l r:aj),wM a (l++r)=wM a l+wM a r
 |[],r=>by simp[wM]
 |f::l,r=>by simp only[eN,wM,qO a l r];omega
def Bo(a:cO)(s:St):Int:=wM a s.bo+(s.df -s.dv)*2000
def aaE{a:cO}:∀{b:aj},(∀f∈b,gB a f)->0<=wM a b
 |[],_=>by simp[wM]
 |f::b,h=>by
  have:=aaE (λg c=>h g (aX _ c));have:=(h f cQ).pc;simp only[wM];omega
def abL(h:eJ a s):0<=Bo a s:=by
 have:=aaE h.bo;have:=h.dv;unfold Bo;omega
def TV{d:aj}{f:bS}(I:eJ a s)(m:s.bo=d++[f])
 (M:iN a s f (bK a f) (bZ f.aU f.bF (cq a (bK a f)))):
 Bo a (dI a s d f (bK a f) (bZ f.aU f.bF (cq a (bK a f))))<Bo a s:=by
 have K:gB a f:=by grind [eJ.bo]
 let⟨ac,hp,N,hP,aa,T⟩:=K.AJ I.iu
 have U:=K.pc
 generalize bK a f=x at*
 generalize bZ f.aU f.bF (cq a x)=bF at*
 rw[N]at U
 have mE:∀(g:bS)(b:St),b.bo=d++[g]->g.fN=f.fN->f.pc<g.pc->b.df=s.df->b.dv=s.dv->Bo a b<Bo a s:=λg b e J R h j=>by
  unfold Bo;rw[m,e,h,j,qO,qO];grind [wM]
 have cD:∀q:Int,0<=q->q<a.cU.length->((dE a q).cD.length:Int)<=2000:=λq Z J=>by
  let⟨P,W⟩:=dY a.cU q.toNat;have:=(I.iu.eR P (ba W)).aT;have Q:dE a q=P:=by grind [dE]
  rw[Q];omega
 have Nv:∀(g n:bS)(b:St),b.bo=d++[g,n]->g.fN=f.fN->f.pc<g.pc->0<=n.fN->n.fN<a.cU.length->n.pc=0->b.df=s.df->b.dv=s.dv+1->Bo a b<Bo a s:=λg n b e J R r t S h j=>by
  have:=cD n.fN r t;unfold Bo;rw[m,e,h,j,qO,qO];grind [wM]
 have tail:∀(n:bS)(b:St),b.bo=d++[n]->0<=n.fN->n.fN<a.cU.length->n.pc=0->b.df=s.df->b.dv=s.dv+1->Bo a b<Bo a s:=λn b e r t S h j=>by
  have:=cD n.fN r t;unfold Bo;rw[m,e,h,j,qO,qO];grind [wM]
 have c:=T.op
 unfold kQ at c
 unfold dI
 simp only[]
 by_cases u:x.op=0
 .rw[a8 u];exact mE _ _ O O (by show f.pc<f.pc+1;omega) O O
 rw[aV u]at c⊢
 by_cases v:x.op=1\/x.op=2\/x.op=3\/x.op=4
 .rw[a8 v];exact mE _ _ O O (by show f.pc<f.pc+1;omega) O O
 rw[aV v]
 by_cases G:x.op=5
 .rw[a8 G];exact mE _ _ O O (by show f.pc<f.pc+1;omega) O O
 rw[aV G]
 by_cases k:x.op=6
 .rw[a8 k]
  split
  .exact mE _ _ O O (by show f.pc<f.pc+1;omega) O O
  .exact mE _ _ O O (by show f.pc<f.pc+1;omega) O O
 rw[aV k]
 by_cases w:x.op=10
 .rw[a8 w];exact mE _ _ O O (by show f.pc<f.pc+1;omega) O O
 rw[aV w]
 by_cases y:x.op=14
 .rw[a8 y];exact mE _ _ O O cC O O
 rw[aV y]
 by_cases z:x.op=15
 .rw[a8 z];exact mE _ _ O O cC O O
 rw[aV z]
 by_cases A:x.op=16\/x.op=17
 .rw[a8 A]
  split
  .exact mE _ _ O O cC O O
  .exact mE _ _ O O cC O O
 rw[aV A]
 by_cases B:x.op=18
 .rw[a8 B];exact mE _ _ O O (by show f.pc<f.pc+1;omega) O O
 rw[aV B]
 by_cases C:x.op=19
 .rw[a8 C];exact mE _ _ O O (by show f.pc<f.pc+1;omega) O O
 rw[aV C]
 by_cases D:x.op=20
 .rw[a8 D]
  simp(disch:=omega) only[aV,a8]at c
  exact mE _ _ O O cC O O
 rw[aV D]
 by_cases p:x.op=21
 .rw[a8 p]
  simp(disch:=omega) only[aV,a8]at c
  let⟨L,E⟩:=M.ta p
  have F:ua (cY a.bR x.cG) (bu s.aR (br f.aU (br x.aO 0))).jH<(cY a.bR x.cG).length:=mC ⟨_,E,bO⟩
  let⟨H,o⟩:=c.2.2
  have:=o _ (gZ (l:=x.fU) (i:=(ua (cY a.bR x.cG) (bu s.aR (br f.aU (br x.aO 0))).jH:Nat)) V V)
  exact mE _ _ O O cC O O
 rw[aV p]
 by_cases E:x.op=22
 .rw[a8 E]
  simp(disch:=omega) only[aV,a8]at c
  exact mE _ _ O O cC O O
 rw[aV E]
 by_cases H:x.op=9
 .rw[a8 H]
  rw[aV V,aV V,aV k,a8 V]at c
  let⟨q,X,o,Y⟩:=c
  have:=bC o
  exact Nv _ _ _ O O cC (by simp only[ct];omega) (by simp only[ct];omega) O O O
 rw[aV H]
 by_cases F:x.op=24
 .rw[a8 F]
  rw[aV V,aV V,aV k,a8 V]at c
  let⟨q,X,o,Y⟩:=c
  have:=bC o
  exact tail _ _ O (by simp only[ct];omega) (by simp only[ct];omega) O O O
 rw[aV F]
 by_cases o:x.op=11
 .rw[a8 o]
  obtain⟨L,X,Y,_⟩:=M.apply o
  exact Nv _ _ _ O O cC (by simp only[ct];omega) (by simp only[ct];omega) O O O
 rw[aV o]
 split
 .grind [List.getLast?_eq_none_iff,Bo,wM]
 .rename_i X Y
  have L:d=d.dropLast++[X]:=by
   have ab:d≠[]:=cC;grind [List.getLast?_eq_some_getLast,List.dropLast_concat_getLast]
  generalize d.dropLast=fs' at L
  subst L
  unfold Bo
  rw[m]
  simp only[qO,wM,bS.cE,N];omega
def Zs(h:eJ a s)(k:s.dx=3)(b:(kD a s).dx=3):Bo a (kD a s)<Bo a s:=by
 let⟨g,f,j⟩:=h.split k;have d:s.bo.getLast?=some f:=cC;have e:s.bo.dropLast=g:=cC;unfold kD at b⊢;rw[aV cC,d,e]at b⊢;simp only[]at b⊢;split at b
 .simp at b
 .rename_i i;rw[aV i];split at b
  .rename_i c;rw[a8 c];exact TV h j c
  .simp at b
noncomputable def bq (a:cO):Nat->St->St
 |0,s=>s
 |n+1,s=>bq a n (kD a s)
theorem ou(a:cO):∀(n:Nat)(s:St),bq a (n+1) s=kD a (bq a n s)
 |0,s=>O
 |n+1,s=>by rw[bq,ou a n,bq]
def Bm{a:cO}:∀(n:Nat){s:St},eJ a s->eJ a (bq a n s)
 |0,s,h=>h
 |n+1,s,h=>Bm n (Pf h)
theorem pB(h:s.dx≠3):kD a s=s:=by grind [kD]
theorem vz{a:cO}:∀(n:Nat){s:St},s.dx≠3->bq a n s=s
 |0,s,_=>O
 |n+1,s,h=>by rw[bq,pB h,vz n h]
def Rb{a:cO}:∀(n:Nat){s:St},eJ a s->Bo a s<n->(bq a n s).dx≠3
 |0,s,h,d=>by have:=abL h;omega
 |n+1,s,h,d=>by
  rcases fS (s.dx=3)with b|b
  .rcases fS ((kD a s).dx=3)with c|c
   .have:=Zs h b c;exact Rb n (Pf h) V
   grind [bq,vz]
  .grind [vz]
def dX(a:cO)(df:Int):St:=⟨3,0,0,df,[],[],[ct a 0 0 []]⟩
def Gs{df:Int}(b:gL a)(j:0<=df/\df<=40):eJ a (dX a df):=by
 have n:=b.kX.aT;let⟨p,g⟩:=dY a.cU 0;have m:=b.kX.first p g;have l:=zj (j:=0) (e:=[]) b (dN 0) g cC bO;have f:∀h,oO [ct a 0 0 []] h=0:=by grind [oP,vv,jk]
 refine⟨b,by simp[dX],by simp[dX],by simp[dX,mV],by simp[dX],j,by simp[dX];omega,by simp[dX],by simp[dX],⟨by simp[dX],⟨λ_=>0,by simp[dX]⟩,by simp[dX],λc=>by simp only[dX];rw[f];omega,λc d=>by simp only[dX]at d;rw[f]at d;omega⟩,?_,?_,?_,?_,λc⟨i,d,_⟩=>by simp[dX]at d,λc _=>ug _⟩
 .intro i d;simp[dX]at d
 .grind [dX]
 .intro k e;simp[dX]at e;subst e;rfl
 .grind [dX]
def XA{df:Int}(b:gL a)(c:0<=df/\df<=40):Bo a (dX a df)<=82000:=by
 grind [gL.kX,ny.aT,dY,gL.eR,ba,nH.aT,dE,Bo,dX,wM,ct]
end
section
variable{k:Nat}{m:D}
theorem qH{a:af}{d:cV}:zH a k d<->((An a.length d.qC/\An a.length d.to/\d.dV.length<=3/\(0<d.dV.length->d.qC=0/\d.to=0))/\
 (∀f∈d.dV,f.length<=3/\Ij a.length f)/\∀e∈a.take k,¬(d.dV.length=0/\e.dV.length=0/\e.qC=d.qC/\e.to=d.to)):=by
 constructor
 .grind [Nat.eq_zero_or_pos,List.length,zH.Qp,List.length_eq_zero_iff,zH.iY,An]
 .rintro⟨⟨f,g,h,c⟩,i,j⟩
  exact⟨λb=>⟨h,(c b).1,(c b).2,i⟩,λb=>⟨λe l m=>j e l ⟨b,m⟩,f,g⟩⟩
def I9{bR:E}{a:af}(hd:dw m bR a):ir dP 42 [bR.v] m (eT a):=by
 apply De;simp -zeta only[dT];have r:=hd.aT;have aj:=hd.mr;refine⟨λK=>?_,λK=>?_⟩
 .grind [eT.aT,J.cX]
 simp only[dK]at K;refine iC (n:=a.length) V (λk b=>J m b/\∀(j:Nat)(d:cV),j<k->a[j]? =some d->zH a j d) ⟨dt,bO⟩ ?_;rintro j C ag μ hj ⟨z,hn⟩ ae
 refine dit (λW=>?_) λW=>?_
 .let⟨d,Y⟩:=dY a j;let⟨u,y,U,g1,g2⟩:=(dw.ext z hd).br Y;have am:=y.aT;refine⟨V,V,_,U,_,g1,u,g2,?_⟩;intro m2 s;have A:J C s:=by grind [J.cX,J.cz,J.aW]
  have N:∀i∈[C.size],i<s.size:=by grind [bE]
  have ab:=z.N A;have q:∀{b:D},J s b->¬zH a j d->∃H:Bool,vb false=.bool H/\(H=true<->eT a)/\J m b:=by grind [eT.eR,J.N]
  refine⟨λb=>J s b/\An a.length d.qC/\An a.length d.to/\d.dV.length<=3/\(0<d.dV.length->d.qC=0/\d.to=0),?_,?_⟩
  .refine(ub).bL dt N λi m4 e L l=>⟨_,O,λc=>q l λg=>nb e c (r▸(qH.1 g).1.1),λc=>?_⟩;have w:=yb e c;refine(ub).bL l N λi t e v f=>⟨_,O,λh=>q f λg=>nb e h (r▸(qH.1 g).1.2.1),λh=>?_⟩;have x:=yb e h;rw[r]at w x;refine⟨λo=>?_,λo=>?_⟩
   .grind [qH]
   simp only[dK]at o;refine⟨λp=>?_,λp=>?_⟩
   .grind [qH,bne_eq_false_iff_eq]
   grind [decide_eq_false_iff_not]
  .rintro m4 ⟨Q,al⟩;have ak:=rX.ext (A.N Q) y;refine iC (n:=d.dV.length) V (λk b=>J s b/\∀u∈d.dV.take k,u.length<=3/\Ij a.length u) ⟨Q,bO⟩ ?_;rintro B t I2 μ2 hi ⟨o,P⟩ ac;refine dit (λL=>?_) λL=>?_
   .let⟨I,p⟩:=dY d.dV B;let⟨R,M,S⟩:=(rX.ext (A.N o) y).br p;have X:=M.aT;refine⟨V,V,R,S,?_⟩;intro F G;have w:J t G:=by grind [J.cX,J.cz,J.aW]
    have T:∀i∈[t.size,C.size],i<G.size:=by
     grind [J.lt,Array.size,bE]
    refine dit (λl=>?_) λl=>?_
    .exact q (o.N w) λg=>by have:=((qH.1 g).2.1 I (ba p)).1;omega
    exact(Av (M.ext w)).bL dt T λi x e c v=>⟨_,O,λf=>q ((o.N w).N c) λg=>nb e f (r▸((qH.1 g).2.1 I (ba p)).2),λf=>ac V _ ⟨(o.N w).N c,eI p P ⟨V,r▸yb e f⟩⟩⟩
   .have ah:=iB V P;refine⟨V,V,V,?_⟩;have X:dw t (bR.cut 0 j 3) (a.take j):=by grind [fY.Ts,dw.ext,J.N]
    have ai:(bR.cut 0 j 3).len=j:=by grind [fY.aT]
    simp -zeta only[iO,Int.toNat_zero];refine iC (n:=j) V (λk b=>J t b/\∀e∈a.take k,¬(d.dV.length=0/\e.dV.length=0/\e.qC=d.qC/\e.to=d.to)) ⟨dt,bO⟩ ?_;rintro p F S μ3 ao ⟨w,aa⟩ ad;refine dit (λl=>?_) λl=>?_
    .let⟨e,I⟩:=dY a p;have M:(a.take j)[p]? =some e:=by rw[lQ,a8 V];exact I
     let⟨T,Z,q0,q1,q2⟩:=(dw.ext w X).br M;have an:=Z.aT;refine⟨V,V,_,q0,_,q1,T,q2,?_⟩;intro G x;have R:J F x:=by grind [J.cX,J.cz,J.aW]
     have ap:¬(d.dV.length=0/\e.dV.length=0/\e.qC=d.qC/\e.to=d.to)->S (eV ((p:Int)+1)) x/\μ3 (eV ((p:Int)+1)) x<μ3 p F:=λhq=>ad V _ ⟨w.N R,eI I aa hq⟩;refine⟨λc=>?_,λc=>?_⟩
     .simp only[bQ]at c;refine⟨λv=>?_,λv=>?_⟩
      .simp only[bQ]at v;refine⟨λf=>?_,λf=>?_⟩
       .simp only[bQ]at f;refine⟨λh=>?_,λh=>?_⟩
        .simp only[bQ]at h;exact q ((o.N w).N R) λg=>(qH.1 g).2.2 e (ba M) ⟨V,V,f,h⟩
        grind [beq_eq_false_iff_ne]
       grind [beq_eq_false_iff_ne]
      grind [beq_eq_false_iff_ne]
     grind [beq_eq_false_iff_ne]
    .have:p=j:=V;subst this;refine ae V _ ⟨(ab.N o).N w,λg c f e=>?_⟩
     grind [qH]
 .exact pX ⟨V,λB d di=>hn B d (oh (bC di)) di⟩ z
def Te(m:D)(b:ae)(p:dS):Prop:=∃a l,b=[.s a,.s l,.i p.bP]/\bg m a p.aY/\bg m l p.cW
def Te.ext{m d:D}(b:J m d)(a:ae)(c:dS):Te m a c->Te d a c:=λ⟨f,g,e,h,i⟩=>⟨f,g,e,h.ext b,i.ext b⟩
abbrev oZ(m:D)(s:E)(l:av):Prop:=fY m 3 (Te m) s l
def oZ.ext{m b:D}(a:J m b){s:E}{l:av}(h:oZ m s l):oZ b s l:=h.aP a (Te.ext a)
theorem oZ.br{s:E}{l:av}(h:oZ m s l){x:dS}(f:l[k]? =some x):
 ∃a b,bg m a x.aY/\bg m b x.cW/\aS m s.bt (s.off+k*3)=some a.v/\aS m s.bt (s.off+k*3+1)=some b.v/\aS m s.bt (s.off+k*3+2)=some (vi x.bP):=by
 obtain⟨g,⟨a,b,rfl,d,e⟩,c⟩:=h.kv k x f
 exact⟨a,b,d,e,c 0 (.s a) O,c 1 (.s b) O,c 2 (.i x.bP) O⟩
def KQ{L M:E}{f:af}{b:av}(hd:dw m L f)(C:oZ m M b):
 ir dP 78 [L.v,M.v] m (ny f b/\∀p∈b,Ej p.aY p.cW):=by
 apply EM
 simp -zeta only[dT]
 have B:=hd.aT
 have ax:=C.aT
 refine(I9 hd).cg λh m1 c D=>⟨_,O,λu=>gH (λa=>nb c u a.1.dj) D,λu=>?_⟩
 have ht:=yb c u
 refine⟨λR=>?_,λR=>?_⟩
 .grind [ny.aT]
 simp only[dK]at R
 refine⟨λS=>?_,λS=>?_⟩
 .grind [ny.aT]
 simp only[dK]at S
 let⟨p0,ak⟩:=dY b 0
 let⟨a0,l0,aj,az,g0,g1,g2⟩:=(oZ.ext D C).br ak
 have au:=aj.aT
 refine⟨V,V,a0,g0,λT=>?_,λT=>?_⟩
 .grind [ny.first]
 simp only[dK]at T
 refine⟨V,V,_,g2,λU=>?_,λU=>?_⟩
 .grind [ny.first]
 simp only[nX]at U
 refine iC (n:=b.length) V (λj G=>J m G/\∀p∈b.take j,(p.aY.length<=3/\Ij f.length p.aY/\An f.length p.bP)/\Ej p.aY p.cW) ⟨D,bO⟩ ?_
 rintro j H aq μ hj ⟨q,Y⟩ ap
 refine dit (λh6=>?_) λh6=>?_
 .let⟨p,o⟩:=dY b j
  let⟨ae,an,A,l,q0,q1,q2⟩:=(oZ.ext q C).br o
  have aw:=A.aT
  have aB:=l.aT
  have aA:=l.kM
  refine⟨V,V,ae,q0,an,q1,_,q2,?_⟩
  intro m3 m4
  have r:J H m4:=by grind [J.cX,J.cz,J.aW]
  have X:∀h∈[H.size],h<m4.size:=by grind [bE]
  refine⟨λW=>?_,λW=>?_⟩
  .grind [ny.eR,ba,J.N]
  simp only[dK]at W
  refine(Av (A.ext r)).bL dt X λh m5 c h8 h9=>⟨_,O,λw=>gH (λa=>nb c w (B▸(a.1.eR p (ba o)).2.1)) ((q.N r).N h8),λw=>?_⟩
  have ab:=yb c w
  refine(ub).bL h9 X λh I c ar N=>⟨_,O,λy=>gH (λa=>nb c y (B▸(a.1.eR p (ba o)).2.2)) ((q.N r).N N),λy=>?_⟩
  have aa:=yb c y
  rw[B]at ab aa
  have am:J m I:=by grind [J.N]
  have F:J H I:=r.N N
  refine iC (n:=p.cW.length) V (λk G=>G=I/\∀(j:Nat)(v:Int),j<k->p.cW[j]? =some v->(∃t,0<=v/\p.aY[v.toNat]? =some t/\t≠0)/\(∀ac:Int,0<j->p.cW[j -1]? =some ac->ac<v)) ⟨O,bO⟩ ?_
  rintro k m7 I2 μ2 hk ⟨rfl,Z⟩ ao
  have i:¬Ej p.aY p.cW->∃K:Bool,vb false=.bool K/\(K=true<->ny f b/\∀p∈b,Ej p.aY p.cW)/\J m m7:=by grind [ba]
  refine dit (λah=>?_) λah=>?_
  .let⟨x,e⟩:=dY p.cW k
   refine⟨V,V,x,by simpa using F.aS (l.br e),dit (λai=>?_) λai=>?_⟩
   .exact i λa=>by obtain⟨⟨t,P,_⟩,_⟩:=a k x e;omega
   refine dit (λP=>?_) λP=>?_
   .refine i λa=>?_
    obtain⟨⟨t,_,g,_⟩,_⟩:=a k x e
    have:=bC g;omega
   let⟨t,al⟩:=dY p.aY x.toNat
   refine⟨V,V,t,by simpa using F.aS (A.br al),λg=>?_,λg=>?_⟩
   .simp only[bQ]at g
    refine i λa=>?_
    obtain⟨⟨d,_,z,Q⟩,_⟩:=a k x e
    grind
   simp only[bd]at g
   refine⟨λz=>?_,λz=>?_⟩
   .simp only[bh]at z
    have e2:eV ((k:Int) -1)=((k -1:Nat):Int):=by grind [dk]
    let⟨ad,hy⟩:=dY p.cW (k -1)
    rw[e2]
    refine⟨V,V,ad,by simpa using F.aS (l.br hy),dit (λQ=>?_) λQ=>?_⟩
    .exact i λa=>by have:=(a k x e).2 ad V hy;omega
    .refine ao V _ ⟨O,λs v ay d=>?_⟩
     by_cases ag:s=k
     .subst ag
      rw[e]at d;simp at d;subst d
      constructor<;>grind
     .exact Z s v V d
   grind [decide_eq_false_iff_not]
  .exact ap V _ ⟨am,eI o Y ⟨⟨V,ab,aa⟩,λs v d=>Z s v (oh (bC d)) d⟩⟩
 .have d:=iB V Y
  refine pX ⟨⟨ht,V,λp a=>(d p a).1,λp a=>?_⟩,λp a=>(d p a).2⟩ q
  grind
end
section
variable{c:D}{d f a j:E}{b:cO}{i:Instr}
def zg{H:E}(B:iW c d H b):
 bJ dP 47 [.agg #[E.v d,E.v H]] c λam s=>∃T f e,am=.tuple #[.agg #[E.v T,E.v f],vb e]/\(e=true<->ny b.bR b.cU/\∀H∈b.cU,Ej H.aY H.cW)/\
  (e=true->T=d/\oZ s f b.cU)/\J c s:=by
 apply EJ
 simp -zeta only[kU,nQ]
 intro N h
 have ap:=B.cU.aT
 have s1:=pz N
 have s2:h.size=c.size+2:=by simp[h,N]
 have ab:J c h:=((J.cX c).cz _).cz _
 refine dit (λh1=>?_) λh1=>?_
 .intro g
  exact⟨_,_,_,O,⟨sx,λB=>oh B.1.aT⟩,sx,ab.aW V _ _⟩
 intro m4 G
 have s5:G.size=c.size+3:=by simp[G,m4,bE,s2]
 have ak:J c G:=(ab.cz _).aW V _ _
 have ag:dJ G h.size pD [.s d,.s .nil]:=dJ.aW (m:=m4) (o:=0) (r:=[.s d,.s .nil]) (dJ.push h _ _)
 refine iC (n:=b.cU.length) V (λM s=>J c s/\G.size<=s.size/\∃g w,dJ s h.size pD [.s d,.s g]/\js c s uA 3 g w.flatten/\fL 3 (Te c) w (b.cU.take M)/\(g≠.nil->h.size<g.bt)/\g.len=M)
  ⟨ak,bY,.nil,[],ag,js.gF _ _ _ _,by simpa using fL.gF 3 (Te c),bO,O⟩ ?_
 rintro M t an μ hk ⟨j,aq,g,w,q,K,L,R,aa⟩ al
 refine dit (λh2=>?_) λh2=>?_
 .let⟨P,Y⟩:=dY b.cU M
  let⟨a,e,ac,ha,l,y,g0,g1,g2,g3,g4⟩:=B.cU.br Y
  refine⟨V,V,a,by simpa using j.aS g0,e,by simpa using j.aS g1,_,by simpa using j.aS g2,_,by simpa using j.aS g3,ac,by simpa using j.aS g4,?_⟩
  intro m7 k
  obtain⟨D,s8⟩:=pv k
  clear_value k
  refine⟨g,(q.ext D).dg 1,?_⟩
  intro u
  have S:J t u:=D.cz _
  have s9:u.size=t.size+2:=by simp[u,s8]
  have ni:jw u k.size 0 [.s a,.s e,.i P.bP]:=(dJ.push k _ _).kv
  clear_value u
  refine js.fE (c:=[.s .nil,.s .nil,.i 0]) (i:=[.s a,.s e,.i P.bP]) (K.ext S) (j.N S) O ni (by simp[aa];omega) ?_
  intro v A h7 h8 U ao ad ae
  have Z:v≠.nil->h.size<v.bt:=by
   intro z;rcases ae with⟨_,x⟩|⟨ai,x,_⟩|x
   .exact absurd x z
   .have:=R ai;omega
   .omega
  have I:∀i,i<u.size->i<=h.size\/i=t.size/\(g=.nil\/g.bt<t.size)->A[i]? =u[i]? :=by
   intro i p y;refine ad i p λz=>?_;have:=R z;rcases y with y|⟨rfl,y|y⟩
   .omega
   .exact absurd y z
   .omega
  have ah:g=.nil\/g.bt<t.size:=K.lt
  have W:dJ A h.size pD [.s d,.s g]:=(q.ext S).congr (I _ V (bz bY))
  refine⟨λi p=>?_,W.gK bO,?_⟩
  .simp at p
   rcases p with rfl|rfl|rfl
   .exact I _ V (bH ⟨O,ah⟩)
   .exact I _ V (bz V)
   .exact I _ V (bz V)
  intro F
  have ar:F.size=A.size:=by simp[F,bE]
  have af:dJ F h.size pD [.s d,.s v]:=dJ.aW (m:=A) (o:=1) (r:=[.s v]) W
  have X:∀e,e≠h.size->F[e]? =A[e]? :=λe l=>cw _ _ _ _ l
  have aj:J c F:=h8.aW V _ _
  refine⟨λi p=>?_,?_⟩
  .simp at p
   rcases p with rfl|rfl|rfl<;>exact X _ V
  refine al V _ ⟨aj,V,v,w++[[.s a,.s e,.i P.bP]],af,?_,?_,Z,by simp[U,aa]⟩
  .rw[vn]
   have Q:js c A uA 3 v (w.flatten++[[.s a,.s e,.i P.bP]].flatten):=sp h7
   rcases Q.lt with x|x
   .subst x;exact⟨Q.aT,bz O⟩
   .refine Q.congr (X _ λe2=>?_)
    by_cases C:v=.nil
    .subst C
     have:=U
     simp at this
    .have:=Z C;omega
  .rw[bW Y]
   exact L.Ch O ⟨a,e,O,ha,l⟩
 .rw[eY V]at L
  have x:oZ t g b.cU:=(fY.jT K L V V).aP dt (Te.ext j)
  refine⟨d,q.dg 0,g,q.dg 1,g,q.dg 1,?_⟩
  have u:∀e∈[N.size,c.size],e<t.size:=fu
  refine(KQ (dw.ext j B.bR) x).bL dt u λe m7 l i _=>⟨_,O,i.cK (q.dg 0),i.cK (q.dg 1),?_⟩
  intro k
  have z:∀e,e≠N.size->k[e]? =m7[e]? :=λe l=>cw _ _ _ _ l
  have D:J c k:=(j.N i).aW V _ _
  refine⟨d,g,e,O,l,λ_=>⟨O,?_⟩,D⟩
  have p:=K.ext i
  have v:js c k uA 3 g w.flatten:=by
   by_cases C:g=.nil
   .subst C;exact⟨p.aT,bz O⟩
   .exact p.congr (z _ (oh (R C)))
  exact(fY.jT v L V V).aP dt (Te.ext D)
def tS(b:cO)(i:Instr)(a:Int->Prop):Prop:=
 if i.op=0 then -999<=i.cG/\i.cG<=999
 else if i.op=6 then 0<=i.cG/\i.cG<(gU b.bR).length
 else if i.op=9\/i.op=24 then 0<=i.cG/\i.cG<b.cU.length
 else if i.op=10 then 0<=i.cG/\∃q,b.cU[i.cG.toNat]? =some q/\q.cW.length=0
 else if i.op=19 then 0<=i.cG/\i.cG<3
 else if i.op=20\/i.op=22 then a i.cG
 else if i.op=21 then 0<(cY b.bR i.cG).length/\i.fU.length=(cY b.bR i.cG).length
 else i.cG=0
def Mq(hd:dw c d b.bR)(x:eT b.bR)(z:oZ c f b.cU)(K:bg c a i.aO)(E:bg c j i.fU)(q:Nat)(v t:Array Value)(D:GL.elem q=true)(l:Int->Prop)
 (F:∀e,J c e->ir dP q (v.toList++[vi i.cG]++t.toList) e (l i.cG)):
 ir dP 83 [.agg #[d.v,f.v],.agg #[vi i.op,vi i.bA,vi i.cG,vi i.cR,a.v,j.v],.func (.func q) v t] c (tS b i l):=by
 apply va d f i.op i.bA i.cG i.cR a j (.func q,v,t)
 simp -zeta only[dT]
 intro A s
 have e:J c s:=((J.cX c).cz _).cz _
 have w:∀y∈[A.size,c.size],y<s.size:=cC
 have M:=z.aT
 have N:=E.aT
 have C:dJ s A.size ee [.i i.op,.i i.bA,.i i.cG,.i i.cR,.s a,.s j]:=dJ.push _ _ _
 refine⟨λm=>?_,λm=>?_⟩
 .grind [tS]
 simp only[bd]at m
 refine⟨λk=>?_,λk=>?_⟩
 .simp only[bQ]at k
  rw[show tS b i l<->0<=i.cG/\i.cG<(gU b.bR).length by rw[tS,aV m,a8 k]]
  refine⟨λh=>?_,λh=>gH ?_ e⟩<;>simp at h
  .refine(uY (dw.ext e hd) x.aT (Tq x)).bL dt w λB g _=>⟨_,O,g.cK (C.dg 2),lI ?_ (e.N g)⟩
   simp;omega
  .omega
 simp only[bd]at k
 refine⟨λn=>?_,λn=>?_⟩
 .grind [tS,List.length]
 simp only[cZ,bd]at n
 replace n:¬(i.op=9\/i.op=24):=V
 refine⟨λo=>?_,λo=>?_⟩
 .simp only[bQ]at o
  rw[show tS b i l<->0<=i.cG/\∃p,b.cU[i.cG.toNat]? =some p/\p.cW.length=0 by rw[tS,aV m,aV k,aV n,a8 o]]
  refine⟨λh=>⟨λr=>?_,λr=>?_⟩,λh=>gH ?_ e⟩<;>simp at h
  .simp at r
   let⟨p,G⟩:=dY b.cU i.cG.toNat
   let⟨H,P,L,u,I,g1,g2⟩:=(oZ.ext e z).br G
   have:=u.aT
   constructor<;>grind
  .grind [bC]
  .omega
 simp only[bd]at o
 refine⟨λr=>?_,λr=>?_⟩
 .grind [tS]
 simp only[bd]at r
 refine⟨λp=>?_,λp=>?_⟩
 .simp only[eK,bQ]at p
  rw[show tS b i l<->l i.cG by rw[tS,aV m,aV k,aV n,aV o,aV r,a8 p]]
  exact⟨q,O,D,(F s e).bL dt w λy B u g _=>⟨_,O,lI u (e.N g)⟩⟩
 simp only[cZ,bd]at p
 replace p:¬(i.op=20\/i.op=22):=V
 refine⟨λu=>?_,λu=>?_⟩
 .simp only[bQ]at u
  rw[show tS b i l<->0<(cY b.bR i.cG).length/\i.fU.length=(cY b.bR i.cG).length by rw[tS,aV m,aV k,aV n,aV o,aV r,aV p,a8 u]]
  refine(xL (dw.ext e hd) x _).bL dt w ?_
  rintro _ B ⟨H,rfl,G,g⟩
  have:=G.aT
  refine⟨g,_,O,λh=>lI ?_ (e.N g),λh=>gH ?_ (e.N g)⟩<;>simp at h
  .grind
  .omega
 .grind [beq_eq_false_iff_ne,tS]
def xB(b:cO)(i:Instr)(c a:Int):Prop:=
 if i.op=0\/i.op=22 then c=0/\a=0
 else if i.op=1\/i.op=2\/i.op=3\/i.op=4\/i.op=11 then c=2/\a=2
 else if i.op=6 then c=(da b.bR i.cG).length/\a=(da b.bR i.cG).length
 else if i.op=9\/i.op=24 then∃q,b.cU[i.cG.toNat]? =some q/\c=q.aY.length/\a=q.aY.length
 else if i.op=10 then∃q,b.cU[i.cG.toNat]? =some q/\c=(q.aY.length:Int) -1/\a=(q.aY.length:Int) -1
 else if i.op=16\/i.op=17 then c=1/\a=4
 else c=1/\a=1
def P2(hd:dw c d b.bR)(t:eT b.bR)(o:oZ c f b.cU){D:Int->Prop}(l:tS b i D):
 bJ dP 84 [.agg #[d.v,f.v],.agg #[vi i.op,vi i.bA,vi i.cG,vi i.cR,a.v,j.v]] c λG E=>∃u s:Int,G=.tuple #[vi u,vi s]/\xB b i u s/\J c E:=by
 apply wj
 simp -zeta only[dT]
 intro F v
 have p:J c v:=((J.cX c).cz _).cz _
 have A:∀x∈[F.size,c.size],x<v.size:=cC
 have K:=o.aT
 refine⟨λg=>?_,λg=>?_⟩
 .grind [xB]
 simp only[cZ,bd]at g
 refine⟨λr=>?_,λr=>?_⟩
 .grind [xB]
 simp only[cZ,bd]at r
 refine⟨λe=>?_,λe=>?_⟩
 .simp only[bQ]at e
  rw[tS,aV g.1,a8 e]at l
  have h:=tZ t b.bR.length
  rw[qI _ _ bY]at h
  refine(uZ (dw.ext p hd) t V).bL dt A ?_
  grind [fY.aT,xB,J.N]
 simp only[bd]at e
 refine⟨λh=>?_,λh=>?_⟩
 .simp only[eK,bQ]at h
  rw[tS,aV g.1,aV e,a8 h]at l
  let⟨w,m⟩:=dY b.cU i.cG.toNat
  let⟨q,C,k,B,z,g1,g2⟩:=(oZ.ext p o).br m
  have:=k.aT
  grind [xB]
 simp only[cZ,bd]at h
 have y:¬(i.op=9\/i.op=24):=V
 refine⟨λn=>?_,λn=>?_⟩
 .simp only[bQ]at n
  rw[tS,aV g.1,aV e,aV y,a8 n]at l
  obtain⟨I,w,m,_⟩:=l
  let⟨q,C,k,B,z,g1,g2⟩:=(oZ.ext p o).br m
  have:=k.aT
  have:=k.kM
  have:=bC m
  have H:eV ((q.len:Int) -1)=(w.aY.length:Int) -1:=by grind [dk]
  grind [xB]
 grind [beq_eq_false_iff_ne,xB,Bool.or_eq_false_iff]
end
section
variable{m:D}{x k:Int}{a b1:Nat}{c:E}
def CS(b:aS m a 0=some (vi k))(d:aS m b1 4=some c.v):
 ir dP 80 [vi x,vp a 0,vp b1 0] m (k+1<=x/\x<=(c.len:Int) -1):=by
 apply sS (a,0) (b1,0)
 refine⟨k,b,λh=>⟨c,d,lI ?_ dt⟩,λh=>gH ?_ dt⟩<;>simp at h
 .simp;omega
 .omega
def Oy{b2:Nat}(b:aS m a 0=some (vi k))(d:aS m b1 4=some c.v)
 (e:aS m b2 0=some (.func (.func 80) #[] #[vp a 0,vp b1 0])):
 ir dP 82 [vi x,vp b2 0] m (¬(k+1<=x/\x<=(c.len:Int) -1)):=by
 apply sU (b2,0)
 refine⟨(.func 80,#[],#[vp a 0,vp b1 0]),e,_,O,O,?_⟩
 refine(CS b d).cg λh i f g=>⟨_,O,lI ?_ g⟩
 rw[<-f];simp
theorem NK{a:cO}{p:dS}{k:Nat}{i:Instr}(m:∀q∈a.cU,q.aY.length<=3):
 iJ a p k i<->((0<=i.op/\i.op<=24/\i.op≠7/\i.op≠8/\i.op≠12/\i.op≠13)/\(0<=i.bA/\i.bA<p.aU/\(i.bA=0\/kT i.op)/\0<=i.cR/\i.cR<=p.aU/\(i.cR=0\/i.op=6))/\
  (∀b∈i.aO,0<=b/\b<p.aU)/\(i.fU.length=0\/i.op=21)/\(∀t∈i.fU,(k:Int)+1<=t/\t<=(p.cD.length:Int) -1)/\
  tS a i (λt=>(k:Int)+1<=t/\t<=(p.cD.length:Int) -1)/\∀c b,xB a i c b->c<=i.aO.length/\(i.aO.length:Int)<=b):=by
 have L:=λq(h:a.cU[i.cG.toNat]? =some q)=>bC h
 have G:0<=i.cG/\i.cG<a.cU.length->∃q,a.cU[i.cG.toNat]? =some q:=λh=>jq V
 unfold tS xB
 constructor
 .rintro⟨e,a2,a3,a4,f,b⟩
  unfold kQ pH Km at b
  refine⟨?_,?_,?_,?_,?_,?_,?_⟩<;>grind (splits:=24)
 .rintro⟨j,l,n,o,r,s,b⟩
  have g:=b 0 0
  have e:=b 1 1
  have a2:=b 2 2
  have a3:=b 1 4
  have a4:=b (da a.bR i.cG).length (da a.bR i.cG).length
  have f:∀q,a.cU[i.cG.toNat]? =some q->(i.op=9\/i.op=24->q.aY.length=i.aO.length)/\(i.op=10->q.aY.length=i.aO.length+1):=λq d=>by
   refine⟨λc=>?_,λc=>?_⟩
   .have:=b q.aY.length q.aY.length (by rw[aV V,aV V,aV V,a8 c];exact⟨q,d,O,O⟩);omega
   .have:=b (q.aY.length -1) (q.aY.length -1) (by rw[aV V,aV V,aV V,aV V,a8 c];exact⟨q,d,O,O⟩);omega
  refine⟨?_,?_,?_,?_,?_,?_⟩
  rotate_right
  .unfold kQ pH Km
   grind (splits:=24)
  all_goals grind
end
section
variable{b:D}{d:E}{c:cO}
def Jf{R ad al Q:E}(hd:dw b d c.bR)(ht:eT c.bR)(hf:oZ b R c.cU)(aF:c.cU.length<=4)(h3:∀q∈c.cU,q.aY.length<=3)
 {q:dS}(hc:iz b Q q.cD)(hr:q.aU<=2000){l:Nat}{e:Instr}{F N:E}(S:bg b F e.aO)(Z:bg b N e.fU):
 ir dP 48 [.agg #[d.v,R.v],.agg #[ad.v,al.v,vi q.bP,vi q.aU,Q.v],vi l,.agg #[vi e.op,vi e.bA,vi e.cG,vi e.cR,F.v,N.v]] b (iJ c q l e):=by
 apply uc
 simp -zeta only[dT]
 intro D A G v
 have s1:=pz D
 have s2:A.size=b.size+2:=cC
 have s3:G.size=b.size+3:=cC
 have s4:v.size=b.size+4:=cC
 have u:J b v:=by grind [J.cX,J.cz]
 have ag:dJ v A.size bG [.i l]:=(dJ.push A _ _).ext (J.push _ _)
 have ah:dJ v D.size lE [.s ad,.s al,.i q.bP,.i q.aU,.s Q]:=(dJ.push D _ _).ext ((J.push A _).cz _)
 have K:=NK (a:=c) (p:=q) (k:=l) (i:=e) h3
 have ap:=hc.aT
 have aB:=S.aT
 have aE:=Z.aT
 refine⟨λh=>gH (λf=>?_) u,λc0=>⟨λh=>gH (λf=>?_) u,λc1=>⟨λh=>gH (λf=>?_) u,λc2=>⟨λh=>gH (λf=>?_) u,λc3=>⟨λh=>gH (λf=>?_) u,λc4=>⟨λh=>gH (λf=>?_) u,λc5=>?_⟩⟩⟩⟩⟩⟩
 any_goals (have:=(K.1 f).1;simp at h;omega)
 simp at c0 c1 c2 c3 c4 c5
 have f1:0<=e.op/\e.op<=24/\e.op≠7/\e.op≠8/\e.op≠12/\e.op≠13:=V
 refine⟨λs=>J v s/\(0<=e.bA/\e.bA<q.aU/\(e.bA=0\/kT e.op)/\0<=e.cR/\e.cR<=q.aU/\(e.cR=0\/e.op=6)),?_,?_⟩
 .refine⟨λh=>gH (λf=>?_) u,λz=>⟨λh=>gH (λf=>?_) u,λB=>?_⟩⟩
  .grind
  .grind
  simp at z B
  have tail:∀s,J v s->(e.bA=0\/kT e.op)->((decide (e.cR<(0:Int)))=true->∃g:Bool,Value.bool false=.bool g/\(g=true<->iJ c q l e)/\J b s)/\((decide (e.cR<(0:Int)))=false->
   ((decide (e.cR>q.aU))=true->∃g:Bool,Value.bool false=.bool g/\(g=true<->iJ c q l e)/\J b s)/\((decide (e.cR>q.aU))=false->
   ((e.cR !=(0:Int))=true->((e.op !=(6:Int))=true->∃g:Bool,Value.bool false=.bool g/\(g=true<->iJ c q l e)/\J b s)/\((e.op !=(6:Int))=false->J v s/\(0<=e.bA/\e.bA<q.aU/\(e.bA=0\/kT e.op)/\0<=e.cR/\e.cR<=q.aU/\(e.cR=0\/e.op=6))))/\
   ((e.cR !=(0:Int))=false->J v s/\(0<=e.bA/\e.bA<q.aU/\(e.bA=0\/kT e.op)/\0<=e.cR/\e.cR<=q.aU/\(e.cR=0\/e.op=6))))):=by
   intro s C M
   have t:=u.N C
   refine⟨λh=>gH (λf=>?_) t,λI=>⟨λh=>gH (λf=>?_) t,λL=>⟨λx=>⟨λh=>gH (λf=>?_) t,λH=>⟨C,?_⟩⟩,λx=>⟨C,?_⟩⟩⟩⟩
   .grind
   .grind
   .grind
   .grind
   .grind
  refine⟨λh=>?_,λh=>tail v dt (bz cC)⟩
  refine(qL e.op v ⟨V,V⟩).bL dt cC λy s hb C _=>⟨y,O,λw=>gH (λf=>?_) (u.N C),λw=>tail s C (bH (yb hb w))⟩
  have:=(K.1 f).2.1.2.2.1
  grind
 .rintro s ⟨C,f2⟩
  refine iC (n:=e.aO.length) (oh S.kM) (λaa U=>J v U/\∀B∈e.aO.take aa,0<=B/\B<q.aU) ⟨C,bO⟩ ?_
  rintro aa H aA μ hn ⟨w,an⟩ ay
  have W:=u.N w
  refine dit (λh=>?_) λh=>?_
  .let⟨B,t⟩:=dY e.aO aa
   refine⟨V,V,B,by simpa using(S.ext W).br t,λx=>gH (λf=>?_) W,λx=>⟨λz=>gH (λf=>?_) W,λz=>ay V _ ⟨w,eI t an ?_⟩⟩⟩
   .have:=(K.1 f).2.2.1 B (ba t);simp at x;omega
   .have:=(K.1 f).2.2.1 B (ba t);simp at z;omega
   .simp at x z;omega
  .have ao:∀B∈e.aO,0<=B/\B<q.aU:=cC
   intro m7 I
   have s8:I.size=H.size+1:=by grind [bE]
   have z:J H I:=by grind [J.cX,J.cz,J.aW]
   have ak:=W.N z
   have af:aS I H.size 0=some (.func (.func 80) #[] #[vp A.size 0,vp D.size 0]):=
    (dJ.aW (m:=m7) (o:=0) (r:=[.fn (.func 80) #[] #[vp A.size 0,vp D.size 0]]) (dJ.push H _ _)).dg 0
   have aG:=w.aQ
   have aw:∀L,J I L->∀t,ir dP 80 [vi t,vp A.size 0,vp D.size 0] L ((l:Int)+1<=t/\t<=(q.cD.length:Int) -1):=λL x t=>by
    rw[<-ap];exact CS (ag.ext (w.N (z.N x))|>.dg 0) (ah.ext (w.N (z.N x))|>.dg 4)
   have mN:(e.fU.length=0\/e.op=21)->bJ dP 81 [N.v,.func (.func 82) #[] #[vp H.size 0]] I λaz P=>
    gT [G.size,b.size] I P/\∃ab:Bool,az=vb ab/\(ab=true->∃g:Bool,Value.bool false=.bool g/\(g=true<->iJ c q l e)/\J b P)/\
    (ab=false->∃M:Fn×Array Value×Array Value,aS P H.size 0=some (.func M.1 M.2.1 M.2.2)/\
    bJ dP 83 [.agg #[d.v,R.v],.agg #[vi e.op,vi e.bA,vi e.cG,vi e.cR,F.v,N.v],.func M.1 M.2.1 M.2.2] P λai T=>
    gT [G.size,b.size] P T/\∃Y:Bool,ai=vb Y/\((!Y)=true->∃g:Bool,Value.bool false=.bool g/\(g=true<->iJ c q l e)/\J b T)/\
    ((!Y)=false->bJ dP 84 [.agg #[d.v,R.v],.agg #[vi e.op,vi e.bA,vi e.cG,vi e.cR,F.v,N.v]] T λaj X=>
    gT [G.size,b.size] T X/\∃ac:Int,∃ae:Int,aj=.tuple #[vi ac,vi ae]/\
    ((decide ((F.len:Int)>=ac))=true->∃g:Bool,Value.bool (decide ((F.len:Int)<=ae))=.bool g/\(g=true<->iJ c q l e)/\J b X)/\
    ((decide ((F.len:Int)>=ac))=false->∃g:Bool,Value.bool false=.bool g/\(g=true<->iJ c q l e)/\J b X))):=by
    intro aq
    have hl:∀y∈[G.size,b.size],y<I.size:=cC
    refine(lC (Z.ext ak) 82 #[] #[vp H.size 0] cH (λt=>¬((l:Int)+1<=t/\t<=(Q.len:Int) -1)) (λt _ L x=>Oy (ag.ext (w.N (z.N x))|>.dg 0) (ah.ext (w.N (z.N x))|>.dg 4) (x.aS af))).bL dt hl ?_
    intro y L hb x _
    have g:=ak.N x
    refine⟨y,O,λaD=>gH (λf=>?_) g,λaC=>?_⟩
    .grind
    have ar:∀t∈e.fU,(l:Int)+1<=t/\t<=(q.cD.length:Int) -1:=λt aH=>by
     grind [E.len]
    refine⟨(.func 80,#[],#[vp A.size 0,vp D.size 0]),x.aS af,?_⟩
    have av:∀y∈[G.size,b.size],y<L.size:=by grind [J.lt]
    refine(Mq (dw.ext g hd) ht (oZ.ext g hf) (S.ext g) (Z.ext g) 80 #[] #[vp A.size 0,vp D.size 0] cH (λt=>(l:Int)+1<=t/\t<=(q.cD.length:Int) -1) (λU M=>by simpa using aw U (x.N M) e.cG)).bL dt av ?_
    intro b2 ax ae am _
    have U:=g.N am
    refine⟨b2,O,λh=>gH (λf=>nb ae h (K.1 f).2.2.2.2.2.1) U,λh=>?_⟩
    have ai:=yb ae h
    have au:∀y∈[G.size,b.size],y<ax.size:=by grind [J.lt]
    refine(P2 (dw.ext U hd) ht (oZ.ext U hf) (a:=F) (j:=N) ai).bL dt au ?_
    rintro _ aJ ⟨lo,hi,rfl,Y,ac⟩
    have aj:=U.N ac
    have aI:∀X T,xB c e X T->X=lo/\T=hi:=λX T M=>by
     unfold xB at Y M;repeat' (split at Y)
     all_goals simp_all
     all_goals (obtain⟨q1,e1,e2,e3⟩:=Y;simp_all)
    refine⟨ac,lo,hi,O,λh=>lI ?_ aj,λh=>gH (λf=>?_) aj⟩
    .rw[K]
     simp only[bh]at h⊢
     refine⟨λM=>⟨f1,f2,ao,aq,ar,ai,λX T h2=>?_⟩,λM=>?_⟩
     .grind
     grind
    .grind
   constructor<;>grind
def sQ{aa:E}(s:iW b d aa c):ir dP 24 [.agg #[d.v,aa.v]] b (gL c):=by
 apply Dd;simp -zeta only[dT];intro m1;obtain⟨ai,s1⟩:=pu m1;refine(zg (s.ext ai)).bL dt cC ?_;rintro _ X ⟨d',ac,ab,rfl,N,ah,L⟩;refine⟨L,d',ac,ab,O,?_⟩;intro m3 A;have s4:A.size=X.size+1:=by grind [bE]
 have h4:J X A:=by grind [J.cX,J.cz,J.aW]
 have T:J b A:=by grind [J.N]
 have:=L.aQ;have az:=s.cU.aT;have aA:=s.cU.kM;refine⟨λQ=>gH (λe=>nb N Q ⟨e.kX,λq u=>(e.eR q u).cW⟩) T,λhy=>?_⟩;let⟨y,ag⟩:=yb N hy;obtain⟨rfl,hf⟩:=ah cC;refine iC (n:=c.cU.length) V (λG w=>J A w/\∀q∈c.cU.take G,nH c q) ⟨dt,bO⟩ ?_;rintro G Y an μ Q ⟨x,M⟩ am
 have D:=T.N x;refine dit (λax=>?_) λar=>?_
 .let⟨q,u⟩:=dY c.cU G;let⟨H,U,I,ha,hl,t,g0,g1,g2,g3,g4⟩:=(s.ext D).cU.br u;refine⟨V,V,H,sp g0,U,sp g1,_,sp g2,_,sp g3,I,sp g4,?_⟩;intro m6 B;have s7:B.size=Y.size+1:=by grind [bE]
  have o:J Y B:=by grind [J.cX,J.cz,J.aW]
  have r:=D.N o;have ao:=ha.aT;have ap:=t.aT;have aq:=t.kM;have C:=ba u;refine⟨λg=>gH (λe=>?_) r,λe1=>⟨λg=>gH (λe=>?_) r,λe2=>⟨λg=>gH (λe=>?_) r,λe3=>⟨λg=>gH (λe=>?_) r,λe4=>?_⟩⟩⟩⟩
  .grind [gL.eR,nH.aU]
  .grind [gL.eR,nH.aU]
  .grind [gL.eR,nH.aT]
  .grind [gL.eR,nH.aT]
  have R:(q.aY.length:Int)<=q.aU/\1<=q.aU/\q.aU<=2000:=by
   grind
  have af:1<=q.cD.length/\q.cD.length<=2000:=cC;let⟨z,P⟩:=dY q.cD (q.cD.length -1);obtain⟨a0,j0,_,_,F,_⟩:=(iz.ext o t).br P;refine⟨λw=>J B w/\(z.op=23\/z.op=24),?_,?_⟩
  .have g:eV ((I.len:Int) -1)=((q.cD.length -1:Nat):Int):=by grind [dk]
   rw[g];refine⟨V,V,z.op,sp F,λf=>⟨λh=>gH (λe=>?_) r,λh=>⟨dt,bH cC⟩⟩,λf=>⟨dt,bz cC⟩⟩;have:=(e.eR q C).Dr z P;simp at f h;omega
  .rintro m8 ⟨h8,aw⟩;refine iC (n:=q.cD.length) V (λv w=>J B w/\∀(j:Nat)(f:Instr),j<v->q.cD[j]? =some f->iJ c q j f) ⟨h8,λj f hj=>V⟩ ?_;rintro v Z I2 μ2 hk ⟨h,ae⟩ al;refine dit (λay=>?_) λau=>?_
   .let⟨f,p⟩:=dY q.cD v;let⟨xa,xj,aj,ak,F,k1,k2,k3,k4,k5⟩:=(iz.ext (o.N h) t).br p;refine⟨V,V,_,sp F,_,sp k1,_,sp k2,_,sp k3,xa,sp k4,xj,sp k5,?_⟩;intro aB W;have aD:W.size=Z.size+1:=by grind [bE]
    have m:J Z W:=by grind [J.cX,J.cz,J.aW]
    have S:=(r.N h).N m;have q1:=h.aQ;have q2:=x.aQ;refine(Jf (ad:=H) (al:=U) (dw.ext S s.bR) y.dj (oZ.ext (h4.N (x.N (o.N (h.N m)))) hf) y.aT.2 (λq' K=>(y.eR q' K).1) (iz.ext (o.N (h.N m)) t) R.2.2 (l:=v) (e:=f) (aj.ext m) (ak.ext m)).bL dt cC ?_;intro b' aC ad K _;refine⟨b',O,λg=>gH (λe=>nb ad g ((e.eR q C).eR v f p)) (S.N K),λg=>al V _ ⟨h.N (m.N K),λj i' hj av=>?_⟩⟩;grind [Nat.lt_succ_iff_lt_or_eq]
   .refine am V _ ⟨x.N (o.N h),eI u M ⟨ag q C,R,af,λj f p=>ae j f (oh (bC p)) p,λf p=>?_⟩⟩
    grind
 .exact pX ⟨y,iB V M⟩ D
end
section
variable{m:D}{s:E}{k:Nat}{γ:Type}
def Uy(m:D)(a:ae)(c:dz):Prop:=∃f,a=[.i c.bX,.i c.jH,.s f]/\bg m f c.bV
def Pm(m:D)(a:ae)(f:bS):Prop:=∃r o h,a=[.i f.fN,.i f.pc,.i f.bA,.s r,.s o,.s h]/\bg m r f.aU/\bg m o f.bF/\bg m h f.cL
abbrev jI(m:D)(s:E)(l:ah):Prop:=fY m 3 (Uy m) s l
abbrev pe(m:D)(s:E)(l:aj):Prop:=fY m 6 (Pm m) s l
def Uy.ext{m b:D}(g:J m b)(a:ae)(c:dz):Uy m a c->Uy b a c:=λ⟨f,d,e⟩=>⟨f,d,e.ext g⟩
def jI.ext{m b:D}(a:J m b){s:E}{l:ah}(h:jI m s l):jI b s l:=h.aP a (Uy.ext a)
def Pm.ext{m d:D}(a:J m d)(b:ae)(c:bS):Pm m b c->Pm d b c:=λ⟨r,o,h,e,f,g,i⟩=>⟨r,o,h,e,f.ext a,g.ext a,i.ext a⟩
def pe.ext{m b:D}(a:J m b){s:E}{l:aj}(h:pe m s l):pe b s l:=h.aP a (Pm.ext a)
theorem jI.br{l:ah}(h:jI m s l){x:dz}(c:l[k]? =some x):
 ∃f,bg m f x.bV/\aS m s.bt (s.off+k*3)=some (vi x.bX)/\aS m s.bt (s.off+k*3+1)=some (vi x.jH)/\aS m s.bt (s.off+k*3+2)=some f.v:=by
 obtain⟨d,⟨f,rfl,b⟩,a⟩:=h.kv k x c
 exact⟨f,b,a 0 (.i x.bX) O,a 1 (.i x.jH) O,a 2 (.s f) O⟩
theorem pe.br{l:aj}(h:pe m s l){x:bS}(b:l[k]? =some x):
 ∃r o e,bg m r x.aU/\bg m o x.bF/\bg m e x.cL/\aS m s.bt (s.off+k*6)=some (vi x.fN)/\aS m s.bt (s.off+k*6+1)=some (vi x.pc)/\aS m s.bt (s.off+k*6+2)=some (vi x.bA)/\
  aS m s.bt (s.off+k*6+3)=some r.v/\aS m s.bt (s.off+k*6+4)=some o.v/\aS m s.bt (s.off+k*6+5)=some e.v:=by
 obtain⟨f,⟨r,o,e,rfl,d,c,a⟩,ni⟩:=h.kv k x b
 exact⟨r,o,e,d,c,a,ni 0 (.i x.fN) O,ni 1 (.i x.pc) O,ni 2 (.i x.bA) O,ni 3 (.s r) O,ni 4 (.s o) O,ni 5 (.s e) O⟩
theorem _root_.Go.Vc.fY.uG{l:ab}(h:fY m 1 aba s l){i:Int}(a:0<=i)(b:i<l.length):aS m s.bt (s.off+i.toNat*1)=some (vi (br l i)):=bg.br h (jJ a b)
@[grind cases] structure RV (m:D) (mb o:Nat) (d p cJ hp fr:E) (im:cO) (s:St):Prop where
 iu:iW m d p im
 bR:aS m mb 0=some d.v
 cU:aS m mb 1=some p.v
 dx:aS m mb o=some (vi s.dx)
 kY:aS m mb (o+1)=some (vi s.kY)
 dv:aS m mb (o+2)=some (vi s.dv)
 df:aS m mb (o+3)=some (vi s.df)
 afV:aS m mb (o+4)=some cJ.v
 wL:aS m mb (o+5)=some hp.v
 TB:aS m mb (o+6)=some fr.v
 cJ:bg m cJ s.cJ
 aR:jI m hp s.aR
 bo:pe m fr s.bo
def RV.ext{m f:D}{g o:Nat}{d p cJ c b:E}{e:cO}{s:St}(h:RV m g o d p cJ c b e s)(a:J m f):RV f g o d p cJ c b e s:=
 ⟨h.iu.ext a,a.aS h.bR,a.aS h.cU,a.aS h.dx,a.aS h.kY,a.aS h.dv,a.aS h.df,a.aS h.afV,a.aS h.wL,a.aS h.TB,h.cJ.ext a,jI.ext a h.aR,pe.ext a h.bo⟩
def adL{P:Nat->Prop}:∀(n:Nat),P n->∃k,P k/\∀j,P j->k<=j:=by
 intro n;induction n using Nat.strongRecOn with
 |_ n c=>
  intro d;rcases fS (∃j,j<n/\P j)with⟨j,a,b⟩|e
  .exact c j a b
  .grind
def Uq{σ:Type}{p:σ}{j:(σ->D->Prop)->(σ->D->Nat)->σ->D->Prop}(J:γ->σ->D->Prop)(ν:γ->Nat)(l:γ)(r:J l p m)
 (q:∀(g:γ)(s:σ)(a:D)(I:σ->D->Prop)(μ:σ->D->Nat),J g s a->(∀b d c,J b d c->ν b<ν g->I d c/\μ d c<μ s a)->j I μ s a):
 ∃(I:σ->D->Prop)(μ:σ->D->Nat),I p m/\∀s a,I s a->j I μ s a:=by
 classical
 let I:σ->D->Prop:=λs m=>∃g,J g s m
 have h:∀s m,I s m->∃k,(∃g,J g s m/\ν g=k)/\∀o,(∃g,J g s m/\ν g=o)->k<=o:=λs m⟨g,i⟩=>adL (ν g) ⟨g,i,O⟩
 let μ:σ->D->Nat:=λs m=>if e:I s m then Classical.choose (h s m e)else 0
 refine⟨I,μ,⟨l,r⟩,λs a e=>?_⟩
 let⟨g,i,u⟩:=(iS (h s a e)).1
 refine q g s a I μ i λb d c f t=>⟨⟨b,f⟩,?_⟩
 have n:I d c:=⟨b,f⟩
 simp only[μ,dif_pos e,dif_pos n]
 exact wH ((iS (h d c n)).2 _ ⟨b,f,O⟩) (u▸t)
def YM{d:(D->Prop)->(D->Nat)->D->Prop}(J:γ->D->Prop)(ν:γ->Nat)(e:γ)(f:J e m)
 (h:∀(g:γ)(a:D)(I:D->Prop)(μ:D->Nat),J g a->(∀c b,J c b->ν c<ν g->I b/\μ b<μ a)->d I μ a):
 ∃(I:D->Prop)(μ:D->Nat),I m/\∀a,I a->d I μ a:=by
 let⟨I,μ,i,j⟩:=Uq (σ:=Unit) (p:=()) (j:=λI μ _ a=>d (I ()) (μ ()) a) (λg _ m=>J g m) ν e f (λg _ a I μ k l=>h g a (I ()) (μ ()) k λc b=>l c () b)
 exact⟨I (),μ (),i,j ()⟩
end
section
variable{m g:D}{s d p a j t o e:E}{b r:ab}{f:Nat}{h:ap}{K:ak}{w:Int}{c:cO}{x:Instr}
def _root_.Go.Vc.fY.Fb(h:fY m 1 aba s b):jw m s.bt s.off (b.map Ce.i):=λi d a=>by
 rw[eB]at a;obtain⟨x,c,rfl⟩:=jL.1 a;have:=bg.br h c;rw[IN]at this;exact this
def sM(f:Nat)(h:ap)(m:D)(b:ab):Prop:=bJ dP f h m λv a=>∃s,v=s.v/\js m a bG 1 s (b.map Ce.i)/\J m a
def sM.cg(c:sM f h m b)(i:b.length<=1000000000)(e:∀s a,js m a bG 1 s (b.map Ce.i)->bg a s b->J m a->K s.v a):bJ dP f h m K:=
 c.aP λ_ _⟨s,d,a,g⟩=>d▸e s _ a (bg.jT a V) g
def sM.bL{c:ad}(g:sM f h m b)(l:b.length<=1000000000)(i:∀a∈c,a<m.size)(k:∀s a,js m a bG 1 s (b.map Ce.i)->bg a s b->J m a->K s.v a):bJ dP f h m λv a=>gT c m a/\K v a:=
 g.aP λ_ _⟨s,j,d,e⟩=>⟨e.fg i,j▸k s _ d (bg.jT d V) e⟩
def ji:ir dP 162 [vi w] m (1000<=w):=by
 apply FJ;exact lI bO dt
def oT{a:E}{h:ah}(j:jI m a h)(B: -9223372036854775808<=w/\w<=9223372036854775807):ir dP 171 [a.v,vi w] m (iR h w):=by
 apply Lq;have y:=j.aT;have z:=j.kM;have o:eV ((a.len:Int) -1)=(a.len:Int) -1:=gJ;rw[o];refine(dm).cg λn C i c=>⟨n,O,λu=>?_,λt=>?_⟩
 .refine(ji).cg λb2 D l g=>⟨b2,O,λs=>?_,λr=>gH (λb=>fb l r b.1) (c.N g)⟩;have k:=l.1 s;have p:eV (w -1000)=w -1000:=gJ;rw[p]at i⊢;have A:=i.1 u;let⟨e,b⟩:=dY h ((w -1000).toNat);obtain⟨f,x,q,_⟩:=(jI.ext (c.N g) j).br b;refine⟨V,V,e.bX,q,lI ?_ (c.N g)⟩;simp only[bh];refine⟨λa=>⟨k,e,b,a⟩,λ⟨_,v,d,a⟩=>?_⟩;unfold ix at d;rw[b]at d;simp at d;subst d;exact a
 .refine gH (λ⟨k,e,b,_⟩=>fb i t ?_) c;have:=bC b;unfold ix at this;rw[gJ];omega
def Q3{a:Int}:ir dP 115 [vi a] m (ms a):=by
 apply Lp;refine⟨λh=>pX ?_ dt,λh=>⟨λb=>pX ?_ dt,λb=>lI ?_ dt⟩⟩<;>simp[ms]at* <;>omega
def Qe{q:dS}(a:c.cU[x.cG.toNat]? =some q)(k:Nat):jv c x k=true<->(k:Int)∈q.cW:=by
 grind [jv,dE,List.any_eq_true]
def Ed(c:cO)(x:Instr):Prop:=(x.op=9\/x.op=24)->0<=x.cG/\∃q,c.cU[x.cG.toNat]? =some q
theorem iJ.jt{p:dS}{k:Nat}(h:iJ c p k x):Ed c x:=λe=>by
 have a:=h.op;unfold kQ at a;rw[aV V,aV V,aV V,aV V,a8 e]at a;obtain⟨q,b,d,_⟩:=a;exact⟨b,q,d⟩
def wA(h:iW m d p c)(z:Ed c x)(a j:E)(k:Nat):
 ir dP 164 [.agg #[d.v,p.v],.agg #[vi x.op,vi x.bA,vi x.cG,vi x.cR,a.v,j.v],vi k] m ((x.op=9\/x.op=24)/\jv c x k=true):=by
 apply JP
 simp -zeta only[dT]
 intro o f
 have n:J m f:=((J.cX m).cz _).cz _
 have A:∀b∈[o.size,m.size],b<f.size:=by simp[f,o];omega
 have M:=h.cU.aT
 have q:∀e:x.op=9\/x.op=24,(0:Int)<=x.cG/\x.cG<(p.len:Int)/\∃u:E,aS f p.bt (p.off+x.cG.toNat*5+1)=some u.v/\
  bJ dP 174 [u.v,vi k] f λr s=>gT [o.size,m.size] f s/\∃t:Bool,r=vb t/\∃b:Bool,vb t=.bool b/\(b=true<->((x.op=9\/x.op=24)/\jv c x k=true))/\J m s:=λe=>by
  let⟨v,P,l⟩:=z e
  let⟨D,C,F,K,B,L,G,g1,g2,H,I⟩:=(h.ext n).cU.br l
  have:=bC l
  refine⟨v,V,C,g1,(fI B _).bL dt A λb N y w _=>⟨b,O,lI ?_ (n.N w)⟩⟩
  rw[y,Qe l]
  exact⟨λh=>⟨e,h⟩,λh=>h.2⟩
 refine⟨λi=>q (bz (sp i)),λi=>⟨λg=>q (bH (sp g)),λg=>gH (λ⟨e,_⟩=>?_) n⟩⟩
 simp at i g;omega
def MM{a:Int}:ir dP 163 [vi a] m (a=6\/a=9\/a=10\/a=11):=by
 apply wO;refine⟨λh=>pX ?_ dt,λh=>⟨λb=>pX ?_ dt,λb=>⟨λc=>pX ?_ dt,λc=>lI ?_ dt⟩⟩⟩<;>simp at* <;>omega
def lT(c:cO)(x:Instr)(n:Nat):ab:=je c x 0 (x.aO.take n)
theorem sD(c:cO)(x:Instr):∀(b r:ab)(k:Nat),je c x k (b++r)=je c x k b++je c x (k+b.length) r
 |[],r,k=>by simp[je]
 |a::b,r,k=>by
  have:=sD c x b r (k+1);grind [je,List.length_cons,List.length]
theorem yv(c:cO)(x:Instr):∀(b:ab)(k:Nat),(je c x k b).length<=b.length
 |[],k=>bY
 |a::b,k=>by
  have:=yv c x b (k+1);grind [je]
def Nu(c:cO)(x:Instr):(cq c x).length<=x.aO.length:=by
 grind [cq,yv]
def J.xh{a c:D}(f:J g a)(h:J g c){b:ad}(d:∀x∈b,x<g.size):gT b a c:=λx e=>by rw[f.bB x (d x e),h.bB x (d x e)]
def sj{v:Int}{K:E->D->Prop}(c:js g m bG 1 s (b.map Ce.i))(d:J g m)(n:b.length<1000000000)
 (l:∀r a,js g a bG 1 r ((b++[v]).map Ce.i)->J g a->K r a):
 mf (m.push (.cells (dh [.i v]) bG)) bG [.i (0:Int)] 8 s (E.mk m.size 0 1 1) K:=by
 have o:s.len=b.length:=by have:=c.aT;simp at this;omega
 refine js.fE (c:=[.i 0]) (i:=[.i v]) (c.ext (J.push _ _)) (d.cz _) O (dJ.push m _ _).kv fu λr a e f h i j k=>?_
 grind
def O8(P:iW m d p c)(U:Ed c x)(A:bg m a x.aO)(ai:x.aO.length<=1000000)(Q:(x.op=16\/x.op=17)->1<=x.aO.length):
 sM 117 [.agg #[d.v,p.v],.agg #[vi x.op,vi x.bA,vi x.cG,vi x.cR,a.v,j.v]] m (cq c x):=by
 apply J4
 simp -zeta only[dT]
 intro F f M
 have q:J m f:=((J.cX m).cz _).cz _
 have s2:f.size=m.size+2:=cC
 have R:=px M
 have C:js f M bG 1 (.mk f.size 0 0 0) []:=by grind [js.bI,J.cX]
 have s1:=pz F
 have ac:=A.aT
 have w:∀o∈[F.size,m.size],o<f.size:=cC
 have ad:∀{h s b},js f h bG 1 s b->js m h bG 1 s b:=λC=>C.de q.aQ
 refine⟨λN h=>J f h/\js f h bG 1 (.mk f.size 0 0 0) []/\(N=true<->(x.op=15\/x.op=6\/x.op=10\/x.op=11\/x.op=18\/x.op=23\/x.op=9\/x.op=24)),?_,?_⟩
 .refine(MM).bL R w λo t v i D=>⟨o,O,λB=>⟨D,C.ext i,by have:=v.1 B;simp;omega⟩,λH=>?_⟩
  have g:=fb v H
  constructor<;>grind [js.ext]
 .rintro N t ⟨i,I,K⟩
  refine⟨λY=>?_,λX=>?_⟩
  .have T:=K.1 Y
   refine gN (n:=x.aO.length) V (λk s h=>J f h/\js f h bG 1 s ((if x.op=9\/x.op=24 then lT c x k else x.aO.take k).map Ce.i)) ⟨i,by simpa[lT,je]using I⟩ ?_
   rintro k s m5 ab μ hk ⟨G,W⟩ aa
   have L:=q.N G
   refine dit (λag=>?_) λae=>?_
   .let⟨y,g⟩:=dY x.aO k
    have aj:lT c x (k+1)=lT c x k++je c x k [y]:=by
     grind [lT,bW,sD]
    refine(wA (P.ext L) U a j k).bL G w λo m6 v S z=>⟨o,O,λB=>?_,λH=>?_⟩
    .have ah:=nb v B
     refine⟨V,V,y,by simpa using(A.ext (q.N z)).br g,?_⟩
     intro m7
     have af:(if x.op=9\/x.op=24 then lT c x k else x.aO.take k).length<=k:=by
      split
      .refine fC (yv _ _ _ _) ?_;simp;omega
      .simp;omega
     refine sj (W.ext S) z V λr Z q1 u=>?_
     refine⟨J.xh (z.cz _) u w,aa V _ _ ⟨u,?_⟩⟩
     grind [je,bW]
    grind [js.ext,je]
   .refine⟨s,O,?_,L⟩
    have B:cq c x=if x.op=9\/x.op=24 then lT c x k else x.aO.take k:=by
     have v:x.aO.take k=x.aO:=eY V;unfold cq lT;rw[v];by_cases e:x.op=9\/x.op=24
     .rw[aV V,aV V,a8 e,a8 e]
     .grind
    grind
  .have T:¬(x.op=15\/x.op=6\/x.op=10\/x.op=11\/x.op=18\/x.op=23\/x.op=9\/x.op=24):=λe=>by have:=K.2 e;rw[X]at this;simp at this
   have D:=q.N i
   have mE:∀e:x.op=16\/x.op=17,(0:Int)<=(0:Int)/\(0:Int)<(a.len:Int)/\∃v:Int,aS t a.bt (a.off+Int.toNat (0:Int)*1)=some (vi v)/\
    mf (t.push (.cells (dh [.i v]) 3)) 3 [.i (0:Int)] 8 (E.mk f.size 0 0 0) (E.mk t.size 0 1 1) λG k=>gT [F.size,m.size] (t.push (.cells (dh [.i v]) 3)) k/\∃s,G.v=s.v/\js m k bG 1 s ((cq c x).map Ce.i)/\J m k:=λe=>by
    have H:=Q e
    let⟨y,g⟩:=dY x.aO 0
    refine⟨V,V,y,by simpa using(A.ext D).br g,sj (b:=[]) I i bO λr Z q1 u=>⟨J.xh (i.cz _) u w,r,O,?_,q.N u⟩⟩
    have B:cq c x=[y]:=by
     unfold cq;rw[aV V,a8 e];cases z:x.aO with
     |nil=>rw[z]at g;simp at g
     |cons L b=>rw[z]at g;simp at g;subst g;rfl
    grind
   constructor<;>grind [cq]
def ru(c:bg m s b)(l:b.length<=1000000000):sM 55 [s.v] m b:=by
 apply rP;intro d;have a:=px d;have g:js m d bG 1 (.mk m.size 0 0 0) []:=by grind [js.bI,J.cX]
 have f:=c.aT;refine js.fE (c:=[.i 0]) (i:=b.map Ce.i) g a (by simp[f]) (c.ext a).Fb cC λr n a e h i j k=>⟨r,O,sp a,e⟩
def QY(h:bg m s b)(c:bg m t r)(p:b.length+r.length<=1000000000):sM 215 [s.v,t.v] m (b++r):=by
 apply zr;refine(ru h V).cg V λq w d e a=>⟨q,O,?_⟩;have i:=c.aT;have o:=e.aT;refine js.fE (c:=[.i 0]) (i:=r.map Ce.i) d a (by simp[i]) (c.ext a).Fb V λu v f g j k l n=>⟨u,O,sp f,g⟩
def sH(c:bg m s b):ir dP 169 [s.v] m (Em b):=by
 apply Jx;have g:=c.aT;refine iC (n:=b.length) (g▸c.kM) (λk a=>J m a/\∀y∈b.take k,y=0) ⟨dt,bO⟩ ?_;rintro k o I μ l ⟨a,f⟩ j
 refine⟨λh=>?_,λh=>pX (iB cC f) a⟩;simp only[bh]at h;let⟨x,d⟩:=dY b k;refine⟨V,V,x,by simpa using a.aS (c.br d),λe=>gH (λi=>?_) a,λe=>j V _ ⟨a,eI d f cC⟩⟩;have:=i x (ba d);simp at e;omega
def FY(c:bg m s b):ir dP 165 [s.v] m (∀o∈b,0<=o):=by
 apply Bf;have g:=c.aT;refine iC (n:=b.length) (g▸c.kM) (λk a=>J m a/\∀y∈b.take k,0<=y) ⟨dt,bO⟩ ?_;rintro k p I μ l ⟨a,f⟩ j
 refine⟨λh=>?_,λh=>pX (iB cC f) a⟩;simp only[bh]at h;let⟨x,d⟩:=dY b k;refine⟨V,V,x,by simpa using a.aS (c.br d),λe=>gH (λi=>?_) a,λe=>j V _ ⟨a,eI d f cC⟩⟩;have:=i x (ba d);simp at e;omega
def vh(d:bg m s b)(f:bg m t r):ir dP 210 [s.v,t.v] m (b=r):=by
 apply HW;have j:=d.aT;have q:=f.aT;refine⟨λh=>gH (λe=>by subst e;simp at h;omega) dt,λh=>?_⟩;simp at h;refine iC (n:=b.length) (j▸d.kM) (λk a=>J m a/\b.take k=r.take k) ⟨dt,bO⟩ ?_;rintro k u I μ p ⟨a,l⟩ o
 refine⟨λh=>?_,λh=>pX cC a⟩;simp only[bh]at h;let⟨x,g⟩:=dY b k;let⟨y,i⟩:=dY r k;refine⟨V,V,x,by simpa using a.aS (d.br g),V,V,y,by simpa using a.aS (f.br i),λc=>gH (λe=>?_) a,λc=>o V _ ⟨a,?_⟩⟩
 .grind
 .rw[bW g,bW i,l];simp at c;rw[c]
abbrev fv(f:bS)(r o h:E):Value:=.agg #[vi f.fN,vi f.pc,vi f.bA,r.v,o.v,h.v]
abbrev xv(x:Instr)(a j:E):Value:=.agg #[vi x.op,vi x.bA,vi x.cG,vi x.cR,a.v,j.v]
def Jw{f:bS}{r:E}(s:bg m r f.aU)(c:bg m a x.aO)(w:∀y∈x.aO,0<=y/\y<f.aU.length):
 ir dP 166 [fv f r o e,xv x a j] m (∀y∈x.aO,br f.aU y<1000):=by
 apply Dx
 simp -zeta only[dT]
 intro A i
 have u:J m i:=((J.cX m).cz _).cz _
 have z:∀b∈[A.size,m.size],b<i.size:=cC
 have v:=c.aT
 have K:=s.aT
 refine iC (n:=x.aO.length) (v▸c.kM) (λk d=>J i d/\∀y∈x.aO.take k,br f.aU y<1000) ⟨dt,bO⟩ ?_
 rintro k M I μ H ⟨t,q⟩ B
 have d:=u.N t
 refine⟨λl=>?_,λl=>pX (iB cC q) d⟩
 simp only[bh]at l
 let⟨y,g⟩:=dY x.aO k
 have h:=w y (ba g)
 refine⟨V,V,y,by simpa using d.aS (c.br g),h.1,V,br f.aU y,by simpa using d.aS (s.uG h.1 h.2),?_⟩
 refine(ji).bL t z λb N D C p=>⟨b,O,λG=>gH (λL=>?_) (u.N p),λF=>B V _ ⟨p,eI g q ?_⟩⟩
 .grind [ba]
 .grind
theorem tz(b r:ab):oF (b++r)=oF b++oF r:=by simp[oF]
def sk(b:ab):(oF b).length<=b.length:=List.length_filter_le _ _
def sZ(c:bg m s b)(z:b.length<=100000000):sM 209 [s.v] m (oF b):=by
 apply DK;intro g;have l:=px g;have q:js m g bG 1 (.mk m.size 0 0 0) []:=by grind [js.bI,J.cX]
 have y:=c.aT;refine gN (n:=b.length) V (λk s a=>J m a/\js m a bG 1 s ((oF (b.take k)).map Ce.i)) ⟨l,by simpa[oF]using q⟩ ?_;rintro k s A I μ w ⟨d,t⟩ i
 refine⟨λh=>?_,λh=>?_⟩
 .simp only[bh]at h;let⟨x,e⟩:=dY b k;refine⟨V,V,x,by simpa using d.aS (c.br e),?_⟩;refine(ji).cg λj B o a=>⟨j,O,λv=>?_,λp=>?_⟩
  .have f:=d.N a;refine⟨V,V,x,by simpa using f.aS (c.br e),?_⟩;intro C;refine sj (t.ext a) f (by have:=sk (b.take k);simp at this;omega) λr D E u=>i V _ _ ⟨u,?_⟩
   grind [bW,tz,oF]
  .refine i V _ _ ⟨d.N a,?_⟩
   rw[bW e,tz];have:oF [x]=[]:=by simp[oF];have:=fb o p;omega
   grind [js.ext]
 .grind [decide_eq_false_iff_not,eY]
def wD{f:bS}{r:E}(i:bg m r f.aU)(j:bg m s b)(v:∀y∈b,0<=y/\y<f.aU.length)(H:b.length<=100000000):
 sM 211 [fv f r o e,s.v] m (dR f b):=by
 apply Kc
 simp -zeta only[dT]
 intro a p
 have A:=px a
 have u:=px p
 have x:js a p bG 1 (.mk a.size 0 0 0) []:=by grind [js.bI,J.cX]
 have w:∀t∈[m.size],t<a.size:=by simp[a]
 have G:=j.aT
 have F:=i.aT
 refine gN (n:=b.length) V (λk s c=>J a c/\js a c bG 1 s ((dR f (b.take k)).map Ce.i)) ⟨u,by simpa[dR]using x⟩ ?_
 rintro k s K I μ D ⟨c,z⟩ B
 have l:=A.N c
 refine⟨λh=>?_,λh=>?_⟩
 .simp only[bh]at h
  let⟨y,d⟩:=dY b k
  have g:=v y (ba d)
  refine⟨V,V,y,by simpa using l.aS (j.br d),g.1,V,br f.aU y,by simpa using l.aS (i.uG g.1 g.2),?_⟩
  intro L
  refine sj z c (by simp[dR];omega) λN M C q=>⟨J.xh (c.cz _) q w,B V _ _ ⟨q,?_⟩⟩
  rw[bW d]
  simpa[dR]using C
 .grind [decide_eq_false_iff_not,eY,js.de,J.aQ]
end
section
variable{g:D}{b:bS}{t v d p h u j:E}{s:St}{c:ab}{q:Nat}{k:cO}{w:Int}{e:Nat->Int}{x:Instr}
def Nc{e:E}(L:bg g t b.aU)(ho:bg g v b.bF){s:E}(B:bg g s c)(ac:∀y∈c,0<=y/\y<b.aU.length)(al:b.aU.length=b.bF.length)(av:b.bF.length<=1000000)(ar:c.length<=1000000)
 (I:∀w∈b.bF,-1000000000<=w/\w<=1000000000):sM 116 [fv b t v e,s.v] g (bZ b.aU b.bF c):=by
 apply HQ
 simp -zeta only[dT]
 intro u
 have H:=px u
 have F:∀D∈[g.size],D<u.size:=by simp[u]
 have au:=B.aT
 have aq:=L.aT
 refine(ru (ho.ext H) V).bL V F λz m2 o2 i2 U=>⟨z,O,?_⟩
 have K:=i2.aT
 have nI:∀(d C bF:ab),bZ b.aU bF (d++C)=bZ b.aU (bZ b.aU bF d) C:=by
  intro d;induction d with
  |nil=>intro C bF;rfl
  |cons y d k=>intro C bF;simp only[eN,bZ,k]
 have lo:∀(d bF:ab)(x:Int),(∀w∈bF,x<=w)->∀w∈bZ b.aU bF d,x -d.length<=w:=by
  intro d;induction d with
  |nil=>intro bF x h w p;have:=h w p;simp;omega
  |cons y d k=>
   intro bF x h w p;simp only[bZ]at p;have:=k _ (x -1) (λG j=>by
    split at j
    .rcases fS (y.toNat<bF.length)with q|q
     .rcases uf j with j|j
      .have:=h _ (kE (i:=y.toNat) (a:=br bF y) (by obtain⟨M,A⟩:=jq q;rw[IV A];exact A));omega
      grind
     grind [iv,br,List.set_eq_of_length_le]
    .have:=h G j;omega) w p
   simp only[dD];omega
 refine iC (n:=c.length) V (λk j=>J u j/\js u j bG 1 z ((bZ b.aU b.bF (c.take k)).map Ce.i)) ⟨U,o2⟩ ?_
 rintro k m3 ah μ hk ⟨M,ae⟩ R
 have N:=H.N M
 refine⟨λh=>?_,λh=>?_⟩
 .simp only[bh]at h
  let⟨y,q⟩:=dY c k
  have j:=ac y (ba q)
  have am:=mz b.aU (c.take k) b.bF
  refine⟨V,V,y,by simpa using N.aS (B.br q),j.1,V,br b.aU y,by simpa using N.aS (L.uG j.1 j.2),?_⟩
  refine(ji).bL M F λD Q X W A=>⟨D,O,λZ=>?_,λai=>?_⟩
  .have P:=H.N A
   have G:=ae.ext W
   have i4:bg Q z (bZ b.aU b.bF (c.take k)):=bg.jT G V
   refine⟨V,V,y,by simpa using P.aS (B.br q),V,V,y,by simpa using P.aS (B.br q),j.1,V,br (bZ b.aU b.bF (c.take k)) y,i4.uG j.1 V,j.1,V,?_⟩
   have ao:=lo (c.take k) b.bF (-1000000000) (λw p=>(I w p).1) _ (gZ (l:=bZ b.aU b.bF (c.take k)) j.1 V)
   have aj:br (bZ b.aU b.bF (c.take k)) y<=1000000000:=by
    let⟨q',ag,ak⟩:=oB (c.take k) b.bF y.toNat _ (jJ (l:=bZ b.aU b.bF (c.take k)) j.1 V);have:=(I q' (ba ag)).2;omega
   have an:(c.take k).length<=1000000:=cC
   rw[gJ]
   rcases G.br with ad|⟨p,T,tail,e1,e2,e3,e4,e5⟩
   .rw[ad]at K;simp at K;omega
   .have af:z.off=0:=by rw[e1];rfl
    have Y:z.bt=p:=by rw[e1];rfl
    rw[af,Y]
    have aa:0+y.toNat*1=y.toNat:=V
    rw[aa]
    have ap:y.toNat<((bZ b.aU b.bF (c.take k)).map Ce.i).length:=cC
    refine⟨e3.gK cC,?_⟩
    intro m5
    have S:J u m5:=A.aW e2 _ _
    refine⟨J.xh A S F,R V _ ⟨S,?_⟩⟩
    rw[bW q,nI]
    simp only[bZ,a8 (X.1 Z)]
    refine⟨by rw[jQ,jE,<-jQ (f:=Ce.i)];exact G.aT,bH ⟨p,T,tail,e1,e2,?_,?_,e5⟩⟩
    .have:=dJ.aW (m:=Q) (o:=y.toNat) (r:=[.i (br (bZ b.aU b.bF (c.take k)) y -1)]) e3
     have e6:jm ((bZ b.aU b.bF (c.take k)).map Ce.i++tail) y.toNat [.i (br (bZ b.aU b.bF (c.take k)) y -1)]=(iv (bZ b.aU b.bF (c.take k)) y (br (bZ b.aU b.bF (c.take k)) y -1)).map Ce.i++tail:=by
      grind [jm,iv,List.map_set,List.set_append_left]
     grind
    grind [List.length_append,List.length_map,jE]
  .refine R V _ ⟨A,?_⟩
   rw[bW q,nI]
   grind [bZ,js.ext]
 .grind [decide_eq_false_iff_not,eY,js.de,J.aQ]
def jx{cJ o x:E}(a:RV g q 2 d p cJ o x k s)(L:1000<=w){c:dz}(i:s.aR[ix w]? =some c):
 bJ dP 172 [vp q 0,vi w] g λB u=>∃b,B=.agg #[vi c.bX,vi c.jH,b.v]/\bg u b c.bV/\J g u:=by
 apply yR (q,0)
 simp -zeta only[dT]
 intro z
 have l:=px z
 have j:=jI.ext l a.aR
 let⟨b,D,n,g1,g2⟩:=j.br i
 have I:=j.aT
 have K:=j.kM
 have y:=bC i
 unfold ix at y n g1 g2
 have e:eV (w -1000)=w -1000:=gJ
 rw[e]
 refine⟨o,l.aS a.wL,V,V,c.bX,n,c.jH,g1,b,g2,?_⟩
 intro A
 have r:J g A:=by grind [J.aW]
 let⟨v,F,M,N,t⟩:=(jI.ext r a.aR).br i
 unfold ix at t
 have H:v=b:=by
  obtain⟨C,G,_,_,m⟩:=a.aR.br i;unfold ix at m;have f:=l.aS m;have h:=r.aS m;rw[g2]at f;rw[t]at h;simp at f h;rw[E.YL]at f h;rw[f,h]
 grind
def zq{cJ L C:E}(B:RV g q 2 d p cJ L C k s)(G:jc s.aR e){z:E}(m:bg g z c)(I:∀w∈c,iR s.aR w)(Z:c.length<=1000000):
 ir dP 208 [vp q 0,z.v] g (oJ s.aR c):=by
 apply wC (q,0)
 have Y:=m.aT
 refine iC (n:=c.length) V (λo a=>J g a/\∀w∈c.take o,1000<=w->(bu s.aR w).bX+kG c (ix w)<=999999) ⟨dt,bO⟩ ?_
 rintro o m1 N μ T ⟨u,t⟩ M
 refine⟨λh=>?_,λh=>pX (iB cC t) u⟩
 simp only[bh]at h
 let⟨x,f⟩:=dY c o
 have l:=I x (ba f)
 have X:=nK l.1
 refine gN (n:=c.length) V (λj(v:Int) a=>J g a/\v=kG (c.take j) (ix x)) ⟨u,by simp[kG]⟩ ?_
 rintro j v m2 P μ2 S ⟨a,rfl⟩ y
 refine dit (λD=>?_) λD=>?_
 .let⟨A,r⟩:=dY c j
  have K:=BU (c.take j) (ix x)
  have H:=nj (c.take j) (ix x)
  have F:(c.take j).length<=1000000:=cC
  have Q:kG (c.take (j+1)) (ix x)=kG (c.take j) (ix x)+if A=x then 1 else 0:=by
   rw[bW r,qM];grind [kG]
  refine⟨V,V,A,by simpa using a.aS (m.br r),V,V,x,by simpa using a.aS (m.br f),λi=>y V _ _ ⟨a,?_⟩,λi=>y V _ _ ⟨a,?_⟩⟩
  .grind [gJ]
  grind
 .rw[eY V]
  have K:=BU c (ix x)
  have H:=nj c (ix x)
  let⟨r,W⟩:=dL l
  have U:=(G.iF _ (ba r)).hi
  refine⟨V,V,x,by simpa using a.aS (m.br f),?_⟩
  refine(jx (B.ext a) l.1 r).aP ?_
  rintro _ m3 ⟨b,rfl,R,i⟩
  have Q:eV ((bu s.aR x).bX+kG c (ix x))=(bu s.aR x).bX+kG c (ix x):=gJ
  refine⟨_,_,_,O,λA=>gH (λF=>?_) (a.N i),λA=>M V _ ⟨a.N i,eI f t λ_=>?_⟩⟩
  .have:=F x (ba f) l.1
   grind
  grind
theorem xH{h:ah}:oJ h (oF c)<->oJ h c:=by
 grind [oJ,nU,EU]
theorem abm{s:E}(h:bg g s c)(p:1<=c.length):bg g (E.cut s 1 s.len 1) (c.drop 1):=by
 have b:=h.aT;have i:=h.mr;have l:=h.kM;cases s with
 |nil=>simp at b;omega
 |Ec d v sp=>simp at b;omega
 |mk d v r o=>
  simp at b i l;refine⟨by simp[E.cut];omega,by simp[E.cut];omega,by simp[E.cut];omega,λn x a=>?_⟩;rw[rT]at a;have q:=bC a;let⟨f,j,ni⟩:=h.kv (1+n) x a;refine⟨f,j,λm e k=>?_⟩;have:=ni m e k;simp only[E.cut,E.nh,E.BV]at this⊢;rw[aV V];rw[<-this];congr 1;omega
def gB.um(h:gB k b){t:Int}(d:0<=t)(e:t<b.aU.length)(f:∀w∈b.aU,w<=9223372036854775807): -9223372036854775808<=br b.aU t/\br b.aU t<=9223372036854775807:=by
 have c:=gZ (l:=b.aU) d e;refine⟨?_,f _ c⟩;rcases h.ZF _ c with a|a
 .have:=a.1;omega
 .omega
def OV{cJ U fr:E}(n:RV g q 2 d p cJ U fr k s)(L:jc s.aR e)(N:bg g t b.aU)(M:bg g h b.cL)(l:bg g u x.aO)
 (K:gB k b)(ai:∀w∈b.aU,w<=9223372036854775807)(ak:∀y∈x.aO,0<=y/\y<b.aU.length)(aw:1<=x.aO.length/\x.aO.length<=4)(ax:x.op=16\/x.op=17):
 ir dP 173 [vp q 0,fv b t v h,xv x u j] g (GJ s.aR b x):=by
 apply yl (q,0)
 simp -zeta only[dT]
 intro m1 Z
 have a:J g Z:=((J.cX g).cz _).cz _
 have i:∀f∈[m1.size,g.size],f<Z.size:=cC
 have ap:=l.aT
 have az:=N.aT
 have av:=M.aT
 have ao:=l.mr
 have c:0<=br x.aO 0/\br x.aO 0<b.aU.length:=by grind [gZ]
 have P:br x.aO 0<b.cL.length:=by have:=K.lr;have:=K.lh;omega
 have al:=K.um c.1 c.2 ai
 refine⟨V,V,br x.aO 0,(l.ext a).uG V V,c.1,V,br b.aU (br x.aO 0),(N.ext a).uG c.1 c.2,U,a.aS n.wL,?_⟩
 unfold GJ
 simp only[]
 generalize aA:br b.aU (br x.aO 0)=w at*
 refine(oT (jI.ext a n.aR) al).bL dt i λf m3 m A _=>⟨f,O,λag=>gH (λB=>nb m ag B.1) (a.N A),λaf=>?_⟩
 have r:=yb m af
 let⟨C,ay⟩:=dL r
 have ar:=(L.iF _ (ba C)).fl
 have am:=a.N A
 refine((jx (n.ext am) r.1 C)).bL A i ?_
 rintro _ m4 ⟨fl,rfl,aj,S⟩
 have Q:=A.N S
 refine⟨S,_,_,_,O,(sZ aj V).bL (oh (sk (bu s.aR w).bV)) (λf m=>Q.lt (i f m)) λps m5 o5 Y h5=>⟨ps,O,V,V,V,?_⟩⟩
 have F:=Q.N h5
 have X:=a.N F
 have e1:(Int.toNat (1:Int))=1:=rfl
 have e2:(Int.toNat (u.len:Int))=u.len:=V
 rw[e1,e2]
 refine(wD (N.ext X) (abm (l.ext X) V) (λy o=>ak y (uF o)) cC).bL (by simp[dR];omega) (λf m=>F.lt (i f m)) λqs m6 o6 i6 H=>⟨qs,O,?_⟩
 have aa:=F.N H
 refine(vh (Y.ext H) i6).bL aa i λb2 m7 T h7 z=>⟨b2,O,λac=>?_,λab=>gH (λB=>fb T ab B.2.1) (a.N z)⟩
 have W:=T.1 ac
 refine(jx (n.ext (a.N z)) r.1 C).bL z i ?_
 rintro _ m8 ⟨an,rfl,au,I⟩
 have G:=z.N I
 refine⟨I,_,_,_,O,λy=>?_,λy=>?_⟩
 .simp at y
  have D:=a.N G
  refine⟨λo=>pX ⟨r,W,bz y,λe=>by simp at o;omega⟩ D,λo=>⟨V,V,br x.aO 0,(l.ext D).uG V V,c.1,V,br b.cL (br x.aO 0),(M.ext D).uG c.1 P,lI ?_ D⟩⟩
  grind [beq_eq_false_iff_ne]
 .simp at y
  refine(zq (n.ext (a.N G)) L (Y.ext ((H.N h7).N I)) (λR D=>L.qj (ba C) (nU.1 D).1 (nU.1 D).2) (oh (sk (bu s.aR w).bV))).bL G i λb3 m9 ad h9 R=>⟨b3,O,λae=>?_,λaq=>gH (λB=>?_) (a.N R)⟩
  .have ah:=xH.1 (ad.1 ae)
   have D:=a.N R
   refine⟨λo=>pX ⟨r,W,bH ah,λe=>by simp at o;omega⟩ D,λo=>⟨V,V,br x.aO 0,(l.ext D).uG V V,c.1,V,br b.cL (br x.aO 0),(M.ext D).uG c.1 P,lI ?_ D⟩⟩
   grind [beq_eq_false_iff_ne]
  grind [xH]
def MU{cJ P X:E}(a:RV g q 2 d p cJ P X k s)(A:gL k)(x:jc s.aR e)(hw: -9223372036854775808<=w/\w<=9223372036854775807):
 ir dP 170 [vp q 0,vi w] g (tQ k s.aR w):=by
 apply xr (q,0)
 simp -zeta only[dT]
 refine⟨P,a.wL,(oT a.aR hw).cg λf m1 j u=>⟨f,O,λae=>gH (λb=>nb j ae b.1) u,λad=>?_⟩⟩
 have N:=yb j ad
 let⟨z,ag⟩:=dL N
 have I:=x.iF _ (ba z)
 have ax:=(I.yZ ag).2
 refine(jx (a.ext u) N.1 z).aP ?_
 rintro _ i ⟨t,rfl,M,h2⟩
 refine⟨_,_,_,O,?_⟩
 intro m3 n
 have ai:=u.N h2
 have C:J i n:=by grind [J.cX,J.cz,J.aW]
 have s4:n.size=i.size+1:=by grind [bE]
 have hB:aS n i.size 1=some (vi (bu s.aR w).jH):=(dJ.aW (m:=m3) (o:=0) (r:=[.i (bu s.aR w).bX,.i (bu s.aR w).jH,.s t]) (dJ.push i _ _)).dg 1
 have l:∀f∈[i.size],f<n.size:=by simp[s4]
 have c:=ai.N C
 have K:=a.ext c
 have av:=a.iu.cU.aT
 have au:=A.kX.aT
 have al:(gU k.bR).length<=12:=by
  have:=tZ A.kX.dj k.bR.length;grind [qI]
 refine⟨d,K.bR,(vf K.iu.bR A.kX.dj).bL dt l λm5 v _=>⟨_,O,v.cK hB,p,(a.ext (c.N v)).cU,?_⟩⟩
 have T:eV ((bu s.aR w).jH -((gU k.bR).length:Int))=(bu s.aR w).jH -cT k:=gJ
 have U:eV ((p.len:Int) -1)=(p.len:Int) -1:=gJ
 rw[T,U]
 refine(dm).bL v l λb2 m6 L h6 h=>⟨b2,O,λac=>?_,λab=>gH (λb=>fb L ab ⟨b.2.1,oh b.2.2.1⟩) (c.N h)⟩
 have aw:=L.1 ac
 have B:=c.N h
 have y:=a.ext B
 let⟨aj,Q⟩:=dY k.cU (((bu s.aR w).jH -cT k).toNat)
 have ah:dE k ((bu s.aR w).jH -cT k)=aj:=by simp[dE,Q]
 obtain⟨S,l',c',aa,af,ao,Y,g1,_⟩:=y.iu.cU.br Q
 have am:=aa.aT
 have ar:=af.aT
 have aq:=M.aT
 have ap:=I.fl
 have W:eV ((t.len:Int)+1)=(t.len:Int)+1:=gJ
 rw[W]
 unfold tQ
 rw[ah]
 refine⟨p,y.cU,V,V,S,Y,λF=>⟨p,y.cU,V,V,l',g1,λG=>⟨λH=>?_,λH=>?_⟩,λG=>gH (λb=>?_) B⟩,λF=>gH (λb=>?_) B⟩
 .grind
 .simp at F G H
  refine(sZ (M.ext (C.N h)) V).bL (oh (sk (bu s.aR w).bV)) (λf j=>h.lt (l f j)) λps m7 o7 i7 Z=>⟨ps,O,?_⟩
  have D:=h.N Z
  refine(zq (a.ext (c.N D)) x i7 (λak R=>x.qj (ba z) (nU.1 R).1 (nU.1 R).2) (oh (sk (bu s.aR w).bV))).bL D l λb3 m8 an ak R=>⟨b3,O,lI ?_ (c.N R)⟩
  grind [xH]
 .grind
 .grind
def MV{cJ N F:E}(C:RV g q 2 d p cJ N F k s)(B:bg g h b.cL)(H:bg g u x.aO)(U:0<=x.cR/\x.cR<=b.cL.length)(W:b.cL.length<=1000000)
 (L:∀w∈b.cL,w≠0->1000<=w/\∃o,s.aR[ix w]? =some o):
 ir dP 167 [vp q 0,fv b t v h,xv x u j] g (Ko s.aR b x):=by
 apply xt (q,0)
 simp -zeta only[dT]
 intro m n
 have c:J g n:=((J.cX g).cz _).cz _
 have M:∀D∈[m.size,g.size],D<n.size:=by simp[n,m];omega
 have G:aS n m.size 4=some u.v:=(dJ.push m _ _).dg 4
 have R:=H.aT
 have T:=B.aT
 unfold Ko
 refine⟨λf=>pX (λr=>absurd (sp f) r) c,λf=>?_⟩
 simp at f
 have e:eV (x.cR -1)=x.cR -1:=gJ
 rw[e]
 have A:=(B.ext c).uG (i:=x.cR -1) V V
 refine⟨V,V,br b.cL (x.cR -1),A,λa=>pX (λ_ r=>absurd (sp a) r) c,λa=>?_⟩
 simp at a
 let⟨P,o,z⟩:=L _ (gZ (l:=b.cL) (i:=x.cR -1) V V) a
 refine⟨V,V,br b.cL (x.cR -1),A,(jx (C.ext c) P z).bL dt M ?_⟩
 rintro _ X ⟨Q,rfl,K,r⟩
 have S:=K.aT
 have I:bu s.aR (br b.cL (x.cR -1))=o:=by simp[bu,z]
 refine⟨r,_,_,_,O,r.cK G,lI ?_ (c.N r)⟩
 rw[I]
 simp
 exact⟨λy _ _=>V,λy=>oh (y f a)⟩
theorem ln(k:cO)(x:Instr):∀(c t:ab)(a:Nat),fx k x a (c++t)=fx k x a c++fx k x (a+c.length) t
 |[],t,a=>by simp[fx]
 |u::c,t,a=>by
  have:=ln k x c t (a+1);grind [fx,List.length_cons,List.length]
def Ba{cJ i Z:E}(o:RV g q 2 d p cJ i Z k s)(S:bg g t b.aU)(D:bg g u x.aO)(hF:gB k b)(af:∀w∈b.aU,w<=9223372036854775807)
 (ag:∀y∈x.aO,0<=y/\y<b.aU.length)(hc:Ed k x)(ai:x.op=9\/x.op=24):
 ir dP 168 [vp q 0,fv b t v h,xv x u j] g (tP k s.aR b x):=by
 apply xl (q,0)
 simp -zeta only[dT]
 intro X m
 have H:J g m:=((J.cX g).cz _).cz _
 have G:∀r∈[X.size,g.size],r<m.size:=by simp[m,X];omega
 have aa:=D.aT
 have ak:=S.aT
 refine iC (n:=x.aO.length) (aa▸D.kM) (λa c=>J m c/\∀y∈fx k x 0 (x.aO.take a),1000<=br b.aU y->iR s.aR (br b.aU y)) ⟨dt,by simp[fx]⟩ ?_
 rintro a m3 aj μ hk ⟨U,R⟩ K
 have l:=H.N U
 refine⟨λh=>?_,λh=>pX (by simp at h;rwa[eY V]at R) l⟩
 simp only[bh]at h
 let⟨y,I⟩:=dY x.aO a
 have f:=ag y (ba I)
 have C:=o.ext l
 have T:fx k x 0 (x.aO.take (a+1))=fx k x 0 (x.aO.take a)++fx k x a [y]:=by
  rw[bW I,ln];congr 2;simp;omega
 have F:(jv k x a=true->1000<=br b.aU y->iR s.aR (br b.aU y))->∀z∈fx k x 0 (x.aO.take (a+1)),1000<=br b.aU z->iR s.aR (br b.aU z):=λhh z c=>by
  rw[T]at c;rcases bT.1 c with c|c
  .exact R z c
  .simp only[fx]at c;split at c
   .rename_i e;simp at c;subst c;exact hh e
   .simp at c
 have ah:jv k x a=true->y∈fx k x 0 x.aO:=λe=>by
  have Y:x.aO=x.aO.take (a+1)++x.aO.drop (a+1):=(jW _ _).symm;rw[Y,ln,T];refine dO _ (na _ ?_);simp only[fx];rw[a8 e];simp
 refine⟨V,V,y,by simpa using l.aS (D.br I),f.1,V,br b.aU y,by simpa using l.aS (S.uG f.1 f.2),d,C.bR,p,C.cU,?_⟩
 refine(wA C.iu hc u j a).bL U G λr m4 N h4 L=>⟨r,O,λae=>?_,λad=>K V _ ⟨L,F λe=>absurd ⟨ai,e⟩ (fb N ad)⟩⟩
 have e:=(N.1 ae).2
 refine(ji).bL L G λb2 m5 P h5 A=>⟨b2,O,λac=>?_,λab=>K V _ ⟨A,F λ_ i=>absurd i (fb P ab)⟩⟩
 have W:=H.N A
 refine⟨i,(o.ext W).wL,(oT (jI.ext W o.aR) (hF.um f.1 f.2 af)).bL A G λb3 m6 Q h6 M=>⟨b3,O,λB=>gH (λhM=>nb Q B (hM y (ah e) (P.1 ac))) (H.N M),λB=>K V _ ⟨M,F λ_ _=>yb Q B⟩⟩⟩
end
section
@[grind cases] structure vY (im:cO) (s:St) (fs:aj) (f:bS) (x:Instr):Prop where
 ok:eJ im s
 af3:s.dx=3
 fr:s.bo=fs++[f]
 cur:bK im f=x
 Mi:∀g∈s.bo,∀w∈g.aU,w<=9223372036854775807
section
variable{b:cO}{s:St}{c:aj}{f:bS}{x:Instr}
theorem vY.F(a:vY b s c f x):gB b f:=a.ok.bo f (by rw[a.fr];simp)
def vY.RF(a:vY b s c f x):∀w∈f.aU,w<=9223372036854775807:=by grind [vY.Mi,vY.fr]
theorem vY.I(a:vY b s c f x):∃p,b.cU[f.fN.toNat]? =some p/\dE b f.fN=p/\nH b p/\p.cD[f.pc.toNat]? =some x/\iJ b p f.pc.toNat x:=by
 have:=a.F.AJ a.ok.iu;rwa[a.cur]at this
def vY.RO(a:vY b s c f x):f.aU.length=f.bF.length/\f.cL.length=f.bF.length/\1<=f.bF.length/\f.bF.length<=2000:=by
 grind [vY.I,vY.F,gB.lr,gB.lo,gB.lh,nH.aU]
theorem vY.arg(a:vY b s c f x):∀y∈x.aO,0<=y/\y<f.aU.length:=λy d=>by
 grind [vY.I,vY.F,gB.lr,iJ.aO]
def vY.bA(a:vY b s c f x):0<=x.bA/\x.bA<f.bF.length:=by
 grind [vY.I,vY.F,gB.lo,iJ.bA]
def vY.jt(a:vY b s c f x):Ed b x:=by grind [vY.I,iJ.jt]
def vY.opc(a:vY b s c f x):0<=x.op/\x.op<=24/\x.op≠7/\x.op≠8/\x.op≠12/\x.op≠13:=by
 obtain⟨p,_,_,e,_,d⟩:=a.I;grind [NK,nH.aU,vY.ok,eJ.iu,gL.kX,ny.aT,ny.eR]
def vY.oD(g:vY b s c f x):x.aO.length<=4/\((x.op=5\/x.op=14\/x.op=15\/x.op=18\/x.op=23\/x.op=19\/x.op=20\/x.op=21)->x.aO.length=1)/\((x.op=1\/x.op=2\/x.op=3\/x.op=4\/x.op=11)->x.aO.length=2)/\
 ((x.op=16\/x.op=17)->1<=x.aO.length)/\(x.op=6->0<=x.cR/\x.cR<=f.cL.length/\0<=x.cG/\x.cG<12/\x.aO.length<=3)/\(x.op=10->0<=x.cG/\x.cG<4/\x.aO.length<=3)/\(x.op=0->-999<=x.cG/\x.cG<=999):=by
 obtain⟨y,_,m,w,_,t⟩:=g.I
 have a:=t.op
 have p:=g.F.lh
 rw[m]at p
 have d:=g.ok.iu.kX
 have u:(gU b.bR).length<=12:=by
  have:=tZ d.dj b.bR.length;grind [qI]
 have v:=Ew d.dj x.cG
 unfold kQ at a
 by_cases h:x.op=0
 .rw[a8 h]at a;omega
 rw[aV h]at a
 by_cases i:x.op=1\/x.op=2\/x.op=3\/x.op=4\/x.op=11
 .rw[a8 i]at a;omega
 rw[aV i]at a
 by_cases j:x.op=5\/x.op=14\/x.op=15\/x.op=18\/x.op=23
 .rw[a8 j]at a;omega
 rw[aV j]at a
 by_cases n:x.op=6
 .grind
 rw[aV n]at a
 by_cases k:x.op=9\/x.op=24
 .rw[a8 k]at a
  let⟨q,o,e,r⟩:=a
  have:=(d.eR q (ba e)).1;omega
 rw[aV k]at a
 by_cases l:x.op=10
 .rw[a8 l]at a
  obtain⟨⟨q,o,e,r⟩,_⟩:=a
  have:=(d.eR q (ba e)).1
  have:=bC e
  have:=d.aT;omega
 rw[aV l]at a
 by_cases e:x.op=16\/x.op=17
 .grind
 rw[aV e]at a
 by_cases o:x.op=19
 .grind
 rw[aV o]at a
 by_cases q:x.op=20
 .grind
 grind
def vY.Qb(d:vY b s c f x):∀w∈f.cL,w≠0->1000<=w/\∃e,s.aR[ix w]? =some e/\e.bX<0:=λw h k=>by
 have g:1000<=w:=by have:=d.F.cL w h;omega
 refine⟨g,?_⟩;have j:0<gP s.bo (ix w):=by
  rw[d.fr,iZ,mI];have:=EC c (ix w);have:=zk (l:=f.cL) (f:=ix w) (by rw[nK g];exact h);omega
 exact fQ λi=>by have:=d.ok.uC (ix w) i;omega
def vY.TU(d:vY b s c f x):∀o∈f.bF,0<=o/\o<=999999:=λo h=>by
 refine⟨(d.F.NV o h),?_⟩;rcases fS (0<o)with i|i
 .let⟨k,e⟩:=db.1 h;have:=d.RO;let⟨w,j⟩:=dY f.aU k (oh (bC e));have m:=Qu d.F.NV j e (c:=ix w) (by rw[nK ((d.F.bF k o w e j).2 i)]);have n:o<=oO s.bo (ix w):=by
   rw[d.fr,jP,oP];have:=KW (b:=c) (λg l=>d.ok.bo g cC) (ix w);omega
  let⟨g,hd,l⟩:=d.ok.aR.lv (ix w) V;have p:=d.ok.aR.ex _ g hd l;have q:=KY s.aR (ix w);have r:=(d.ok.aR.iF g (ba hd)).hi;omega
 .omega
def vY.Pg(a:vY b s c f x):∀r∈cq b x,0<=r/\r<f.aU.length:=λr d=>a.arg r (ry d)
end
def Q5{o:D}{mb:Nat}{ag ar cJ d fr:E}{im:cO}{Y:St}(M:RV o mb 2 ag ar cJ d fr im Y){fs:aj}{n:bS}{x:Instr}(C:vY im Y fs n x){X ad h R al ow:E}(P:bg o X n.aU)(hh:bg o h n.cL)(K:bg o R x.aO){bF:ab}(U:bg o ow bF)(aw:bF.length=n.bF.length):
 ir dP 118 [vp mb 0,fv n X ad h,xv x R al,ow.v] o (iN im Y n x bF):=by
 apply yS (mb,0)
 simp -zeta only[dT]
 intro W Q
 have b:J o Q:=((J.cX o).cz _).cz _
 have i:∀g∈[W.size,o.size],g<Q.size:=by simp[Q,W];omega
 have ah:dJ Q W.size ee [.i x.op,.i x.bA,.i x.cG,.i x.cR,.s R,.s al]:=dJ.push W _ _
 have an:dJ Q o.size gS [.i n.fN,.i n.pc,.i n.bA,.s X,.s ad,.s h]:=(dJ.push o _ _).ext (J.push W _)
 have au:=K.aT
 have ay:=P.aT
 have ax:=U.aT
 have hd:=C.bA
 have av:=C.RO
 have H:=C.oD
 have hI:=C.ok.aR
 refine⟨λL=>J Q L/\(∀ad∈bF,0<=ad)/\(kT x.op->br bF x.bA<=0),?_,?_⟩
 .refine(FY (U.ext b)).bL dt i λg m3 c m _=>⟨g,O,λu=>gH (λl=>nb c u l.nn) (b.N m),λz=>?_⟩
  refine(Cy _ _).bL m i λb2 A y w a=>⟨b2,O,λu=>?_,λv=>⟨a,yb c z,λe=>absurd e (fb y v)⟩⟩
  refine⟨hd.1,V,br bF x.bA,(U.ext (b.N a)).uG hd.1 V,λk=>gH (λl=>?_) (b.N a),λk=>⟨a,yb c z,λ_=>by simpa using k⟩⟩
  have:=l.bA (y.1 u);simp at k;omega
 .rintro m3 ⟨m,q,p⟩
  have f:=b.N m
  have t:=M.ext f
  have B:1<=x.aO.length->0<=br x.aO 0/\br x.aO 0<n.aU.length:=λN=>C.arg _ (gZ V V)
  have F:∀{L},J o L->1<=x.aO.length->aS L R.bt (R.off+Int.toNat (0:Int)*1)=some (vi (br x.aO 0)):=λhx N=>(K.ext hx).uG V V
  have G:∀{L},J o L->1<=x.aO.length->aS L X.bt (X.off+Int.toNat (br x.aO 0)*1)=some (vi (br n.aU (br x.aO 0))):=λhx N=>(P.ext hx).uG (B N).1 (B N).2
  refine⟨λe=>?_,λe1=>?_⟩
  .simp only[eK,bQ]at e
   refine(Jw (P.ext f) (K.ext f) C.arg).bL m i λg A c w a=>⟨g,O,lI (c.trans ?_) (b.N a)⟩
   refine⟨λd=>?_,λh=>h.nZ V⟩
   refine⟨q,p,?_,?_,?_,?_,?_,?_,?_,?_,?_,?_,?_⟩<;>intro r<;>first|(exfalso;omega)|exact d
  simp only[cZ,bd]at e1
  refine⟨λe=>?_,λe2=>?_⟩
  .simp only[bQ]at e
   have j:=H.2.2.2.2.1 e
   refine(MV t (hh.ext f) (K.ext f) ⟨j.1,j.2.1⟩ V (λZ T S=>by obtain⟨N,s,I,_⟩:=C.Qb Z T S;exact⟨N,s,I⟩)).bL m i λg A c w a=>⟨g,O,lI (c.trans ?_) (b.N a)⟩
   refine⟨λd=>?_,λh=>h.jM e⟩
   refine⟨q,p,?_,?_,?_,?_,?_,?_,?_,?_,?_,?_,?_⟩<;>intro r<;>first|(exfalso;omega)|exact d
  simp only[bd]at e2
  refine⟨λe=>?_,λe3=>?_⟩
  .simp only[bQ]at e
   refine(Ba t (P.ext f) (K.ext f) C.F C.RF C.arg C.jt (bz e)).bL m i λg A c w a=>⟨g,O,lI (c.trans ?_) (b.N a)⟩
   refine⟨λd=>?_,λh=>h.cW (bz e)⟩
   refine⟨q,p,?_,?_,?_,?_,?_,?_,?_,?_,?_,?_,?_⟩<;>intro r<;>first|(exfalso;omega)|exact d
  simp only[bd]at e3
  refine⟨λe=>?_,λe4=>?_⟩
  .simp only[bQ]at e
   refine(Ba t (P.ext f) (K.ext f) C.F C.RF C.arg C.jt (bH e)).bL m i λg A c w a=>⟨g,O,λu=>?_,λz=>gH (λl=>fb c z (l.cW (bH e))) (b.N a)⟩
   refine(sH (U.ext (b.N a))).bL a i λb2 m5 y k s=>⟨b2,O,λaf=>?_,λv=>gH (λl=>fb y v (l.mQ (bz e)).1) (b.N s)⟩
   refine(sH (hh.ext (b.N s))).bL s i λb3 m6 I S j=>⟨b3,O,lI (I.trans ?_) (b.N j)⟩
   refine⟨λd=>?_,λh=>(h.mQ (bz e)).2⟩
   refine⟨q,p,?_,?_,?_,?_,?_,?_,?_,?_,?_,?_,?_⟩<;>intro r<;>first|(exfalso;omega)|exact c.1 u|exact⟨y.1 af,d⟩
  simp only[bd]at e4
  refine⟨λe=>?_,λe5=>?_⟩
  .simp only[bQ]at e
   have T:=H.2.1 V
   refine(sH (U.ext f)).bL m i λb2 m5 y k s=>⟨b2,O,λaf=>?_,λv=>gH (λl=>fb y v (l.mQ (bH e)).1) (b.N s)⟩
   refine(sH (hh.ext (b.N s))).bL s i λb3 m6 I S j=>⟨b3,O,λap=>?_,λao=>gH (λl=>fb I ao (l.mQ (bH e)).2) (b.N j)⟩
   have ac:=b.N j
   have ai:=M.ext ac
   have aa:=ai.bo.aT
   have jX:∀d:1<Y.bo.length\/br n.aU (br x.aO 0)<1000,iN im Y n x bF:=λd=>by
    refine⟨q,p,?_,?_,?_,?_,?_,?_,?_,?_,?_,?_,?_⟩<;>intro r<;>first|(exfalso;omega)|exact⟨y.1 af,I.1 ap⟩|exact d
   refine⟨fr,ai.TB,λZ=>pX (jX (bz (by simp at Z;omega))) ac,λZ=>?_⟩
   refine⟨V,V,_,F ac V,(B V).1,oh ((B V).2),_,G ac V,(ji).bL j i λb4 m7 ak h9 ae=>⟨b4,O,lI ?_ (b.N ae)⟩⟩
   simp at Z
   constructor
   .intro am
    exact jX (bH (oh (nb ak am)))
   .intro l
    rcases l.qv e with am|am
    .omega
    .have:¬b4=true:=λaq=>by have:=ak.1 aq;omega
     simpa using this
  simp only[bd]at e5
  refine⟨λe=>?_,λe6=>?_⟩
  .simp only[bQ]at e
   have T:=H.2.2.1 V
   have j:=B V
   refine⟨V,V,_,F f V,j.1,V,_,G f V,(MU t C.ok.iu hI (C.F.um j.1 j.2 C.RF)).bL m i λg A c w a=>⟨g,O,lI (c.trans ?_) (b.N a)⟩⟩
   refine⟨λd=>?_,λh=>h.apply e⟩
   refine⟨q,p,?_,?_,?_,?_,?_,?_,?_,?_,?_,?_,?_⟩<;>intro r<;>first|(exfalso;omega)|exact d
  simp only[bd]at e6
  refine⟨λe=>?_,λe7=>?_⟩
  .simp only[bQ]at e
   have T:=H.2.1 V
   have j:=B V
   refine⟨V,V,_,F f V,j.1,V,_,G f V,d,t.wL,(oT t.aR (C.F.um j.1 j.2 C.RF)).bL m i λg A c w a=>⟨g,O,λu=>?_,λz=>gH (λl=>fb c z (l.WQ e).1) (b.N a)⟩⟩
   have v:=c.1 u
   refine(jx (M.ext (b.N a)) v.1 (dL v).1).bL a i ?_
   rintro _ m5 ⟨fl,rfl,aa,k⟩
   refine⟨k,_,_,_,O,lI ?_ (b.N (a.N k))⟩
   simp only[bh]
   refine⟨λd=>?_,λh=>(h.WQ e).2⟩
   refine⟨q,p,?_,?_,?_,?_,?_,?_,?_,?_,?_,?_,?_⟩<;>intro r<;>first|(exfalso;omega)|exact⟨v,d⟩
  simp only[bd]at e7
  refine⟨λe=>?_,λe8=>?_⟩
  .simp only[bQ]at e
   have T:=H.2.1 V
   have j:=B V
   refine⟨V,V,_,F f V,j.1,V,_,G f V,(ji).bL m i λg A c w a=>⟨g,O,lI (c.trans ?_) (b.N a)⟩⟩
   refine⟨λd=>?_,λh=>h.uV e⟩
   refine⟨q,p,?_,?_,?_,?_,?_,?_,?_,?_,?_,?_,?_⟩<;>intro r<;>first|(exfalso;omega)|exact d
  simp only[bd]at e8
  refine⟨λe=>?_,λe9=>?_⟩
  .simp only[eK,bQ]at e
   refine(OV t hI (P.ext f) (hh.ext f) (K.ext f) C.F C.RF C.arg ⟨H.2.2.2.1 e,H.1⟩ e).bL m i λg A c w a=>⟨g,O,lI (c.trans ?_) (b.N a)⟩
   refine⟨λd=>?_,λh=>h.AL e⟩
   refine⟨q,p,?_,?_,?_,?_,?_,?_,?_,?_,?_,?_,?_⟩<;>intro r<;>first|(exfalso;omega)|exact d
  simp only[cZ,bd]at e9
  refine⟨λe=>?_,λac=>?_⟩
  .simp only[bQ]at e
   have T:=H.2.1 V
   have j:=B V
   refine⟨d,t.wL,V,V,_,F f V,j.1,V,_,G f V,(oT t.aR (C.F.um j.1 j.2 C.RF)).bL m i λg A c w a=>⟨g,O,λu=>?_,λz=>gH (λl=>fb c z (l.pV e).1) (b.N a)⟩⟩
   have v:=c.1 u
   have I:=b.N a
   refine⟨V,V,_,F I V,j.1,V,_,G I V,(jx (M.ext I) v.1 (dL v).1).bL a i ?_⟩
   rintro _ m5 ⟨fl,rfl,aa,k⟩
   have af:=aa.aT
   refine⟨k,_,_,_,O,k.cK ((ah.ext a).dg 2),lI ?_ (b.N (a.N k))⟩
   simp only[bh]
   refine⟨λd=>?_,λh=>oh ((h.pV e).2)⟩
   refine⟨q,p,?_,?_,?_,?_,?_,?_,?_,?_,?_,?_,?_⟩<;>intro r<;>first|(exfalso;omega)|exact⟨v,V⟩
  simp only[bd]at ac
  refine⟨λe=>?_,λaf=>?_⟩
  .simp only[bQ]at e
   have T:=H.2.1 V
   have j:=B V
   refine⟨d,t.wL,V,V,_,F f V,j.1,V,_,G f V,(oT t.aR (C.F.um j.1 j.2 C.RF)).bL m i λg A c w a=>⟨g,O,λu=>?_,λz=>gH (λl=>fb c z (l.ta e).1) (b.N a)⟩⟩
   have v:=c.1 u
   have I:=b.N a
   have l:=M.ext I
   refine⟨ag,l.bR,V,V,_,F I V,j.1,V,_,G I V,(Fp l.iu.bR C.ok.iu.kX.dj).bL a i ?_⟩
   rintro _ m5 ⟨cs,rfl,ai,k⟩
   have s:=a.N k
   refine⟨k,cs,O,k.cK (G I V),k.cK (F I V),k.cK ((ah.ext a).dg 4),k.cK ((an.ext a).dg 3),(jx (M.ext (b.N s)) v.1 (dL v).1).bL s i ?_⟩
   rintro _ m6 ⟨fl,rfl,aa,S⟩
   refine⟨S,_,_,_,O,(fI (ai.ext S) _).bL (s.N S) i λb2 m7 y Z ae=>⟨b2,O,lI (y.trans ?_) (b.N ae)⟩⟩
   refine⟨λd=>?_,λh=>(h.ta e).2⟩
   refine⟨q,p,?_,?_,?_,?_,?_,?_,?_,?_,?_,?_,?_⟩<;>intro r<;>first|(exfalso;omega)|exact⟨v,d⟩
  .simp only[bd]at af
   refine pX ?_ f
   refine⟨q,p,?_,?_,?_,?_,?_,?_,?_,?_,?_,?_,?_⟩<;>intro r<;>exfalso<;>omega
end
section
variable{p:Nat->Prop}{o n:Nat}{new:ae}{i:Int}{f:E}
@[grind cases] structure eu (p:Nat->Prop) (ro:ag) (m:D) (ro':ag) (m':D):Prop where
 aQ:m.size<=m'.size
 jZ:∀b,b<m.size->ro' b=ro b
 bI:∀b,m'.size<=b->ro' b=0
 fH:∀b,b<m.size->¬p (ro b)->m'[b]? =m[b]?
def eu.cX(p:Nat->Prop){a:ag}{m:D}(h:∀b,m.size<=b->a b=0):eu p a m a m:=by constructor<;>grind
theorem eu.N{g i j:ag}{d e f:D}(a:eu p g d i e)(k:eu p i e j f):eu p g d j f:=
 ⟨fC a.aQ k.aQ,λb c=>by rw[k.jZ b (cr c a.aQ),a.jZ b c],k.bI,λb c h=>by
  rw[k.fH b (cr c a.aQ) (by rw[a.jZ b c];exact h),a.fH b c h]⟩
theorem eu.aP{q:Nat->Prop}{a g:ag}{m d:D}(h:eu p a m g d)(b:∀k,p k->q k):eu q a m g d:=by constructor<;>grind [eu.aQ,eu.jZ,eu.bI,eu.fH]
def eu.fZ{a:ag}{m d:D}(h:J m d)(c:∀b,m.size<=b->a b=0):eu p a m a d:=by constructor<;>grind [J.aQ,J.bB]
theorem eu.aW{a:ag}{m:D}(d:∀b,m.size<=b->a b=0){b:Nat}(c:p (a b))(o:Nat)(l:ae):eu p a m a (aW m b o l):=
 by constructor<;>grind [Nat.le_of_eq,bE,cw]
abbrev HC:=eu (λk=>k=3\/k=5\/k=6)
abbrev To:=eu (λk=>k≠0/\k≠9)
theorem eu.de{a g:ag}{j m d:D}(h:To a m g d)(e:J j m)(f:∀b,b<j.size->a b=0):J j d/\∀b,b<j.size->g b=0:=by
 have i:=e.aQ;exact⟨⟨fC i h.aQ,λb c=>by rw[h.fH b V cC,e.bB b c]⟩,λb c=>by rw[h.jZ b V,f b c]⟩
theorem eu.fg{a g:ag}{m d:D}(h:To a m g d){l:ad}(e:∀b∈l,b<m.size/\a b=0):gT l m d:=λb c=>h.fH b (e b c).1 cC
@[grind cases] structure iV (ro:ag) (m:D) (e sz k:Nat) (s:E) (l:ae):Prop where
 aT:l.length=s.len*sz
 le:s.len<=s.cap
 br:s.cap=0\/∃b c tail,s=.mk b 0 s.len c/\ro b=k/\dJ m b e (l++tail)/\(l++tail).length=c*sz
section
variable{a g:ag}{b d:D}{e c k:Nat}{s:E}{l:ae}
theorem iV.Ir(h:iV a b e c k s l)(d:s.cap=0):l=[]/\s.len=0:=by
 grind [iV.le,E.len,List.length_eq_zero_iff,iV.aT]
def iV.kv(h:iV a b e c k s l):jw b s.bt s.off l:=by
 rcases h.br with f|⟨j,d,tail,h1,h2,h3,h4⟩
 .rw[(h.Ir f).1];intro i d g;simp at g
 .rw[h1];exact h3.kv.Rv
def iV.wr(h:iV a b e c k s l)(d:o+n<=l.length):gK b s.bt (s.off+o) n:=by
 rcases h.br with f|⟨g,i,tail,h1,h2,h3,h4⟩
 .rw[(h.Ir f).1]at d;intro m j;simp at d;omega
 .grind [E.nh,E.BV,dJ.gK]
theorem iV.fH(h:iV a b e c k s l)(p:s.cap≠0->d[s.bt]? =b[s.bt]?)(q:s.cap≠0->g s.bt=a s.bt):iV g d e c k s l:=by
 refine⟨h.aT,h.le,?_⟩;rcases h.br with o|⟨m,n,tail,h1,h2,h3,h4⟩
 .exact bz o
 .by_cases f:s.cap=0
  .exact bz f
  .have i:=p f;have j:=q f;rw[h1]at i j;exact bH ⟨m,n,tail,h1,j.trans h2,h3.congr i,h4⟩
theorem iV.bt(h:iV a b e c k s l)(f:s.cap≠0):s.bt<b.size/\a s.bt=k:=by
 rcases h.br with d|⟨g,i,tail,h1,h2,h3,h4⟩
 .exact absurd d f
 .rw[h1];exact⟨h3.lt,h2⟩
theorem iV.gX(h:iV a b e c k s l)(f:eu p a b g d)(i:¬p k):iV g d e c k s l:=
 by grind [iV.fH,eu.fH,iV.bt,eu.jZ]
def iV.eE(h:iV a b e c k s l)(q:o+new.length<=l.length):iV a (aW b s.bt (s.off+o) new) e c k s (jm l o new):=by
 refine⟨by rw[mw];exact h.aT,h.le,?_⟩;rcases h.br with j|⟨d,f,tail,h1,h2,h3,h4⟩
 .exact bz j
 .refine bH ⟨d,f,tail,h1,h2,?_,by simp only[dC,mw]at h4⊢;exact h4⟩;have g:s.bt=d:=by rw[h1];rfl
  have i:s.off=0:=by rw[h1];rfl
  rw[g,i,fD];have:=dJ.aW (m:=b) (o:=o) (r:=new) h3;have n:jm (l++tail) o new=jm l o new++tail:=by
   have p:(jm l o new).length=l.length:=mw _ _ _;apply eA;grind [Nat.lt_or_ge,List.length,jm,List.getElem?_append_left,Ff,List.length_append,List.getElem?_append_right]
  grind
def iV.rG(h:iV a b e c k s l)(q:n<=s.len):iV a b e c k (s.cut 0 n c) (l.take (n*c)):=by
 have j:=h.le;have p:=h.aT;rcases h.br with i|⟨f,g,tail,h1,h2,h3,h4⟩
 .have d:n=0:=V;cases s with
  |nil=>exact⟨by simp[d,E.cut],by simp[E.cut],bz O⟩
  |Ec f o sp=>exact⟨by simp[d,E.cut],by simp[E.cut],bz O⟩
  |mk f o r m=>simp at i;subst i;exact⟨by simp[d,E.cut],by simp[d,E.cut],bz (by simp[E.cut])⟩
 .rw[h1];have d:s.len<=g:=by rw[h1]at j;exact j
  refine⟨?_,by simp[E.cut];omega,bH ⟨f,g,l.drop (n*c)++tail,?_,h2,?_,?_⟩⟩
  .grind [E.cut,E.lU,List.length_take,E.len,Nat.mul_le_mul_right]
  .simp[E.cut]
  .grind [List.append_assoc,List.take_append_drop]
  grind [List.append_assoc,List.take_append_drop]
end
def iV.fE{a:ag}{m:D}{e l:Nat}{f:ae}{u:Nat}{s x:E}{n:ae}{K:E->D->Prop}(i:iV a m e f.length l s n)(t:∀c,m.size<=c->a c=0)
 (k:new.length=x.len*f.length)(B:jw m x.bt x.off new)(j:(s.len+x.len)*u<=140737488355328)
 (q:∀g h d,iV g d e f.length l h (n++new)->eu (λy=>y=l) a m g d->K h d):mf m e f u s x K:=by
 have H:=i.le
 refine⟨new,k,B,λF=>?_,λG=>⟨j,n,i.aT,i.kv,λh v=>?_⟩⟩
 .rcases i.br with C|⟨c,h,tail,h1,h2,h3,h4⟩
  .have w:x.len=0:=V
   have A:new=[]:=cp.1 (by rw[k,w];simp)
   subst A
   refine⟨λy z=>by simp at z,?_⟩
   have p:=q a s _ (by rw[gA];exact i) (eu.cX _ t)
   cases s with
   |nil=>exact p
   |Ec c o sp=>exact p
   |mk c o I h=>simp only[w,uJ];exact p
  .have w:=i.aT
   have A:s.cap=h:=by rw[h1];rfl
   rw[h1]
   simp only[E.nh,E.BV,E.lU,fD]
   simp only[dC]at h4
   have z:new.length<=tail.length:=by
    have y:(s.len+x.len)*f.length<=h*f.length:=fq _ V;rw[nC]at y;omega
   refine⟨h3.gK (by simp only[dC];omega),?_⟩
   have p:=dJ.aW (m:=m) (b:=c) (e:=e) (r:=new) (o:=s.len*f.length) h3
   rw[<-w,Cd n new tail z]at p
   refine q a _ _ ⟨?_,?_,bH ⟨c,h,tail.drop new.length,O,h2,?_,?_⟩⟩ (eu.aW t h2 _ _)
   .simp only[dC,E.lU,nC];omega
   .simp only[E.lU,E.Tk];omega
   .rw[<-w];exact p
   .simp only[dC,List.length_drop];omega
 .refine q (λc=>if c=m.size then l else a c) _ _ ⟨?_,?_,bH ⟨m.size,h,nv f (h -(s.len+x.len)),O,bO,dJ.push _ _ _,?_⟩⟩ ⟨bO,λc j=>aV V,λc j=>?_,λc j _=>by rw[vm,aV V]⟩
  .simp only[dC,E.lU,nC,i.aT,k]
  .simpa using v
  .simp only[dC,vU,i.aT,k]
   rw[Nat.sub_mul,<-nC]
   have:(s.len+x.len)*f.length<=h*f.length:=fq _ v
   omega
  .simp at j;rw[aV V];exact t c V
def iV.jT{a:ag}{j m:D}{e f k:Nat}{s:E}{l:ae}(h:js j m e f s l)(g:s≠.nil->a s.bt=k):iV a m e f k s l:=by
 refine⟨h.aT,?_,?_⟩
 .rcases h.br with b|⟨c,d,tail,b,h2,h3,h4,h5⟩
  .rw[b];exact bY
  .rw[b];exact h5
 .rcases h.br with b|⟨c,d,tail,b,h2,h3,h4,h5⟩
  .rw[b];exact bz O
  .refine bH ⟨c,d,tail,b,?_,h3,h4⟩;have:=g cC;rw[b]at this;exact this
def iV.nZ{a:ag}{m:D}{k:Nat}{s:E}{l:ab}(h:iV a m bG 1 k s (l.map Ce.i))(g:l.length<=9223372036854775807):bg m s l:=by
 have e:s.len=l.length:=by have:=h.aT;simp at this;omega
 refine⟨e,h.le,V,λj x d=>⟨[.i x],O,λi f b=>?_⟩⟩;have c:i=0:=by have:=bC b;simp at this;omega
 subst c;simp at b;subst b;have:=h.kv j (.i x) (by simp[d]);simpa using this
theorem La(l:ab)(i:Nat)(v:Int):jm (l.map Ce.i) i [.i v]=(l.set i v).map Ce.i:=by simp[jm,DZ]
theorem iV.iv{a:ag}{m:D}{k:Nat}{s:E}{l:ab}(h:iV a m bG 1 k s (l.map Ce.i))(b:0<=i)(c:i<l.length)(v:Int):iV a (aW m s.bt (s.off+i.toNat*1) [.i v]) bG 1 k s ((Go.Proofs.YtbbbdejieenniaaGreat.iv l i v).map Ce.i):=by
 have:=h.eE (o:=i.toNat) (new:=[.i v]) cC;rw[La]at this;rw[IN];exact this
theorem iV.Ur{a:ag}{m:D}{k:Nat}{s:E}{l:ab}(h:iV a m bG 1 k s (l.map Ce.i))(b:0<=i)(c:i<l.length):gK m s.bt (s.off+i.toNat*1) 1:=by
 rw[IN];exact h.wr cC
def FB(m:D)(f:E)(l:ab):Prop:=∃c tail,f=.mk f.bt 0 f.len c/\dJ m f.bt bG (l.map Ce.i++tail)
def FN(N:Nat)(a:ag)(m:D)(f:E)(l:ab):Prop:=l≠[]->a f.bt=0/\N<=f.bt/\FB m f l
def NA(N:Nat)(a:ag)(m:D)(b:ae)(c:dz):Prop:=∃f,b=[.i c.bX,.i c.jH,.s f]/\bg m f c.bV/\FN N a m f c.bV
def Sep(e:List ae):Prop:=∀(i j:Nat)(c d:ae)(a b:E),e[i]? =some c->e[j]? =some d->c[2]? =some (.s a)->d[2]? =some (.s b)->i≠j->a.len≠0->b.len≠0->a.bt≠b.bt
def Sep.gF:Sep []:=λi j c d a b h=>by simp at h
def gC(N:Nat)(a:ag)(m:D)(h:E)(c:ah):Prop:=∃b,iV a m CI 3 3 h b.flatten/\fL 3 (NA N a m) b c/\Sep b
def ZA(a:ag)(m:D)(i:Nat)(b:ae)(f:bS):Prop:=
 ∃r o h,b=[.i f.fN,.i f.pc,.i f.bA,.s r,.s o,.s h]/\iV a m bG 1 (10+3*i) r (f.aU.map Ce.i)/\iV a m bG 1 (11+3*i) o (f.bF.map Ce.i)/\iV a m bG 1 (12+3*i) h (f.cL.map Ce.i)
@[grind cases] structure adp (ro:ag) (m:D) (fr:E) (fs:aj) (css:List ae):Prop where
 rm:iV ro m gS 6 4 fr css.flatten
 aT:css.length=fs.length
 aQ:∀cs∈css,cs.length=6
 eR:∀(i:Nat)(cs:ae)(f:bS),css[i]? =some cs->fs[i]? =some f->ZA ro m i cs f
def sL(a:ag)(m:D)(q:E)(c:aj):Prop:=∃b,adp a m q c b
theorem lx{m d:D}{l:ab}(h:bg m f l)(j:l≠[]->d[f.bt]? =m[f.bt]?):bg d f l:=by
 by_cases a:l=[]
 .subst a;exact⟨h.aT,h.mr,h.kM,bO⟩
 .exact⟨h.aT,h.mr,h.kM,λo x n=>let⟨b,e,g⟩:=h.kv o x n;⟨b,e,λi c k=>by rw[bD (j a)];exact g i c k⟩⟩
theorem lS{m:D}{l:ab}(h:bg m f l)(a:l≠[]):f.bt<m.size:=by
 cases l with
 |nil=>exact absurd O a
 |cons b l=>exact pI (h.br (k:=0) (x:=b) O)
def NA.gX{N:Nat}{a g:ag}{m d:D}(e:eu p a m g d)(o:¬p 0)(i:ae)(h:dz):NA N a m i h->NA N g d i h:=λ⟨f,q,c,k⟩=>
 ⟨f,q,lx c λb=>e.fH _ (lS c b) (by rw[(k b).1];exact o),λb=>by
  let⟨g1,g2,l,tail,n,j⟩:=k b;exact⟨by rw[e.jZ _ (lS c b)];exact g1,g2,l,tail,n,j.congr (e.fH _ j.lt cC)⟩⟩
theorem gC.gX{N:Nat}{p:Nat->Prop}{a g:ag}{m d:D}{h:E}{b:ah}(n:gC N a m h b)(c:eu p a m g d)(f:¬p 0)(k:¬p 3):gC N g d h b:=by
 let⟨e,i,j,l⟩:=n;exact⟨e,i.gX c k,j.aP (NA.gX c f),l⟩
theorem ZA.gX{p:Nat->Prop}{a g:ag}{m d:D}(b:eu p a m g d){i:Nat}(h:∀k,10+3*i<=k->k<=12+3*i->¬p k){c:ae}{f:bS}:ZA a m i c f->ZA g d i c f:=λ⟨r,o,e,j,k,l,n⟩=>
 ⟨r,o,e,j,k.gX b (h _ V V),l.gX b (h _ V V),n.gX b (h _ V V)⟩
def sL.gX{p:Nat->Prop}{a g:ag}{m d:D}{q:E}{c:aj}(r:sL a m q c)(e:eu p a m g d)(h:∀k,(k=4\/10<=k)->¬p k):sL g d q c:=by
 let⟨l,b⟩:=r;exact⟨l,b.rm.gX e (h 4 V),b.aT,b.aQ,λi j f n o=>(b.eR i j f n o).gX e λk s _=>h k V⟩
@[grind cases] structure uH (m0:D) (ro:ag) (m:D) (mb e:Nat) (bx:ae) (cJ hp fr:E) (lo:ab) (lh:ah) (lf:aj):Prop where
 de:J m0 m
 mT:∀b,b<m0.size->ro b=0
 bI:∀b,m.size<=b->ro b=0
 bU:dJ m mb e bx
 Wr:ro mb=1
 cJ:iV ro m bG 1 2 cJ (lo.map Ce.i)
 aR:gC m0.size ro m hp lh
 bo:sL ro m fr lf
variable{j:D}{a g:ag}{m d:D}{t e:Nat}{u:ae}{cJ h q:E}{y:ab}{w:ah}{v:aj}
def uH.ext(L:uH j a m t e u cJ h q y w v)(c:J m d):uH j a d t e u cJ h q y w v/\To a m a d:=by
 have b:∀p,eu p a m a d:=λp=>eu.fZ (p:=p) c L.bI;exact⟨⟨L.de.N c,L.mT,(b (λ_=>False)).bI,L.bU.ext c,L.Wr,L.cJ.gX (b (λ_=>False)) id,L.aR.gX (b (λ_=>False)) id id,L.bo.gX (b (λ_=>False)) λ_ _=>id⟩,b _⟩
def uH.lW(L:uH j a m t e u cJ h q y w v)(i:Nat)(b:ae):uH j a (aW m t i b) t e (jm u i b) cJ h q y w v/\To a m a (aW m t i b):=by
 have c:eu (λk=>k=1) a m a (aW m t i b):=eu.aW L.bI L.Wr _ _;have d:To a m a (aW m t i b):=by grind [eu.aP]
 let⟨b1,b2⟩:=d.de L.de L.mT;exact⟨⟨b1,b2,c.bI,dJ.aW (m:=m) L.bU,L.Wr,L.cJ.gX c cH,L.aR.gX c cH cH,L.bo.gX c λk f=>V⟩,d⟩
def uH.pO(L:uH j a m t e u cJ h q y w v){i:Nat}(b:i+n<=u.length):gK m t i n:=L.bU.gK b
def uH.jN(L:uH j a m t e u cJ h q y w v)(b:eu (λk=>k=3\/k=5\/k=6) a m g d){c:E}{i:ah}(l:gC j.size g d c i):uH j g d t e u cJ c q y i v/\To a m g d:=by
 have f:To a m g d:=b.aP λk n=>V;let⟨b1,b2⟩:=f.de L.de L.mT;exact⟨⟨b1,b2,b.bI,L.bU.congr (b.fH _ L.bU.lt cC),by rw[b.jZ _ L.bU.lt];exact L.Wr,L.cJ.gX b cH,l,L.bo.gX b λk n=>V⟩,f⟩
def uH.QN(L:uH j a m t e u cJ h q y w v)(b:eu (λk=>k=2) a m g d){i:E}{f:ab}(l:iV g d bG 1 2 i (f.map Ce.i)):uH j g d t e u i h q f w v/\To a m g d:=by
 have c:To a m g d:=by grind [eu.aP]
 let⟨b1,b2⟩:=c.de L.de L.mT;exact⟨⟨b1,b2,b.bI,L.bU.congr (b.fH _ L.bU.lt cC),by rw[b.jZ _ L.bU.lt];exact L.Wr,l,L.aR.gX b cH cH,L.bo.gX b λk n=>V⟩,c⟩
def uH.mJ(L:uH j a m t e u cJ h q y w v)(b:eu (λk=>4<=k/\k≠9) a m g d){c:E}{i:aj}(k:sL g d c i):uH j g d t e u cJ h c y w i/\To a m g d:=by
 have f:To a m g d:=by grind [eu.aP]
 let⟨b1,b2⟩:=f.de L.de L.mT;exact⟨⟨b1,b2,b.bI,L.bU.congr (b.fH _ L.bU.lt cC),by rw[b.jZ _ L.bU.lt];exact L.Wr,L.cJ.gX b cH,L.aR.gX b cH cH,k⟩,f⟩
end
section
variable{k:Nat}
def up{α:Type}(f:Nat->α)(k:Nat)(x:α):Nat->α:=λj=>if j=k then x else f j
@[simp] theorem Pk {α:Type} (f:Nat->α) (k:Nat) (x:α):up f k x k=x:=a8 O
theorem YI{α:Type}{f:Nat->α}{x:α}{j:Nat}(h:j≠k):up f k x j=f j:=aV h
def VC(a:Nat->E):ae:=[.s (a 0),.s (a 1),.s (a 2),.s (a 3),.s (a 4),.s (a 5),.s (a 6)]
def Zq(a:Nat->E)(b:k<7):(VC a)[k]? =some (.s (a k)):=by
 rcases k with _|_|_|_|_|_|_|k<;>first|rfl|omega
def SU(a:Nat->E)(b:k<7)(r:E):jm (VC a) k [.s r]=VC (up a k r):=by
 rcases k with _|_|_|_|_|_|_|k<;>first|rfl|omega
@[grind cases] structure jU (ro:ag) (m:D) (lb:Nat) (sl:Nat->E) (L:Nat->ab):Prop where
 bI:∀b,m.size<=b->ro b=0
 jZ:ro lb=8
 bU:dJ m lb Gx (VC sl)
 rm:∀k,k<7->iV ro m bG 1 (k+1) (sl k) ((L k).map Ce.i)
section
variable{d h:ag}{a f:D}{c:Nat}{b:Nat->E}{L:Nat->ab}
def jU.dg(h:jU d a c b L){k:Nat}(e:k<7):aS a c k=some (E.v (b k)):=by
 rw[h.bU.dg,Zq b e];rfl
def jU.nZ(h:jU d a c b L){k:Nat}(e:k<7)(f:(L k).length<=10^12):bg a (b k) (L k):=(h.rm k e).nZ V
def jU.aT(h:jU d a c b L){k:Nat}(e:k<7):(b k).len=(L k).length:=by grind [jU.rm,iV.aT]
def jU.to(h:jU d a c b L):To d a d a:=eu.cX _ h.bI
def jU.ext(h:jU d a c b L)(e:J a f):jU d f c b L:=
 by constructor<;>grind [jU.bI,J.aQ,jU.jZ,jU.bU,dJ.congr,J.bB,dJ.lt,jU.rm,iV.fH,iV.bt]
def jU.nI(p:jU d a c b L)(s:k<7)(C:(L k).length<=10^12)(j:Int){K:E->D->Prop}
 (B:∀h r f,To d a h (aW f c k [.s r])->jU h (aW f c k [.s r]) c (up b k r) (up L k (L k++[j]))->K r f):
 mf (a.push (.cells (dh [.i j]) bG)) bG [.i 0] 8 (b k) (.mk a.size 0 1 1) λr f=>gK f c k 1/\K r f:=by
 have z:=J.push a (.cells (dh [.i j]) bG)
 have g:=p.ext z
 have F:=p.aT s
 refine iV.fE (f:=[.i 0]) (new:=[.i j]) (g.rm k s) g.bI bO ((dJ.push a (e:=bG) (l:=[.i j])).kv) (by simp only[E.lU];omega) λh r f v n=>?_
 have x:dJ f c Gx (VC b):=g.bU.congr (n.fH c g.bU.lt (by simp only[g.jZ];omega))
 have o:h c=8:=by rw[n.jZ c g.bU.lt,g.jZ]
 have A:To d a h f:=(eu.fZ z p.bI).N (n.aP λt y=>V)
 have u:To d a h (aW f c k [.s r]):=A.N (eu.aW n.bI (by simp only[o];omega) _ _)
 refine⟨x.gK (by show k+1<=7;omega),B h r f u ⟨u.bI,o,SU b s r▸dJ.aW (m:=f) x,λt y=>?_⟩⟩
 by_cases i:t=k
 .subst i
  rw[Pk,Pk,kJ]
  refine v.fH (λq=>cw _ _ _ _ λi=>?_) λ_=>O
  have:=(v.bt q).2
  rw[i,o]at this;omega
 .rw[YI i,YI i]
  have w:=(g.rm t y).gX n V
  refine w.fH (λq=>cw _ _ _ _ λi=>?_) λ_=>O
  have:=(w.bt q).2
  rw[i,o]at this;omega
def jU.cE(h:jU d a c b L){i:Nat}(l:k<7)(q:i<(L k).length)(x:Int):
 gK a (b k).bt ((b k).off+i*1) 1/\jU d (aW a (b k).bt ((b k).off+i*1) [.i x]) c b (up L k ((L k).set i x))/\To d a d (aW a (b k).bt ((b k).off+i*1) [.i x]):=by
 have g:=h.rm k l
 have s:(L k).map Ce.i≠[]:=cC
 have j:(b k).cap≠0:=by grind [iV.Ir]
 let⟨p,m⟩:=g.bt j
 have f:To d a d (aW a (b k).bt ((b k).off+i*1) [.i x]):=by grind [eu.aW,jU.bI]
 refine⟨g.wr cC,⟨f.bI,h.jZ,h.bU.congr (cw _ _ _ _ λe=>by have:=h.jZ;rw[e,m]at this;omega),λn r=>?_⟩,f⟩
 by_cases e:n=k
 .subst e
  rw[Pk]
  have:=g.eE (o:=i*1) (new:=[.i x]) cC
  grind [La]
 .grind [YI,jU.rm,iV.fH,cw,iV.bt]
theorem jU.adP(h:jU d a c b L)(f:k<7){r:E}{l:ab}(g:iV d a bG 1 (k+1) r (l.map Ce.i)):
 gK a c k 1/\jU d (aW a c k [.s r]) c (up b k r) (up L k l)/\To d a d (aW a c k [.s r]):=by
 have e:To d a d (aW a c k [.s r]):=by grind [eu.aW,jU.bI,jU.jZ]
 refine⟨h.bU.gK (by show k+1<=7;omega),⟨e.bI,h.jZ,SU b f r▸dJ.aW (m:=a) h.bU,λn j=>?_⟩,e⟩
 have K:∀{i s l},iV d a bG 1 (i+1) s l->i<7->iV d (aW a c k [.s r]) bG 1 (i+1) s l:=λ{i s l} g' hk'=>by
  grind [iV.fH,cw,iV.bt,jU.jZ]
 grind [Pk,YI,jU.rm]
def jU.rG(h:jU d a c b L){k n:Nat}(e:k<7)(l:n<=(L k).length):
 n<=(b k).cap/\gK a c k 1/\jU d (aW a c k [.s ((b k).cut 0 n 1)]) c (up b k ((b k).cut 0 n 1)) (up L k ((L k).take n))/\To d a d (aW a c k [.s ((b k).cut 0 n 1)]):=by
 have g:=h.rm k e
 have i:=h.aT e
 have j:=g.le
 have f:=g.rG (n:=n) V
 grind [List.map_take,jU.adP]
end
@[grind cases] structure lY (ds:af) (n b:Nat) (L:Nat->ab):Prop where
 aT:∀k,k<6->(L k).length=n
 ZD:∀(v:Nat)(p:Int),(L 2)[v]? =some p->p<v
 lF:∀(v:Nat)(c f:Int),(L 3)[v]? =some c->(L 4)[v]? =some f->0<=c->0<=f/\f+((da ds c).length:Int)<=b
 cW:(L 6).length<=10^12
abbrev wT(a:af)(n:Nat)(L:Nat->ab):Prop:=lY a n n L
def PZ(L:Nat->ab)(t o p:Int):Nat->ab:=up (up (up (up (up (up L 0 (L 0++[t])) 1 (L 1++[o])) 2 (L 2++[p])) 3 (L 3++[-1])) 4 (L 4++[-1])) 5 (L 5++[-1])
def FG{j:ag}{m:D}{b:Nat}{x:Nat->E}{L:Nat->ab}(h:jU j m b x L)(a:∀k,k<6->(L k).length<=10^12)(t o p:Int):
 bJ dP 271 [vp b 0,vi t,vi o,vi p] m λ_ i=>∃l y,To j m l i/\jU l i b y (PZ L t o p):=by
 apply Cr (b,0)
 simp -zeta only[fD]
 refine⟨_,h.dg (k:=0) cH,?_⟩
 intro z
 refine h.nI (k:=0) cH (a 0 cH) t λO U H n c=>⟨_,c.dg (k:=1) cH,?_⟩
 intro A
 refine c.nI (k:=1) cH (a 1 cH) o λP V I q d=>⟨_,d.dg (k:=2) cH,?_⟩
 intro B
 refine d.nI (k:=2) cH (a 2 cH) p λQ W J r e=>⟨_,e.dg (k:=3) cH,?_⟩
 intro C
 refine e.nI (k:=3) cH (a 3 cH) (-1) λR X K s f=>⟨_,f.dg (k:=4) cH,?_⟩
 intro F
 refine f.nI (k:=4) cH (a 4 cH) (-1) λS Y M u g=>⟨_,g.dg (k:=5) cH,?_⟩
 intro G
 exact g.nI (k:=5) cH (a 5 cH) (-1) λT Z N v w=>⟨_,_,((((n.N q).N r).N s).N u).N v,w⟩
end
section
variable{l:ab}{j:ag}{g:D}{P:(Nat->ab)->Prop}{b:Nat}{v:Int}
def GI.cJ{S:ad}{h m:D}{s:E}(j:GI S h m s l):js h m bG 1 s (l.map Ce.i):=by
 let⟨p,b,k,a⟩:=j;have t:b.flatten.length=l.length:=by rw[eD a.aQ,a.aT];omega
 have n:b.flatten=l.map Ce.i:=by
  apply eA;intro d;rcases eH d l.length with g|g
  .let⟨x,o⟩:=jq g;let⟨e,f⟩:=dY b d cC;have q:e=[.i x]:=a.eR d e x f o;have r:=j9 (f:=1) a.aQ f (i:=0) (c:=.i x) cC;grind
  .grind [List.getElem?_eq_none]
 rw[<-n];exact k
def Ha(e:ag)(m:D)(d:Nat)(P:(Nat->ab)->Prop)(v:Value)(g:D):Prop:=∃(b:Bool)(j:ag),v=vb b/\To e m j g/\(b=true->∃c a,jU j g d c a/\P a)
def Ha.no{e:ag}{m:D}{d:Nat}(h:To e m j g):Ha e m d P (vb false) g:=⟨false,j,O,h,bO⟩
def Ha.Ux{e:ag}{m:D}{d:Nat}{h:Nat->E}{L:Nat->ab}(a:To e m j g)(b:jU j g d h L)(c:P L):Ha e m d P (vb true) g:=⟨true,j,O,a,λ_=>⟨h,L,b,c⟩⟩
def Ha.aP{e:ag}{m:D}{d:Nat}{Q:(Nat->ab)->Prop}{v:Value}(a:Ha e m d P v g)(o:∀L,P L->Q L):Ha e m d Q v g:=let⟨b,j,c,f,i⟩:=a;⟨b,j,c,f,λn=>let⟨h,L,k,l⟩:=i n;⟨h,L,k,o L l⟩⟩
theorem lY.bF{f:af}{a:Nat}{L:Nat->ab}(h:lY f a b L)(c:l.length=a):lY f a b (up L 1 l):=
 by constructor<;>grind [up,lY.aT,lY.ZD,lY.lF,lY.cW]
def lY.tok{f:af}{a:Nat}{L:Nat->ab}(h:lY f a b L)(c:l.length=a):lY f a b (up L 5 l):=
 by constructor<;>grind [up,lY.aT,lY.ZD,lY.lF,lY.cW]
def PX{a x:Int}{v:Nat}(h:(l++[a])[v]? =some x):l[v]? =some x\/v=l.length/\x=a:=by
 grind [Nat.lt_or_ge,List.length,List.getElem?_append_left,List.getElem?_append_right,bC]
def lY.IK{f:af}{a c:Nat}{L:Nat->ab}(h:lY f a b L)(d:b<=c):lY f a c L:=
 by constructor<;>grind [lY.aT,lY.ZD,lY.lF,lY.cW]
def lY.Xb{f:af}{a:Nat}{L:Nat->ab}(h:lY f a b L)(t r:Int){p:Int}(w:p<a):lY f (a+1) b (PZ L t r p):=by
 have g:=h.aT;refine⟨λk u=>?_,λv q o=>?_,λv d e j m s=>?_,by simpa[PZ,up]using h.cW⟩
 .rcases k with _|_|_|_|_|_|k<;>first|omega|(simp[PZ,up,g])
 .have i:(L 2++[p])[v]? =some q:=by simpa[PZ,up]using o
  rcases PX i with c|⟨rfl,rfl⟩
  .exact h.ZD v q c
  grind
 .have l:(L 3++[-1])[v]? =some d:=by simpa[PZ,up]using j
  have n:(L 4++[-1])[v]? =some e:=by simpa[PZ,up]using m
  rcases PX l with c|⟨rfl,rfl⟩
  .rcases PX n with i|⟨i,rfl⟩
   .grind [lY.lF]
   grind [bC]
  .omega
variable{e:ag}{m:D}{d:Nat}{h:Nat->E}{L:Nat->ab}{f:af}{a:Nat}
theorem jU.br(a:jU e m d h L){k:Nat}(c:k<7)(f:(L k).length<=10^12){i:Nat}{x:Int}(b:(L k)[i]? =some x):aS m (h k).bt ((h k).off+i*1)=some (vi x):=(a.nZ c f).br b
def zw(b:jU e m d h L)(q:wT f a L)(u:a<=10^12)(c:0<=v)(s:v<a):bJ dP 272 [vp d 0,vi v] m (Ha e m d λg=>∃l:ab,l.length=a/\g=up L 1 l):=by
 apply Cu (d,0);simp -zeta only[fD];have o:=q.aT 1 cH;have t:=b.aT (k:=1) cH;let⟨x,r⟩:=dY (L 1) v.toNat;have j:=b.br cH V r;have g:=b.dg (k:=1) cH;let⟨w,p,n⟩:=b.cE (k:=1) (i:=v.toNat) cH V (eV (x -1));exact⟨_,g,c,V,x,j,λ_=>.no b.to,λ_=>⟨_,g,_,g,c,V,x,j,c,V,w,.Ux n p ⟨_,by simp[o],O⟩⟩⟩
def xk(q:jU e m d h L)(j:wT f a L)(t:a<=10^12)(i:0<=v)(o:v<a):tn 226 [vp d 0,vi v] m:=by
 apply A2 (d,0);refine⟨λv g=>0<=v/\v<(a:Int)/\J m g,λv _=>v.toNat,⟨i,o,dt⟩,?_⟩;rintro v A ⟨i,o,c⟩;have H:=q.ext c;have w:=H.aT (k:=1) cH;have z:=H.aT (k:=2) cH;have C:=j.aT 1 cH;have D:=j.aT 2 cH;let⟨x,s⟩:=dY (L 1) v.toNat;let⟨y,p⟩:=dY (L 2) v.toNat;have u:=j.ZD _ _ p;refine⟨_,H.dg (k:=1) cH,i,V,x,H.br cH V s,λ_=>⟨_,H.dg (k:=6) cH,?_⟩,λ_=>rA c⟩;refine(fI (H.nZ cH j.cW) v).cg λb B _ l=>⟨_,O,λ_=>?_,λ_=>rA (c.N l)⟩;have n:=H.ext l;refine⟨_,n.dg (k:=2) cH,i,V,y,n.br cH V p,λ_=>rA (c.N l),λr=>?_⟩;simp only[dK]at r;exact⟨⟨V,V,c.N l⟩,by show y.toNat<v.toNat;omega⟩
def QV(i:jU e m d h L)(u:wT f a L)(S:a<=10^12){b:Nat}(H:b<=a):bJ dP 345 [vp d 0,vi b] m (Ha e m d λc=>(∀j,j<6->(c j).length=b)/\(c 6).length<=10^12):=by
 apply DH (d,0);simp -zeta only[fD];refine⟨λv g=>(b:Int)<=v/\v<=a/\g=m,λv _=>((a:Int) -v).toNat,⟨V,V,O⟩,?_⟩;rintro v X ⟨Q,p,rfl⟩;have o:=λj(G:j<6)=>i.aT (k:=j) V;have c:=u.aT;have T:=o 0 cH;have U:=o 1 cH;have W:=o 5 cH;have n0:=c 0 cH;have n1:=c 1 cH;have n5:=c 5 cH;refine⟨_,i.dg cH,λw=>?_,λw=>?_⟩
 .simp only[bh]at w;let⟨x,q⟩:=dY (L 1) v.toNat;let⟨y,r⟩:=dY (L 5) v.toNat;refine⟨_,i.dg cH,V,V,x,i.br cH V q,λ_=>.no i.to,λ_=>⟨_,i.dg cH,V,V,y,i.br cH V r,λ_=>.no i.to,λ_=>?_⟩⟩;rw[gJ];exact⟨⟨V,V,O⟩,by show((a:Int) -(v+1)).toNat<((a:Int) -v).toNat;omega⟩
 .have tk:∀{l:ab},l.length=a->(l.take b).length=b:=λR=>fu;have D:Int.toNat 0=0:=rfl;have E:Int.toNat (b:Int)=b:=V;rw[D,E];let⟨p1,I,p,x⟩:=i.rG cH (((c 0 cH)▸H));refine⟨_,i.dg cH,V,V,V,I,?_⟩;intro Y;let⟨p2,J,q,y⟩:=p.rG (k:=1) (n:=b) cH (by simp[up,c];omega);refine⟨_,p.dg cH,V,V,V,J,?_⟩;intro Z;let⟨p3,K,r,z⟩:=q.rG (k:=2) (n:=b) cH (by simp[up,c];omega);refine⟨_,q.dg cH,V,V,V,K,?_⟩;intro m4;let⟨p4,M,s,A⟩:=r.rG (k:=3) (n:=b) cH (by simp[up,c];omega);refine⟨_,r.dg cH,V,V,V,M,?_⟩;intro m5;let⟨p5,N,t,B⟩:=s.rG (k:=4) (n:=b) cH (by simp[up,c];omega);refine⟨_,s.dg cH,V,V,V,N,?_⟩;intro m6;let⟨p6,P,F,C⟩:=t.rG (k:=5) (n:=b) cH (by simp[up,c];omega);refine⟨_,t.dg cH,V,V,V,P,?_⟩;intro m7;refine Ha.Ux (((((x.N y).N z).N A).N B).N C) F ⟨λj G=>?_,?_⟩
  .rcases j with _|_|_|_|_|_|j<;>first|omega|(simp[up,c];omega)
  .simpa[up]using u.cW
end
section
variable{a:ag}{m d c:D}{X:ad}
def ad7(m:D)(P:(Nat->ab)->Prop)(v:Value)(c:D):Prop:=∃d,v=vp d 0/\J m c/\∃a e L,(∀b,b<m.size->a b=0)/\jU a c d e L/\P L
def RX{t:Nat}{sl:Nat->E}{L:Nat->ab}(h:jU a m t sl L)(T:∀b,b<7->(L b).length<=10^12):
 bJ dP 332 [vp t 0] m (ad7 m λc=>∀b,b<7->c b=L b):=by
 apply Ae (t,0)
 simp -zeta only[fD]
 refine⟨_,h.dg (k:=0) cH,_,h.dg (k:=1) cH,_,h.dg (k:=2) cH,_,h.dg (k:=3) cH,_,h.dg (k:=4) cH,_,h.dg (k:=5) cH,_,h.dg (k:=6) cH,?_⟩
 have C:∀{M:D}(b:Nat),b<7->J m M->oC 55 [E.v (sl b)] M [] (L b=·):=λb w x=>dF [] ((h.ext x).nZ w (T b w)) (T b w)
 have c:∀{M I:D},J m M->J M I->∀y,aS I t y=aS M t y:=λx x' y=>bD (x'.bB t (x.lt h.bU.lt)) y
 have r:=J.cX m
 refine(C 0 cH r).cg λW _ m1 K e d=>⟨_,O,c r d _,c r d _,c r d _,c r d _,c r d _,c r d _,?_⟩
 subst e
 refine(C 1 cH d).cg λX _ m2 g1 e i=>⟨_,O,c d i _,c d i _,c d i _,c d i _,c d i _,?_⟩
 subst e
 have u:=d.N i
 refine(C 2 cH u).cg λY _ m3 g2 e j=>⟨_,O,c u j _,c u j _,c u j _,c u j _,?_⟩
 subst e
 have v:=u.N j
 refine(C 3 cH v).cg λZ _ m4 N e l=>⟨_,O,c v l _,c v l _,c v l _,?_⟩
 subst e
 have z:=v.N l
 refine(C 4 cH z).cg λs4 _ m5 P e n=>⟨_,O,c z n _,c z n _,?_⟩
 subst e
 have H:=z.N n
 refine(C 5 cH H).cg λs5 _ m6 Q e o=>⟨_,O,c H o _,?_⟩
 subst e
 have u6:=H.N o
 refine(C 6 cH u6).cg λs6 _ B R e p=>⟨_,O,?_⟩
 subst e
 intro F
 obtain⟨q,s8⟩:=pu F
 have z1:=d.aQ;have z2:=i.aQ;have z3:=j.aQ;have z4:=l.aQ;have z5:=n.aQ;have z6:=o.aQ;have z7:=p.aQ
 have y0:=K.cF;have y1:=g1.cF;have y2:=g2.cF;have y3:=N.cF;have y4:=P.cF;have y5:=Q.cF;have y6:=R.cF
 let f:Nat->Nat:=λg=>if g<m.size then 0 else if g<m1.size then 1 else if g<m2.size then 2 else if g<m3.size then 3 else if g<m4.size then 4 else if g<m5.size then 5 else if g<m6.size then 6 else if g<B.size then 7 else if g=B.size then 8 else 0
 let ac:Nat->E:=λb=>if b=0 then W else if b=1 then X else if b=2 then Y else if b=3 then Z else if b=4 then s4 else if b=5 then s5 else s6
 have A:∀{m0 M:D}{G:E}{U:ab}{b:Nat},GI [] m0 M G U->J M F->f G.bt=b->iV f F bG 1 b G (U.map Ce.i):=λaa x hr=>iV.jT (aa.cJ.ext x) λ_=>hr
 refine⟨B.size,O,u6.N (p.N q),f,ac,L,λg S=>a8 S,⟨λg S=>?_,?_,dJ.push _ _ _,λb w=>?_⟩,λ_ _=>O⟩
 .simp only[f]
  repeat rw[aV V]
 .simp only[f]
  repeat rw[aV V]
  simp
 .rcases b with _|_|_|_|_|_|_|b
  .exact A (G:=W) (b:=1) K (i.N (j.N (l.N (n.N (o.N (p.N q)))))) (by simp only[f];rw[aV V,a8 V])
  .exact A (G:=X) (b:=2) g1 (j.N (l.N (n.N (o.N (p.N q))))) (by simp only[f];rw[aV V,aV V,a8 V])
  .exact A (G:=Y) (b:=3) g2 (l.N (n.N (o.N (p.N q)))) (by simp only[f];rw[aV V,aV V,aV V,a8 V])
  .exact A (G:=Z) (b:=4) N (n.N (o.N (p.N q))) (by simp only[f];simp(disch:=omega) only[aV,a8])
  .exact A (G:=s4) (b:=5) P (o.N (p.N q)) (by simp only[f];simp(disch:=omega) only[aV,a8])
  .exact A (G:=s5) (b:=6) Q (p.N q) (by simp only[f];simp(disch:=omega) only[aV,a8])
  .exact A (G:=s6) (b:=7) R q (by simp only[f];simp(disch:=omega) only[aV,a8])
  .omega
@[grind cases] structure G9 (mb:D) (X:ad) (ro:ag) (m:D):Prop where
 ext:J mb m
 j7:∀b,b<mb.size->ro b=0
 bU:∀b∈X,b<m.size/\ro b=0
def G9.to{b:ag}(h:G9 d X a m)(e:To a m b c):G9 d X b c:=by
 constructor<;>grind [eu.de,G9.ext,G9.j7,G9.bU,eu.aQ,eu.jZ]
def G9.fg{d m c:D}{X:ad}{a e:ag}(h:G9 d X a m)(b:To a m e c):gT X m c:=b.fg h.bU
def G9.oE(h:G9 d X a m)(x:J m c):G9 d X a c:=by constructor<;>grind [G9.ext,J.N,G9.j7,J.lt,G9.bU]
def MX{p K ac:E}{q:jV}(r:bg m p q.aY)(F:bg m K q.cW)(ag:q.aY.length<=3)(ae:q.cW.length<=3)(v:af):
 bJ dP 249 [.agg #[p.v,K.v,vi q.bP,ac.v,vi q.eZ.bP]] m (ad7 m (wT v q.aY.length)):=by
 apply FT
 simp -zeta only[dT]
 intro f
 obtain⟨u,s1⟩:=pu f
 have X:∀b∈[m.size],b<f.size:=by simp[f]
 refine(dF [] (F.ext u) V).bL (J.cX f) X λs6 _ j C o P _=>⟨_,O,?_⟩
 subst o
 intro I
 obtain⟨Q,s3⟩:=pu I
 have z2:=P.aQ
 have y6:=C.cF
 let l:Nat->Nat:=λb=>if b<f.size then 0 else if b<j.size then 7 else if b=j.size then 8 else 0
 let d:Nat->ab:=λk=>if k<6 then[]else q.cW
 let t:Nat->E:=λk=>if k<6 then .nil else s6
 have S:jU l I j.size t d:=by
  refine⟨λb i=>?_,?_,dJ.push _ _ _,λk A=>?_⟩
  .simp only[l];repeat rw[aV V]
  .simp only[l];repeat rw[aV V]
   simp
  .by_cases e:k<6
   .simp only[t,d,a8 e];exact⟨bO,bO,bz O⟩
   .have o:k=6:=V;subst o;simp only[t,d,aV e];refine iV.jT (C.cJ.ext Q) λ_=>?_;simp only[l];rw[aV V,a8 V]
 have U:wT v 0 d:=by
  refine⟨λk A=>by simp only[d,a8 A];rfl,λe p r=>by simp[d]at r,λe h g w=>by simp[d]at w,by simp[d];omega⟩
 have j7:∀b,b<f.size->l b=0:=λb i=>a8 i
 have ah:=r.aT
 refine iC (n:=q.aY.length) V (λk M=>∃a B L,G9 f [m.size] a M/\jU a M j.size B L/\wT v k L) ⟨l,t,d,⟨P.N Q,j7,λb i=>by simp at i;subst i;exact⟨V,j7 _ V⟩⟩,S,U⟩ ?_
 rintro k M T μ A ⟨a,B,L,g,H,z⟩ aa
 refine dit (λW=>?_) λW=>?_
 .let⟨y,Y⟩:=dY q.aY k
  have N:∀(s:Int){e:D},J M e->bJ dP 271 [vp j.size 0,vi y,vi s,vi (-1:Int)] e λ_ c=>gT [m.size] e c/\T (eV ((k:Int)+1)) c/\μ (eV ((k:Int)+1)) c<μ k M:=λs e x=>
   (FG (H.ext x) (λZ R=>by rw[z.aT Z R];omega) y s (-1)).aP λ_ c⟨Z,ad,h,R⟩=>⟨(g.oE x).fg h,aa V _ ⟨Z,ad,_,(g.oE x).to h,R,(z.Xb y s V).IK V⟩⟩
  have G:∀{e:D},J M e->aS e p.bt (p.off+Int.toNat (k:Int)*1)=some (vi y):=λx=>(r.ext (u.N (g.ext.N x))).br Y
  refine⟨V,V,y,G dt,λ_=>?_,λ_=>⟨V,V,y,G dt,N 0 dt⟩⟩
  refine(fI (F.ext (u.N g.ext)) (k:Int)).cg λb M2 _ x=>⟨λh w=>x.bB h (g.bU h w).1,_,O,λ_=>⟨V,V,y,G x,N 1 x⟩,λ_=>⟨V,V,y,G x,N 0 x⟩⟩
 .have o:k=q.aY.length:=V
  subst o
  exact⟨j.size,O,u.N g.ext,a,B,L,λb i=>g.j7 b V,H,z⟩
end
section
def jU.ab4{e:ag}{b f:D}{g:Nat}{p:Nat->E}{L:Nat->ab}(h:jU e b g p L)(j7:∀a,a<f.size->e a=0){l j:Nat}(d:l<7)(m:j<(L l).length):f.size<=(p l).bt/\(p l).bt<b.size/\e (p l).bt=l+1:=by
 have a:=h.rm l d;have i:(L l).map Ce.i≠[]:=cC;let⟨k,n⟩:=a.bt λc=>i (a.Ir c).1;constructor<;>grind [Nat.le_of_not_lt]
def G9.Z0{f b c d:D}{e:ag}{o1 o2:Obj}(h:J f b)(j7:∀a,a<f.size->e a=0)(i:∀a,b.size<=a->e a=0)(a:c=b.push o1)(g:d=c.push o2):G9 f [c.size,b.size] e d:=by
 constructor<;>grind [fV,J.N]
variable{e:ag}{b f:D}{g:Nat}{p:Nat->E}{L:Nat->ab}{h:af}{q:List jV}{o:Nat}{d r a l:E}{x:eQ}{c:Prop}{s:Nat}
def VG(hx:J f b)(j7:∀v,v<f.size->e v=0)(N:jU e b g p L)(P:wT h o L)(hn:o<=10^12)(hN:iD f d r h q)(ha:bg f a x.aO)(hf:YT h s c o x)(ao:14<=x.op):
 bJ dP 273 [vp g 0,.agg #[d.v,r.v],tK x a l] b (Ha e b g (wT h o)):=by
 apply Cs (g,0)
 simp -zeta only[dT,fD]
 intro Z aa
 have st:=G9.Z0 (c:=Z) (d:=aa) hx j7 N.bI O O
 have x2:J b aa:=(fV (a:=Z) (c:=aa) O O).1
 have U:To e b e aa:=eu.fZ x2 N.bI
 have F:=N.ext x2
 have ay:=ha.aT
 have ax:=hf.mE (bz ao)
 let⟨B,hy⟩:=dY x.aO 0
 let⟨H,y1⟩:=hf.aO B (ba hy)
 have T:=P.aT
 have n1:=T 1 cH;have n3:=T 3 cH;have n4:=T 4 cH;have n5:=T 5 cH
 have l3:=F.aT (k:=3) cH;have l5:=F.aT (k:=5) cH
 let⟨C,af⟩:=dY (L 3) B.toNat
 let⟨w,ah⟩:=dY (L 4) B.toNat
 let⟨tk,aq⟩:=dY (L 5) B.toNat
 refine⟨cH,V,B,(ha.ext st.ext).br hy,?_⟩
 refine⟨λM=>0<=C/\∃Q ag t,t.length=o/\To e b Q M/\G9 f [Z.size,b.size] Q M/\jU Q M g ag (up L 1 t),?_,?_⟩
 .refine⟨_,F.dg (k:=3) cH,H,V,C,F.br cH V af,λ_=>.no U,λy=>?_⟩
  simp only[dK]at y
  refine⟨λ_=>⟨_,F.dg (k:=5) cH,H,V,tk,F.br cH V aq,λ_=>.no U,λ_=>?_⟩,λ_=>?_⟩<;>
  .refine(zw F P hn H y1).aP λav m3⟨v,Q,ad,I,z⟩=>⟨st.fg I,v,ad,λE=>.no (U.N I),λE=>?_⟩
   obtain⟨ag,A,u,t,hl,rfl⟩:=z (sp E)
   exact⟨V,Q,ag,t,hl,U.N I,st.to I,u⟩
 .rintro m3 ⟨am,ab,G,t,hl,I,R,z⟩
  have e3:(up L 1 t) 3=L 3:=rfl
  have e5:(up L 1 t) 5=L 5:=rfl
  have e1:(up L 1 t) 1=t:=rfl
  have ar:=z.aT (k:=3) cH
  rw[e3]at ar
  let⟨f0,f1⟩:=P.lF B.toNat C w af ah am
  refine⟨_,z.dg (k:=3) cH,H,V,C,z.br cH (by rw[e3];omega) af,?_⟩
  have A1:=z.ab4 (f:=f) R.j7 (l:=1) (j:=B.toNat) cH (by rw[e1];omega)
  have A5:=z.ab4 (f:=f) R.j7 (l:=5) (j:=B.toNat) cH (by rw[e5];omega)
  have hS:∀v∈[(G 1).bt,(G 5).bt],v<m3.size:=λv E=>by simp at E;omega
  have al:∀{M:D},J f M->Le f (di [(G 1).bt,(G 5).bt] M):=λxx=>(ER (m:=f)).N (xx.di λv E=>bH (by simp at E;omega))
  refine(fX (hN.bR.le (al R.ext)) hN.dj C).aP λav m4⟨ak,fl,ad,hs,an,x4⟩=>⟨λv E=>x4.bB v (R.bU v E).1,ak,ad,?_⟩
  subst an
  have c4:To e b ab m4:=I.N (eu.fZ x4 z.bI)
  have aA:=hs.aT
  have f3:=KD hN.dj C
  refine iC (n:=(da h C).length) V (λA M=>∃t,t.length=o/\To e b ab M/\G9 f [Z.size,b.size] ab M/\jU ab M g G (up L 1 t)/\Fz [(G 1).bt,(G 5).bt] m4 M) ⟨t,hl,c4,(R.oE x4),(z.ext x4),nR⟩ ?_
  rintro A M aw μ az ⟨y,Y,W,ac,u,ae⟩ aj
  have ap:=hs.le (ae.eX λ_ N=>N)
  refine⟨λai=>?_,λai=>?_⟩
  .simp only[bh]at ai
   let⟨au,hz⟩:=dY (da h C) A
   refine⟨V,V,au,(ap.le fJ).br hz,λ_=>?_,λ_=>aj V _ ⟨y,Y,W,ac,u,ae⟩⟩
   have E3:(up L 1 y) 4=L 4:=rfl
   have E1:(up L 1 y) 1=y:=rfl
   have G1:=u.dg (k:=1) cH
   have G4:=u.dg (k:=4) cH
   have l4:=u.aT (k:=4) cH
   have l1:=u.aT (k:=1) cH
   rw[E3]at l4;rw[E1]at l1
   have V4:=u.br (k:=4) cH (by rw[E3];omega) ah
   have ew:eV (w+(A:Int))=w+A:=gJ
   let⟨S,hw⟩:=dY y ((w+(A:Int)).toNat)
   let⟨wr,X,K⟩:=u.cE (k:=1) (i:=(w+(A:Int)).toNat) cH (by rw[E1];omega) (eV (S+1))
   refine⟨_,G1,_,G4,H,V,w,V4,_,G1,_,G4,H,V,w,V4,?_⟩
   rw[ew]
   refine⟨V,V,S,u.br (k:=1) cH (by rw[E1];omega) hw,V,V,wr,ac.fg K,aj V _ ⟨y.set (w+(A:Int)).toNat (eV (S+1)),by simp[Y],W.N K,ac.to K,?_,ae.aW (bz bO) _ _⟩⟩
   have:up (up L 1 y) 1 ((up L 1 y) 1|>.set (w+(A:Int)).toNat (eV (S+1)))=up L 1 (y.set (w+(A:Int)).toNat (eV (S+1))):=by funext j;simp only[up];split<;>rfl
   rw[this]at X;exact X
  .refine⟨λ_=>?_,λ_=>.Ux W u (P.bF Y)⟩
   have S:(up L 1 y) 5=L 5:=rfl
   have au:=u.aT (k:=5) cH
   rw[S]at au
   let⟨wr,X,K⟩:=u.cE (k:=5) (i:=B.toNat) cH (by rw[S];omega) (ak.len:Int)
   exact⟨_,u.dg (k:=5) cH,H,V,wr,ac.fg K,.Ux (W.N K) X ((P.bF Y).tok (by rw[S];simp[n5]))⟩
def OJ(hx:J f b)(j7:∀j,j<f.size->e j=0)(P:jU e b g p L)(hi:wT h o L)(hn:o<=10^12)(hN:iD f d r h q)(B:bg f a x.aO)(E:YT h q.length c o x):
 bJ dP 275 [vp g 0,.agg #[d.v,r.v],tK x a l] b (Ha e b g (wT h o)):=by
 apply yi (g,0)
 simp -zeta only[dT,fD]
 intro R I
 have st:=G9.Z0 (c:=R) (d:=I) hx j7 P.bI O O
 have x2:J b I:=(fV (a:=R) (c:=I) O O).1
 have c2:To e b e I:=eu.fZ x2 P.bI
 have aa:=B.aT
 have Z:∀{M:D},J f M->At M d r a l h q x:=λxx=>⟨hN.le xx.le,B.ext xx,E.jt⟩
 refine iC (n:=x.aO.length) (aa▸B.kM) (λ_ M=>∃t T K,wT h o K/\To e b t M/\G9 f [R.size,b.size] t M/\jU t M g T K) ⟨e,p,L,hi,c2,st,(P.ext x2)⟩ ?_
 rintro ab M ag μ ah ⟨S,af,Y,v,N,C,s⟩ ad
 refine⟨λF=>?_,λF=>?_⟩
 .simp only[bh]at F
  let⟨H,G⟩:=dY x.aO ab
  let⟨W,X⟩:=E.aO H (ba G)
  have N0:=v.aT 0 cH
  refine⟨_,s.dg (k:=0) cH,?_⟩
  refine(qx (Z C.ext) (s.nZ (k:=0) cH V) (by rw[N0];exact E.aO) (h:=ab) V).aP λU m4⟨j,z,m⟩=>⟨λj u=>m.bB j (C.bU j u).1,j,z,λ_=>⟨V,V,H,(B.ext (C.ext.N m)).br G,?_⟩,λ_=>ad V _ ⟨S,af,Y,v,N.N (eu.fZ m s.bI),C.oE m,s.ext m⟩⟩
  have w:=C.oE m
  have y:To e b S m4:=N.N (eu.fZ m s.bI)
  refine(zw (s.ext m) v hn W X).aP λU m5⟨j,t,z,A,h5⟩=>⟨w.fg A,j,z,λu=>.no (y.N A),λu=>?_⟩
  obtain⟨T,K,Q,ac,hl,rfl⟩:=h5 (sp u)
  exact ad V _ ⟨t,T,_,v.bF hl,y.N A,w.to A,Q⟩
 .refine iC (n:=x.aO.length) (aa▸B.kM) (λ_ t=>J M t) dt ?_
  rintro T M4 I4 μ4 ai m ac
  have w:=C.oE m
  have y:To e b S M4:=N.N (eu.fZ m s.bI)
  have t:=s.ext m
  refine⟨λF=>?_,λF=>⟨λae=>?_,λ_=>.Ux y t v⟩⟩
  .simp only[bh]at F
   let⟨H,G⟩:=dY x.aO T
   let⟨W,X⟩:=E.aO H (ba G)
   refine(sA (Z w.ext) (T:Int)).aP λU m5⟨j,z,A⟩=>⟨λj u=>A.bB j (w.bU j u).1,j,z,λ_=>⟨V,V,H,(B.ext (w.ext.N A)).br G,?_⟩,λ_=>ac V _ (m.N A)⟩
   refine(xk (t.ext A) v hn W X).aP λU m6⟨j,z,K⟩=>⟨λj u=>K.bB j (A.lt (w.bU j u).1),j,z,λ_=>.no (y.N (eu.fZ (A.N K) t.bI)),λ_=>ac V _ ((m.N A).N K)⟩
  .simp only[bh]at ae
   have H:=E.cR
   have u:=v.aT 5 cH
   have K:=t.aT (k:=5) cH
   have z:eV (x.cR -1)=x.cR -1:=gJ
   let⟨G,A⟩:=dY (Y 5) ((x.cR -1).toNat)
   let⟨wr,Q,j⟩:=t.cE (k:=5) (i:=(x.cR -1).toNat) cH V (-1)
   rw[z]
   exact⟨_,t.dg (k:=5) cH,V,V,G,t.br (k:=5) cH V A,λ_=>.no y,λ_=>⟨_,t.dg (k:=5) cH,V,V,wr,w.fg j,.Ux (y.N j) Q (v.tok (by simp[u]))⟩⟩
end
section
variable{M:D}
def QI(g:ag)(b:D):ad:=(List.range b.size).filter λa=>g a≠0
def aaG(g:ag)(b:D):∀a∈QI g b,a<b.size:=by grind [QI]
def Zn{g:ag}{b h:D}(j7:∀a,a<h.size->g a=0)(e:J h M):Le h (di (QI g b) M):=
 (ER (m:=h)).N (e.di λa c=>bH (by
  simp[QI]at c;exact Nat.le_of_not_lt λd=>c.2 (j7 a d)))
def eu.afT{g d:ag}{b c:D}(h:To g c d M)(f:∀a,b.size<=a->g a=0):Le (di (QI g b) c) M:=λa o v e=>by
 grind [gY,pI,Nat.lt_or_ge,Array.size,QI,bD,eu.fH]
def XR(f:af)(p:List jV)(c:Prop)(a:Bk):Prop:=∀(g:ag)(b h:D)(o:Nat)(j:Nat->E)(L:Nat->ab)(e l:Nat)(d r t:E),J h b->(∀a,a<h.size->g a=0)->jU g b o j L->wT f e L->WB f p.length c e a->e+4*a.w<=10^12->l<=e->iD h d r f p->iI h t a.bq->
 bJ dP 333 [vp o 0,.agg #[d.v,r.v],.agg #[t.v,vi a.bP],vi l] b (Ha g b o λi=>(∀k,k<6->(i k).length=l)/\(i 6).length<=10^12)
def adu(b:D)(e:Nat)(v:Value)(c:D):Prop:=∃(o:Nat)(d:Bool),v=.tuple #[vp o 0,vb d]/\J b c/\(d=true->∃g j L,(∀a,a<b.size->g a=0)/\jU g c o j L/\∀a,a<6->(L a).length=e)
def lY.bB{f:af}{e b:Nat}{L a:Nat->ab}(h:lY f e b L)(c:∀l,l<7->a l=L l):lY f e b a:=
 by constructor<;>grind [lY.aT,lY.ZD,lY.lF,lY.cW]
variable{g:ag}{b h:D}{o:Nat}{j:Nat->E}{L:Nat->ab}{f:af}{p:List jV}{e:Nat}{d r a l:E}{x:eQ}{c:Prop}
def Xx(hx:J h b)(aA:jU g b o j L)(hi:wT f e L)(P:iD h d r f p)(ha:bg h a x.aO)(hk:rW h l x.dA)(hw:WS f p.length c e x)(t:e+4*x.w<=10^12){ae:Nat}{m:Bk}(ad:x.dA[ae]? =some m)(ih:XR f p c m):
 bJ dP 314 [vp o 0,.agg #[d.v,r.v],tK x a l,vi ae] b (adu b e):=by
 apply DI (o,0)
 simp -zeta only[dT]
 intro T I
 let⟨x2,hl⟩:=fV (a:=T) (c:=I) O O
 have h2:=aA.ext x2
 have ap:=hi.aT
 have l0:=h2.aT (k:=0) cH
 have n0:=ap 0 cH
 have aT:=bC ad
 have aU:=hk.aT
 have aR:=By ad
 have aX:=eQ.pN x
 have aa:=hw.dA ae m ad
 have w:=hx.N x2
 let⟨ai,ht,f0,f1⟩:=hk.br ad
 refine⟨_,h2.dg (k:=0) cH,?_⟩
 refine(RX h2 (λu hj=>by
  by_cases A:u<6
  .rw[ap u A];omega
  .have:u=6:=V;subst this;exact hi.cW)).aP λv m3⟨C,z,H,K,aL,s,q,h3,y⟩=>⟨H.abE hl dt|>λ_=>λm t=>H.bB m (hl m t),(C,0),z,?_⟩
 have R:wT f e s:=hi.bB y
 have al:G9 I [T.size,b.size] K m3:=⟨H,q,λm t=>⟨H.lt (hl m t),q m (hl m t)⟩⟩
 have jX:∀(M:D)(af:ag)(ak:Nat->E)(Z:Nat->ab)(F:Nat),G9 I [T.size,b.size] af M->jU af M C ak Z->wT f F Z->WB f p.length c F m->F<=e+3->e<=F->
  bJ dP 333 [vp C 0,.agg #[d.v,r.v],.agg #[ai.v,vi m.bP],vi ((j 0).len:Int)] M λv m'=>gT [T.size,b.size] M m'/\∃U:Bool,v=vb U/\adu b e (.tuple #[vp C 0,vb U]) m':=λM af ak Z F X ay ao aB aW aC=>by
  have e0:(j 0).len=e:=V
  rw[e0]
  refine(ih af M I C ak Z F e d r ai X.ext X.j7 ay ao aB V aC (P.le w.le) (ht.le w.le)).aP λv m'⟨U,G,z,c5,N⟩=>⟨X.fg c5,U,z,C,U,O,x2.N (X.to c5).ext,λaE=>?_⟩
  obtain⟨W,Y,A,h7,_⟩:=N aE
  exact⟨G,W,Y,λm t=>(X.to c5).j7 m (x2.lt t),A,h7⟩
 refine⟨λB=>?_,λB=>?_⟩
 .simp only[bQ]at B
  have av:=P.bR.le w.le
  obtain⟨aQ,_⟩:=hw.iU.lZ B
  refine(kA (aaG K m3) (av.le H.le) P.dj x.cG).aP λv m4⟨s4,l4,z,aF,e4,x4⟩=>⟨λm t=>x4.bB m (al.bU m t).1,s4,z,?_⟩
  subst e4
  let⟨q,au⟩:=dY (cY f x.cG) ae
  have aw:=aF.le fJ
  have l4:=aw.aT
  refine⟨V,V,q,aw.br au,?_⟩
  have ah:=al.oE x4
  have h4:=h3.ext x4
  refine(fX (e:=QI K m4) (av.le (Zn ah.j7 ah.ext)) P.dj q).aP λv m5⟨s5,l5,z,ax,e5,x5⟩=>⟨λm t=>x5.bB m (ah.bU m t).1,s5,z,?_⟩
  subst e5
  have am:=ah.oE x5
  have N:=h4.ext x5
  have aO:=hw.iU.mE (bH (bH B))
  let⟨y,hy⟩:=dY x.aO 0
  let⟨y0,y1⟩:=hw.iU.aO y (ba hy)
  have aP:=ha.aT
  have N5:=R.aT
  have aY:=N.aT (k:=3) cH
  have F:=N5 3 cH;have n4:=N5 4 cH
  have aj:∀{M:D},J I M->aS M a.bt (a.off+Int.toNat (0:Int)*1)=some (vi y):=λxx=>(ha.ext (w.N xx)).br hy
  let⟨w6,A,c6⟩:=N.cE (k:=3) (i:=y.toNat) cH V q
  refine⟨_,N.dg (k:=3) cH,V,V,y,aj am.ext,y0,V,w6,?_⟩
  intro m6
  have an:=am.to c6
  let⟨w7,h7,c7⟩:=A.cE (k:=4) (i:=y.toNat) cH (by show _<(s 4).length;omega) ((j 0).len:Int)
  have aG:=A.aT (k:=4) cH
  have az:up s 3 ((s 3).set y.toNat q) 4=s 4:=rfl
  rw[az]at aG
  refine⟨am.fg c6,_,A.dg (k:=4) cH,V,V,y,aj an.ext,y0,V,w7,?_⟩
  intro m7
  have aN:=an.to c7
  have F3:=KD P.dj q
  have e0:((j 0).len:Int)=e:=V
  have i7:lY f e (e+(da f q).length) (up (up s 3 ((s 3).set y.toNat q)) 4 ((s 4).set y.toNat ((j 0).len:Int))):=by
   refine⟨λu hj=>?_,λv aI hp=>R.ZD v aI (by simpa[up]using hp),λv c aq hc hf h1=>?_,by simpa[up]using R.cW⟩
   .rcases u with _|_|_|_|_|_|u<;>first|omega|(simp[up,N5])
   .have Q:((s 3).set y.toNat q)[v]? =some c:=by simpa[up]using hc
    have ac:((s 4).set y.toNat ((j 0).len:Int))[v]? =some aq:=by simpa[up]using hf
    by_cases ev:y.toNat=v
    .subst ev;rw[fy V]at Q ac;simp at Q ac;subst Q;omega
    .rw[jf ev]at Q ac;have:=R.lF v c aq Q ac h1;omega
  have aV:=ax.aT
  refine⟨an.fg c7,?_⟩
  refine iC (n:=(da f q).length) V (λu M=>∃G W Y,lY f (e+u) (e+(da f q).length) Y/\To K m5 G M/\G9 I [T.size,b.size] G M/\jU G M C W Y) ⟨K,_,_,i7,c6.N c7,aN,h7⟩ ?_
  rintro u M ao μ hj ⟨aK,aM,L8,i8,c8,C,ar⟩ aH
  refine dit (λaD=>?_) λaD=>?_
  .let⟨ac,hz⟩:=dY (da f q) u
   refine⟨V,V,ac,(ax.le (c8.afT h4.bI)).br hz,V,V,y,aj C.ext,?_⟩
   exact(FG ar (λaJ Q=>by rw[i8.aT aJ Q];omega) ac 0 y).aP λv M'⟨G,W,Q,h9⟩=>⟨C.fg Q,aH V _ ⟨G,W,_,by rw[<-kK];exact i8.Xb ac 0 V,c8.N Q,C.to Q,h9⟩⟩
  .have Q:u=(da f q).length:=V
   subst Q
   rw[Py B au]at aa
   exact⟨V,V,ai,(w.N C.ext).aS f0,m.bP,(w.N C.ext).aS f1,jX M aK aM L8 _ C ar i8 aa V V⟩
 .simp only[bd]at B
  rw[Pz B]at aa
  exact⟨V,V,ai,(w.N H).aS f0,m.bP,(w.N H).aS f1,jX m3 K aL s e al h3 R aa V V⟩
end
section
def _root_.Go.Vc.acp{e f:Nat}(h:f<=e)(k:e<=9223372036854775807){m:D}{d:(Int->D->Prop)->(Int->D->Nat)->Int->D->Prop}(Q:Nat->D->Prop)(g:Q f m)
 (j:∀(b:Nat)(a:D)(I:Int->D->Prop)(μ:Int->D->Nat),f<=b->b<=e->Q b a->
  (b<e->∀c,Q (b+1) c->I (eV ((b:Int)+1)) c/\μ (eV ((b:Int)+1)) c<μ b a)->d I μ b a):
 ∃(I:Int->D->Prop)(μ:Int->D->Nat),I f m/\∀i a,I i a->d I μ i a:=by
 refine⟨λi c=>∃b:Nat,i=b/\f<=b/\b<=e/\Q b c,λi _=>(e -i).toNat,⟨f,O,bY,h,g⟩,?_⟩
 grind [oU,Ql]
variable{g:ag}{m i:D}{h:Nat}{o:Nat->E}{L:Nat->ab}{j:af}{l:List jV}{e:Nat}{d r f b:E}{x:eQ}{c:Prop}
def RU(hx:J i m)(j7:∀p,p<i.size->g p=0)(t:jU g m h o L)(hi:wT j e L)(hN:iD i d r j l)(Z:bg i f x.aO)(hk:rW i b x.dA)(hw:WS j l.length c e x)(q:e+4*x.w<=10^12)(aA:x.op=7\/x.op=8)(ih:∀p∈x.dA,XR j l c p):
 bJ dP 274 [vp h 0,.agg #[d.v,r.v],tK x f b] m (Ha g m h (wT j e)):=by
 apply Ad (h,0)
 simp -zeta only[dT,fD]
 intro ab P
 have st:=G9.Z0 (c:=ab) (d:=P) hx j7 t.bI O O
 let⟨Q,z⟩:=fV (a:=ab) (c:=P) O O
 have aj:=hk.aT
 have ay:=Z.aT
 have aw:=hw.iU.mE V
 have ak:0<x.dA.length:=by
  grind [WS.iU,YT.Nv,YT.lZ]
 have N:∀{M:D},J P M->To g m g M:=λy=>eu.fZ (Q.N y) t.bI
 have ad:∀(M:D)(F:Nat)(p:Bk),J P M->x.dA[F]? =some p->bJ dP 314 [vp h 0,.agg #[d.v,r.v],tK x f b,vi F] M (adu M e):=λM F p y ae=>
  Xx (hx.N (Q.N y)) (t.ext (Q.N y)) hi hN Z hk hw q ae (ih p (ba ae))
 refine⟨λM=>J P M,⟨λ_=>?_,λ_=>dt⟩,?_⟩
 .let⟨w,u⟩:=dY x.aO 0
  let⟨A,B⟩:=hw.iU.aO w (ba u)
  refine⟨cH,V,w,(Z.ext st.ext).br u,?_⟩
  exact(xk (t.ext Q) hi V A B).aP λW U⟨p,s,v⟩=>⟨λp q=>v.bB p (z p q),p,s,λ_=>.no (N v),λ_=>v⟩
 .intro U v
  let⟨b0,ai⟩:=jq ak
  refine(ad U 0 b0 v ai).aP λW m4⟨aa,ar,s,R,Y⟩=>⟨λp q=>R.bB p (v.lt (z p q)),(aa,0),ar,s,λ_=>.no (N (v.N R)),λam=>?_⟩
  let⟨au,ac,L1,ap,Y,n1⟩:=Y cC
  have an:=n1 1 cH;have ao:=n1 5 cH
  refine acp (e:=x.dA.length) (f:=1) V (aj▸hk.kM) (λ_ M=>J m4 M) dt ?_
  rintro F M av μ ax az S aq
  have w:=(v.N R).N S
  have B:=Y.ext S
  refine⟨λaf=>?_,λaf=>?_⟩
  .simp only[bh]at af
   let⟨p,q⟩:=dY x.dA F
   refine(ad M F p w q).aP λW m6⟨ag,ah,s,u,C⟩=>⟨λp q=>u.bB p (w.lt (z p q)),(ag,0),ah,s,λ_=>.no (N (w.N u)),λam=>?_⟩
   let⟨aD,aE,L2,aC,C,n2⟩:=C cC
   have al:=n2 1 cH;have aB:=n2 5 cH
   have H:=B.ext u
   refine⟨_,H.dg (k:=1) cH,_,C.dg (k:=1) cH,?_⟩
   refine(vh (H.nZ (k:=1) cH V) (C.nZ (k:=1) cH V)).aP λW m7⟨I,s,_,A⟩=>⟨λp q=>A.bB p (u.lt (w.lt (z p q))),I,s,λ_=>.no (N (w.N (u.N A))),λ_=>?_⟩
   have T:=H.ext A
   have X:=C.ext A
   refine⟨_,T.dg (k:=5) cH,_,X.dg (k:=5) cH,?_⟩
   refine(vh (T.nZ (k:=5) cH V) (X.nZ (k:=5) cH V)).aP λW m8⟨I,s,_,K⟩=>⟨λp q=>K.bB p (A.lt (u.lt (w.lt (z p q)))),I,s,λ_=>.no (N (w.N (u.N (A.N K)))),λ_=>?_⟩
   exact aq V _ (S.N (u.N (A.N K)))
  .let H:Nat->Nat:=λp=>if p<U.size then g p else au p
   have uu:=Q.N v
   have y:=uu.N (R.N S)
   have z4:=R.aQ;have zM:=S.aQ;have T:=uu.aQ
   have I:∀p,p<U.size->H p=g p:=cC
   have H0:jU H M h o L:=by
    refine⟨λp q=>?_,by rw[I _ (cr t.bU.lt T)];exact t.jZ,(t.ext y).bU,λu A=>(t.rm u A).fH (λK=>y.bB _ ((t.rm u A).bt K).1) λK=>I _ (cr ((t.rm u A).bt K).1 T)⟩;grind [jU.bI]
   have ah:∀u,u<7->iV H M bG 1 (u+1) (ac u) ((L1 u).map Ce.i):=λu A=>(B.rm u A).fH (λ_=>O) λK=>by
    have C:=((B.rm u A).bt K).2;grind
   have c3:To g m H M:=⟨y.aQ,λp q=>I p (cr q T),H0.bI,λp q _=>y.bB p q⟩
   have ag:G9 i [ab.size,m.size] H M:=⟨st.ext.N w,λp q=>by rw[I p (cr (cr q hx.aQ) T)];exact j7 p q,λp q=>⟨w.lt (z p q),by rw[I p (v.lt (z p q))];exact(st.bU p q).2⟩⟩
   refine⟨_,B.dg (k:=1) cH,?_⟩
   let⟨w5,h5,X⟩:=H0.adP (k:=1) cH (ah 1 cH)
   refine⟨w5,?_⟩
   intro m9
   have al:aa≠h:=λs=>by
    have h8:=B.jZ;rw[s,ap _ (cr t.bU.lt T)]at h8;omega
   have G:aS m9 aa 5=some (E.v (ac 5)):=(bD (cw _ _ _ _ al) _).trans (B.dg (k:=5) cH)
   have A5:iV H m9 bG 1 (5+1) (ac 5) ((L1 5).map Ce.i):=by
    grind [iV.fH,cw,iV.bt,jU.jZ]
   let⟨w6,h6,c6⟩:=h5.adP (k:=5) cH A5
   exact⟨ag.fg X,_,G,w6,(ag.to X).fg c6,.Ux ((c3.N X).N c6) h6 ((hi.bF an).tok ao)⟩
end
section
section
variable{b:ag}{m g:D}{f:Nat}{l:Nat->E}{L:Nat->ab}{e:af}{h:List jV}{n:Nat}{d r a j:E}{x:eQ}{c:Prop}
def Lv(hx:J g m)(j7:∀o,o<g.size->b o=0)(Z:jU b m f l L)(z:wT e n L)(S:iD g d r e h)(E:bg g a x.aO)(hk:rW g j x.dA)(F:WS e h.length c n x)(u:n+4*x.w<=10^12)(ih:∀o∈x.dA,XR e h c o):
 bJ dP 250 [vp f 0,.agg #[d.v,r.v],tK x a j] m (Ha b m f (wT e (n+dn x))):=by
 apply Ct (f,0)
 simp -zeta only[dT,fD]
 intro T ad
 have P:=G9.Z0 (c:=T) (d:=ad) hx j7 Z.bI O O
 have x2:J m ad:=(fV (a:=T) (c:=ad) O O).1
 have h2:=Z.ext x2
 have am:=E.aT
 have ao:=eQ.pN x
 have N0:=z.aT 0 cH
 refine⟨_,h2.dg (k:=0) cH,?_⟩
 refine(sI (S.le P.ext.le) (h2.nZ (k:=0) cH V) (E.ext P.ext) (hk.le P.ext.le) V (λo _=>rq o)).aP λA m3⟨G,t,_,W⟩=>⟨λo u=>W.bB o (P.bU o u).1,G,t,?_⟩
 have s:=P.oE W
 have C:=h2.ext W
 have N:To b m b m3:=eu.fZ (x2.N W) Z.bI
 have mE:14<=x.op\/x.op=7\/x.op=8->∃y:Int,x.aO[0]? =some y/\0<=y/\y<(n:Int):=λho=>by
  have:=F.iU.mE ho;let⟨y,K⟩:=dY x.aO 0;exact⟨y,K,F.iU.aO y (ba K)⟩
 refine⟨λok M=>∃v,To b m v M/\G9 g [T.size,m.size] v M/\(ok=true->∃ah p,jU v M f ah p/\wT e n p),⟨λai=>?_,λap=>⟨λaj=>?_,λaq=>⟨λak=>?_,λar=>⟨λh7=>?_,λn7=>?_⟩⟩⟩⟩,?_⟩
 .simp only[bQ]at ai
  let⟨y,K,B,R⟩:=mE V
  have X:=F.iU.mE V
  have Y:∀{M:D},J g M->aS M a.bt (a.off+Int.toNat (0:Int)*1)=some (vi y):=λQ=>(E.ext Q).br K
  refine⟨cH,V,y,Y s.ext,?_⟩
  refine(xk C z V B R).aP λA H⟨o,t,p⟩=>⟨λo u=>p.bB o (s.bU o u).1,o,t,?_⟩
  have q:=C.ext p
  have w:=s.oE p
  have N1:=z.aT 1 cH
  have l1:=q.aT (k:=1) cH
  let⟨U,aa⟩:=dY (L 1) y.toNat
  let⟨wr,h5,I⟩:=q.cE (k:=1) (i:=y.toNat) cH V (eV (U+1))
  exact⟨_,q.dg (k:=1) cH,cH,V,y,Y w.ext,_,q.dg (k:=1) cH,cH,V,y,Y w.ext,B,V,U,q.br cH V aa,B,V,wr,w.fg I,b,(N.N (eu.fZ p C.bI)).N I,w.to I,λ_=>⟨l,_,h5,z.bF (by simp[N1])⟩⟩
 .simp only[bQ]at aj
  let⟨y,K,B,R⟩:=mE V
  have X:=F.iU.mE V
  refine⟨cH,V,y,(E.ext s.ext).br K,?_⟩
  refine(zw C z V B R).aP λA H⟨o,v,t,p,q⟩=>⟨s.fg p,o,t,v,N.N p,s.to p,λu=>?_⟩
  grind [lY.bF]
 .simp only[eK,bQ]at ak
  refine(VG s.ext s.j7 C z V S E F.iU V).aP λA H⟨o,v,t,p,q⟩=>⟨s.fg p,o,t,v,N.N p,s.to p,q⟩
 .simp only[eK,bQ]at h7
  refine(RU s.ext s.j7 C z S E hk F u h7 ih).aP λA H⟨o,v,t,p,q⟩=>⟨s.fg p,o,t,v,N.N p,s.to p,q⟩
 .refine(OJ s.ext s.j7 C z V S E F.iU).aP λA H⟨o,v,t,p,q⟩=>⟨s.fg p,o,t,v,N.N p,s.to p,q⟩
 .rintro ok M ⟨au,p,w,q⟩
  refine⟨λ_=>.no p,λan=>?_⟩
  let⟨av,L4,q,i4⟩:=q cC
  have Y:∀{X:D}(G U:Int),J M X->dn x=1->bJ dP 271 [vp f 0,vi G,vi U,vi (-1:Int)] X λ_ m'=>gT [T.size,m.size] X m'/\Ha b m f (wT e (n+dn x)) (vb true) m':=λG U Q hd=>
   (FG (q.ext Q) (λH B=>by rw[i4.aT H B];omega) G U (-1)).aP λ_ m'⟨v,ah,I,h5⟩=>⟨(w.oE Q).fg I,.Ux ((p.N (eu.fZ Q q.bI)).N I) h5 (by rw[hd];exact(i4.Xb G U V).IK V)⟩
  refine(mO x.op M).aP λA m5⟨o,t,aa,B⟩=>⟨λo u=>B.bB o (w.bU o u).1,o,t,λae=>⟨λ_=>Y G 1 B (by have:=Ar x o aa;rw[a8 ae]at this;exact this),λ_=>?_⟩,λal=>?_⟩
  .refine(mO x.op m5).aP λA m6⟨R,t,ab,H⟩=>⟨λo u=>H.bB o (B.lt (w.bU o u).1),R,t,λaf=>Y 0 0 (B.N H) (by have:=Ar x R ab;rw[a8 af]at this;exact this),λac=>?_⟩
   have:=ab.2 (aa.1 ae);rw[this]at ac;simp at ac
  .have ag:=Ar x o aa
   rw[aV (by simp[al])]at ag
   exact(mO x.op m5).aP λA m6⟨R,t,ab,H⟩=>⟨λo u=>H.bB o (B.lt (w.bU o u).1),R,t,λaf=>Y 0 0 (B.N H) cC,λac=>.Ux (p.N (eu.fZ (B.N H) q.bI)) (q.ext (B.N H)) (by rw[ag];exact i4)⟩
end
def R8{A:af}{rs:List jV}{H:Prop}:∀b:Bk,XR A rs H b:=by
 refine Bk.ind ?_;intro bq ac ih p m mb E sl L aa D ag am ap Z j7 r R Y B hk P v;simp only[Bk.mZ,Bk.lV,Bk.vT]at*;apply A3 (E,0);simp -zeta only[dT];intro w o;have st:=G9.Z0 (c:=w) (d:=o) Z j7 r.bI O O;have F:J m o:=(fV (a:=w) (c:=o) O O).1;have I:To p m p o:=eu.fZ F r.bI;let⟨C,x,r1⟩:=Y.cJ;simp only[Bk.mZ,Bk.lV]at C x r1;have W:=v.aT;have U:=Gu bq;refine iC (n:=bq.length) (W▸v.kM) (λi M=>∃g q h,wT A (aa+dc (bq.take i)) h/\To p m g M/\G9 mb [w.size,m.size] g M/\jU g M E q h) ⟨p,sl,L,sp R,I,st,r.ext F⟩ ?_;rintro i M ad μ ai ⟨an,ao,G,f,j,c,d⟩ ab
 have ah:=xI (bq.take i);have aj:=jK (bq.take i);refine dit (λT=>?_) λT=>?_
 .let⟨u,l⟩:=dY bq i;let⟨ae,kk,Q,S,y,g1,g2,K,N⟩:=v.br l;have al:=ux l;have ak:=U (i+1);have X:=c.ext;refine⟨V,V,_,X.aS y,_,X.aS g1,_,X.aS g2,_,X.aS K,_,X.aS N,?_⟩;refine(Lv X c.j7 d f P Q S (C i u l) V (ih u (ba l))).aP λz m4⟨b,g,e,a,s⟩=>⟨c.fg a,b,e,λ_=>.no (j.N a),λB=>?_⟩;let⟨q,h,t,i5⟩:=s cC;exact ab V _ ⟨g,q,h,by rw[(vt l),<-kK];exact i5,j.N a,c.to a,t⟩
 .have K:i=bq.length:=V;rw[K,fB]at f;have ae:=xI bq;have ak:=jK bq;have N0:=f.aT 0 cH;have l0:=d.aT (k:=0) cH;let⟨X,Q⟩:=dY (G 0) ac.toNat;refine⟨_,d.dg (k:=0) cH,x,V,X,d.br cH V Q,λ_=>?_,λ_=>?_⟩
  .refine(zw d f V x V).aP λz m4⟨b,g,e,a,s⟩=>⟨c.fg a,b,e,λ_=>.no (j.N a),λB=>?_⟩;obtain⟨q,h,t,al,N,rfl⟩:=s cC;refine(QV t (f.bF N) V (b:=D) V).aP λz S⟨b,y,e,l,u⟩=>⟨(c.to a).fg l,b,e,b,y,O,(j.N a).N l,u⟩
  .refine(QV d f V (b:=D) V).aP λz S⟨b,y,e,l,u⟩=>⟨c.fg l,b,e,b,y,O,j.N l,u⟩
def ad2(m:D)(f:af)(q:jV)(j:Int)(v:Value)(c:D):Prop:=∃(a:Nat)(d:Bool),v=.tuple #[vp a 0,vb d]/\J m c/\(d=true->0<=j/\j<=q.eZ.bq.length/\∃e g L,(∀b,b<m.size->e b=0)/\jU e c a g L/\wT f (q.aY.length+dc (q.eZ.bq.take j.toNat)) L)
def JO{m:D}{I T:E}{f:af}{y:List jV}{ab:Prop}{W:Nat}(o:iD m I T f y)(P:Da f y ab W)(hW:W<=200000000000){K:Nat}{a:jV}(v:y[K]? =some a){j:Int}(hj: -9000000000000000000<=j/\j<=9000000000000000000):
 bJ dP 225 [.agg #[I.v,T.v],vi K,vi j] m (ad2 m f a j):=by
 apply Cq
 simp -zeta only[dT]
 intro s
 have C:=px s
 have g:∀b∈[m.size],b<s.size:=by simp[s]
 have aC:=o.lJ.aT
 have aA:=bC v
 let⟨ai,ag,ak,hw⟩:=P.eR a (ba v)
 let⟨aH,aI,b,c1,c2,H,e0,e1,e2,u,e4⟩:=o.lJ.br v
 have w:∀{M:D}{an:Obj},J m M->ad2 m f a j (.tuple #[vp M.size 0,vb false]) (M.push an):=λxx=>⟨_,false,O,xx.cz _,bO⟩
 refine(J8 (o.le C.le) (λd c=>oh (P.eR d c))).bL (J.cX s) g λv1 m2 F _=>⟨_,O,λ_=>w (C.N F),λ_=>?_⟩
 have Y:=C.N F
 refine(dm).bL F g λv2 m3 _ Z v3=>⟨_,O,λ_=>w (Y.N Z),λ_=>?_⟩
 have A:=Y.N Z
 have ax:=H.aT
 refine⟨V,V,_,A.aS u,?_⟩
 refine(dm).bL v3 g λv4 R ac x4 B=>⟨_,O,λ_=>w (A.N x4),λaF=>?_⟩
 have c:=A.N x4
 have hr:=ac.1 cC
 refine⟨V,V,_,c.aS e0,_,c.aS e1,_,c.aS e2,_,c.aS u,_,c.aS e4,?_⟩
 refine(MX (q:=a) (c1.ext c) (c2.ext c) ai ag f).aP λar S⟨r,t,G,x,sl,aa,j7,L,i5⟩=>⟨λb d=>G.bB b (B.lt (g b d)),(r,0),t,?_⟩
 obtain⟨al,_,_⟩:=ak.cJ
 have ay:=Bk.pN a.eZ
 have aj:=Gu a.eZ.bq
 have aq:G9 R [m.size] x S:=⟨G,j7,λb d=>⟨G.lt (B.lt (g b d)),j7 b (B.lt (g b d))⟩⟩
 have e6:j=((j.toNat:Nat):Int):=V
 obtain⟨jn,ad⟩:∃jn:Nat,j=jn:=⟨j.toNat,e6⟩
 subst ad
 simp only[iO]
 refine iC (n:=jn) V (λi M=>∃h z k,wT f (a.aY.length+dc (a.eZ.bq.take i)) k/\To x S h M/\G9 R [m.size] h M/\jU h M r z k) ⟨x,sl,aa,sp i5,L.to,aq,L⟩ ?_
 rintro i M av μ aB ⟨ao,ap,L6,Q,c6,e,N⟩ am
 have U:J m M:=c.N e.ext
 refine dit (λah=>?_) λah=>?_
 .let⟨au,p⟩:=dY a.eZ.bq i
  let⟨aw,kk,ha,ae,g0,g1,g2,g3,g4⟩:=(H.le c.le).br p
  have X:=e.ext
  have aG:=ux p
  have aE:=aj (i+1)
  have az:=xI (a.eZ.bq.take i)
  have aD:=jK (a.eZ.bq.take i)
  refine⟨V,V,_,U.aS u,V,V,_,X.aS g0,_,X.aS g1,_,X.aS g2,_,X.aS g3,_,X.aS g4,?_⟩
  refine(Lv X e.j7 N Q (o.le c.le) ha ae (al i au p) V (λb _=>R8 b)).aP λar m7⟨b,h,t,l,h7⟩=>⟨e.fg l,b,t,λ_=>⟨r,false,O,c.N (e.to l).ext,bO⟩,λd=>?_⟩
  let⟨z,k,h8,i8⟩:=h7 cC
  exact am V _ ⟨h,z,k,by rw[vt p,<-kK];exact i8,c6.N l,e.to l,h8⟩
 .have h:i=jn:=V
  subst h
  exact⟨r,true,O,U,λ_=>⟨V,V,ao,ap,L6,λb d=>e.j7 b (c.lt d),N,sp Q⟩⟩
end
section
variable{e d:Int}{c P:Nat}{m:D}
def YG(a:0<=e)(b:0<d):0<=e.tmod d/\e.tmod d<d:=⟨Int.tmod_nonneg _ a,Int.tmod_lt_of_pos _ b⟩
def SX(a:0<=e)(b:0<d):0<=e.tdiv d/\e.tdiv d<=e:=by
 rw[aa2 a];exact⟨Int.ediv_nonneg a V,Int.ediv_le_self _ a⟩
def abS{b:Int}(f:0<=e/\e<4611686018427387904)(g:0<=b/\b<4611686018427387904):0<=abR e b:=by
 unfold abR;have a:(e%18446744073709551616).toNat<2^62:=V;have c:(b%18446744073709551616).toNat<2^62:=V;have d:=Nat.xor_lt_two_pow a c;grind [dk]
def Rd(c:Nat)(a:E)(P:Nat)(m:D):Prop:=(∃p:Int,dJ m c uB [.s a,.i p]/\0<=p/\p<=P)/\a.len<=a.cap/\∀k:Nat,k<a.len->∃v:Int,0<=v/\v<=255/\aS (di [c] m) a.bt (a.off+k*1)=some (.int .u8 v)
theorem Rd.aP{Q:Nat}{a:E}(h:Rd c a P m)(g:P<=Q):Rd c a Q m:=let⟨⟨p,b,d,f⟩,e⟩:=h;⟨⟨p,b,d,V⟩,e⟩
theorem Rd.lt{c P:Nat}{a:E}{m:D}(h:Rd c a P m):c<m.size:=let⟨⟨_,b,_⟩,_⟩:=h;b.lt
theorem Rd.BP{f:Nat}{b:E}{e M a:D}(d:Rd c b f e)(h:Rd c b P M)(l:Fz [c] e a)(k:a[c]? =M[c]?):Rd c b P a:=by
 obtain⟨⟨p,g,i,j⟩,_⟩:=h;exact⟨⟨p,g.congr k,i,j⟩,d.2.1,λo m=>let⟨v,q,r,n⟩:=d.2.2 o m;⟨v,q,r,l.eX (λ_ h=>h) _ _ _ n⟩⟩
def Rd.ext{a:E}{d:D}(h:Rd c a P m)(b:J m d):Rd c a P d:=h.BP h (b.fz _) (b.bB _ h.lt)
def Rd.aW{c e P:Nat}{a:E}{d M:D}(f:Rd c a e d)(h:Rd c a P M)(i:Fz [c] d M){b:Nat}(g:d.size<=b)(o:Nat)(l:ae):Rd c a P (aW M b o l):=
 by grind [Rd.BP,Fz.aW,cw,Rd.lt]
def ad8(c:Nat)(b:E)(P:Nat)(m:D)(d:Int)(v:Value)(a:D):Prop:=∃k:Int,v=vi k/\0<=k/\(k<d\/k=0)/\Rd c b (P+1) a/\Fz [c] m a
def dW{b:E}(q:Rd c b P m)(hP:P<=10^16)(d:Int):bJ dP 74 [vp c 0,vi d] m (ad8 c b P m d):=by
 let⟨⟨p,s,l,p1⟩,X,D⟩:=q;apply Cw (c,0);simp -zeta only[fD];have g1:=s.dg 1;refine⟨p,g1,s.gK bO,?_⟩;intro h;have U:eV (p+1)=p+1:=gJ;have T:eV (p+1 -1)=p:=by rw[show p+1 -1=p by omega];exact gJ
 have t:dJ h c uB [.s b,.i (p+1)]:=(U▸dJ.aW (m:=m) (r:=[.i (eV (p+1))]) (o:=1) s);have z:Fz [c] m h:=(Fz.cX [c] m).aW (bz bO) _ _;have F:Le (di [c] m) (di [c] h):=z.eX λ_ q=>q;have R:∀k:Int,0<=k->(k<d\/k=0)->ad8 c b P m d (vi k) h:=λk A C=>⟨k,O,A,C,⟨⟨p+1,t,V,V⟩,X,λi e=>let⟨v,g,j,f⟩:=D i e;⟨v,g,j,F _ _ _ f⟩⟩,z⟩;have e:=t.dg 0;have g1:=t.dg 1;have B:∀i:Int,0<=i->i<(b.len:Int)->∃v:Int,0<=v/\v<=255/\aS h b.bt (b.off+i.toNat*1)=some (.int .u8 v):=λi A C=>by
  let⟨v,g,j,f⟩:=D i.toNat V;exact⟨v,g,j,(gY.1 (F _ _ _ f)).2⟩
 refine⟨λ_=>R 0 (dN _) (bH O),λZ=>⟨_,e,λ_=>R 0 (dN _) (bH O),λY=>?_⟩⟩;simp only[dK]at Z;simp only[bd]at Y;have G:0<d:=V;refine⟨_,g1,_,e,?_⟩;rw[T];refine⟨λy=>?_,λ_=>?_⟩
 .simp only[bh]at y;let⟨v,g,j,f⟩:=B p l y;refine⟨_,e,l,y,v,f,V,?_⟩;rw[gJ];have:=YG g G;exact R _ this.1 (bz this.2)
 .have w:0<(b.len:Int):=V;let⟨I,J⟩:=YG l w;let⟨v,g,j,f⟩:=B _ I J;have S:eV (eV (p*7)+3)=p*7+3:=by rw[dk (b:=p*7) V V,gJ]
  let⟨K,L⟩:=YG (e:=p*7+3) V w;let⟨u,u0,u1,hu⟩:=B _ K L;let⟨d0,d1⟩:=SX l w;rw[S];refine⟨_,e,_,e,V,I,J,v,f,_,e,_,e,V,K,L,u,hu,_,e,V,cH,V,?_⟩;have M:eV (eV v*131)=v*131:=by rw[dk (b:=v) V V,gJ]
  have N:eV (eV u*1117)=u*1117:=by rw[dk (b:=u) V V,gJ]
  have E3:eV (p*29)=p*29:=gJ;have Q:eV (eV (p.tdiv b.len)*53)=p.tdiv b.len*53:=by rw[dk (b:=p.tdiv b.len) V V,gJ]
  rw[M,N,E3,Q,dk (b:=v*131+u*1117) V V,dk (b:=v*131+u*1117+p*29) V V,dk (b:=v*131+u*1117+p*29+p.tdiv b.len*53) V V];have H:0<=v*131+u*1117+p*29+p.tdiv b.len*53:=V;let⟨q0,q1⟩:=SX (d:=64) H cH;rw[dk V V];have W:=abS ⟨H,V⟩ ⟨q0,V⟩;let⟨z0,z1⟩:=YG W G;exact R _ z0 (bz z1)
def om{a:E}(h:Rd c a P m)(j:P<=10^16){s:E}{l:ab}(d:bg (di [c] m) s l)(o:0<l.length):
 bJ dP 77 [vp c 0,s.v] m λv f=>∃k:Int,v=vi k/\k∈l/\Rd c a (P+1) f/\Fz [c] m f:=by
 apply DL (c,0)
 have p:=d.aT
 refine(dW h j (s.len:Int)).aP λv r⟨k,g,n,q,i,b⟩=>⟨k,g,n,V,?_⟩
 let⟨x,e⟩:=dY l k.toNat
 exact⟨x,(gY.1 ((b.eX (λ_ h=>h)) _ _ _ (d.br e))).2,x,O,ba e,i,b⟩
end
section
variable{d:ad}{c:D}
def _root_.Go.Vc.Gr.eE{α:Type}{X:ad}{n:D}{v f:Nat}{R:D->ae->α->Prop}{s:E}{u:List α}(t:qF f R)(x:Gr d n c v f R s u)(L:Fz X n c){k:Nat}(N:k<u.length){cs:ae}{a:α}(A:R (di (s.bt::d) c) cs a):
 gK c s.bt (s.off+k*f) f/\Gr d n (aW c s.bt (s.off+k*f) cs) v f R s (u.set k a)/\Fz X n (aW c s.bt (s.off+k*f) cs)/\(∀g,g≠s.bt->(aW c s.bt (s.off+k*f) cs)[g]? =c[g]?):=by
 have T:=x.cF
 let⟨y,e,z,l⟩:=x
 have Q:∀g,g≠s.bt->(aW c s.bt (s.off+k*f) cs)[g]? =c[g]? :=by grind [cw]
 let⟨g,h,tail,q,H,I,W,J⟩:=z.br.resolve_left y
 have aa:=t.aT A
 let⟨p,C⟩:=dY e k cC
 have Z:=l.aQ p (ba C)
 have S:s.off+k*f=k*f:=by rw[q];simp
 have K:s.bt=g:=by rw[q];rfl
 have O:=bC C
 have ac:e=e.take k++p::e.drop (k+1):=by
  grind [List.getElem?_eq_some_iff,List.drop_eq_getElem_cons,List.take_append_drop]
 have af:(e.take k).flatten.length=k*f:=by rw[eD λh B=>l.aQ h (jG B),qZ,mK V]
 have ab:e.set k cs=e.take k++cs::e.drop (k+1):=by
  grind [List.set_eq_take_append_cons_drop]
 have M:jm (e.flatten++tail) (k*f) cs=(e.set k cs).flatten++tail:=by
  have Y:e.flatten++tail=(e.take k).flatten++(p++((e.drop (k+1)).flatten++tail)):=by
   grind
  grind [Cd,List.length,List.drop_left]
 have P:(e.set k cs).flatten.length=e.flatten.length:=by
  grind [eD,fL.aQ,List.length_set,List.mem_or_eq_of_mem_set]
 have F:Le (di (s.bt::d) c) (di (s.bt::d) (aW c s.bt (s.off+k*f) cs)):=by grind [dU]
 refine⟨?_,⟨y,e.set k cs,⟨(P▸z.aT),bH ⟨g,h,tail,q,H,?_,?_,J⟩⟩,⟨by simp[l.aT],λh B=>?_,λG h U i j=>?_⟩⟩,L.aW (bH T.1) _ _,Q⟩
 .grind [dJ.gK,List.take,List.flatten,List.length,List.length_append]
 .have w:=dJ.aW (m:=c) (b:=g) (r:=cs) (o:=k*f) I
  rw[S,K,<-M];exact w
 .grind [List.length_append]
 .grind [List.mem_or_eq_of_mem_set,fL.aQ]
 .by_cases w:k=G
  .subst w
   rw[fy O]at i
   rw[fy N]at j
   simp at i j;subst i j
   exact t.le F A
  .rw[jf w]at i j
   exact t.le F (l.eR G h U i j)
def Gc(hS:∀a∈d,a<c.size){g A I:E}{Q:Int}{bq:au}{x:eQ}{e:Nat}(q:iI (di d c) g bq)(ha:bg (di d c) A x.aO)(hk:rW (di d c) I x.dA)(hj:e<=bq.length)(hb:bq.length<=900000000000):
 bJ dP 227 [.agg #[g.v,vi Q],vi e,tK x A I] c λae K=>∃S,ae=.agg #[S.v,vi Q]/\iI (di d K) S (bq.take e++[x]++bq.drop e)/\J c K:=by
 apply JV
 simp -zeta only[dT]
 intro L h f r
 let⟨p,l,s1,s2,s3⟩:=uQ (a:=L) (c:=h) (d:=f) O O O
 obtain⟨w,s4⟩:=pu r
 have X:GS (h.size::d) f r (.mk f.size 0 0 0) []:=GS.bI _ _
 have u4:=p.N w
 have G:=q.aT
 have ag:=q.mr
 have F:∀a∈[h.size,L.size,c.size],a<r.size:=λa b=>w.lt (l a b)
 have H:∀{M:D}{B:Nat},J c M->c.size<=B->Le (di d c) (di (B::h.size::d) M):=λxx af=>xx.di λa b=>by
  simp only[aZ]at b;rcases b with k|k|k
  .exact bH V
  .exact bH V
  .exact bz k
 have T:Int.toNat 0=0:=rfl
 have U:Int.toNat (e:Int)=e:=V
 have W:Int.toNat (g.len:Int)=g.len:=V
 rw[T,U,W]
 refine⟨V,V,V,?_⟩
 have ab:iI (di (f.size::h.size::d) r) (g.cut 0 e 5) (bq.take e):=sp ((q.le (H (B:=f.size) u4 V)).PI (i:=0) (jh _) hj)
 refine GS.lZ X (w.fz []) ab fu λr1 m5 g1 C z1 q1=>⟨λa b=>q1 a (F a b) (by have:=l a b;simp;omega),V,V,V,?_⟩
 intro N
 have s:=px N
 have y1:=g1.cF
 have m:=C.ext
 have y:∀o,aS N c.size o=aS m5 c.size o:=λo=>bD (s.bB _ (oh (F c.size bO))) o
 refine⟨y 1,y 0,?_⟩
 refine GS.nI g1 C (ha.le (H (p.N m) V)) (hk.le (H (p.N m) V)) fu λR P g2 u z2 q2=>⟨J.sY (m.N s) u.ext (λa b=>oh (l a b)),?_⟩
 have n:J f P:=u.ext
 have y2:=g2.cF
 have t:∀{M z:D},J f M->J f z->∀o,aS z c.size o=aS M c.size o:=λZ h' o=>bD (by rw[h'.bB _ (l _ bO),Z.bB _ (l _ bO)]) o
 refine⟨t (m.N s) n 1,t (m.N s) n 0,?_⟩
 have ac:iI (di (R.bt::h.size::d) P) (g.cut e g.len 5) (bq.drop e):=by
  have:=(q.le (H (B:=R.bt) (p.N n) V)).PI (i:=e) (j:=g.len) V V;rwa[G,eY bY,<-G]at this
 refine GS.lZ g2 u ac fu λr3 m8 Y v z3 q3=>⟨J.sY n v.ext l,t n v.ext 1,?_⟩
 intro m9
 have aa:∀a∈h.size::d,a<f.size:=λa b=>by
  rcases aZ.1 b with k|k
  .omega
  .have:=hS a k;omega
 refine⟨r3,O,?_,(p.N v.ext).aW V _ _⟩
 have hD:=Y.cB km.aP aa cH fu
 have ad:Le (di (h.size::d) m8) (di d m9):=dU bO λa b=>aX _ b
 exact iI.le ad (by simpa[nF]using hD)
def Ka(B:∀b∈d,b<c.size){t L o:E}{z:af}{w:List jV}{q:jV}{m:Nat}{j:Bk}(h:iD (di d c) t L z w)(C:w[m]? =some q)(h3:q.aY.length<=3/\q.cW.length<=3)(ae:iI (di d c) o j.bq):
 zI 229 [.agg #[t.v,L.v],vi m,.agg #[o.v,vi j.bP]] c d z λag=>ag=w.set m ⟨q.aY,q.cW,q.bP,j⟩:=by
 apply CF
 simp -zeta only[dT]
 intro F g i u
 let⟨p,n,s1,s2,s3⟩:=uQ (a:=F) (c:=g) (d:=i) O O O
 obtain⟨x,s4⟩:=pu u
 have g0:GR (g.size::d) i u (.mk i.size 0 0 0) []:=Gr.bI _ bY
 have u4:=p.N x
 have al:=h.lJ.aT;have ak:=h.pP
 have ai:=bC C
 have ac:∀b∈[g.size,F.size,c.size],b<u.size:=λb e=>x.lt (n b e)
 have H:∀{M:D}{y:Nat},J c M->c.size<=y->Le (di d c) (di (y::g.size::d) M):=λxx ah=>xx.di λb e=>by
  simp only[aZ]at e;rcases e with f|f|f
  .exact bH V
  .exact bH V
  .exact bz f
 refine Gr.lZ lz.aP cH g0 (x.fz []) (h.lJ.le (H (y:=i.size) u4 V)) fu λl v g1 A z1 q1=>⟨λb e=>q1 b (ac b e) (by have:=n b e;simp;omega),V,V,?_⟩
 simp only[iy]at g1
 have Q:J i v:=A.ext
 have y1:=g1.cF
 let⟨am,an,s,T,U,c3,W,X,Y,Z,e4⟩:=(h.lJ.le (H (y:=l.bt) (p.N Q) V)).br C
 have j7:∀{P:Value}{s I:Nat},aS (di (l.bt::g.size::d) v) s I=some P->aS v s I=some P:=λaa=>(gY.1 aa).2
 refine⟨_,j7 W,_,j7 X,_,j7 Y,_,j7 Z,_,j7 e4,?_⟩
 refine(C4 (b:=l.bt::g.size::d) (λb e=>?_) (T.le fJ) (U.le fJ) V).aP λrv m6⟨K,N,f,h1,h2,r⟩=>?_
 .simp only[aZ]at e
  rcases e with f|f|f
  .omega
  .omega
  .have:=B b f;omega
 subst f
 have g2:=g1.ext lz.aP r
 have aj:=g2.aT cH
 let⟨wr,g3,f3,q3⟩:=Gr.eE (k:=m) (cs:=[.s K,.s N,.i q.bP,.s o,.i j.bP]) (a:=⟨q.aY,q.cW,q.bP,j⟩) lz.aP g2 (A.cg r) V ⟨K,N,o,O,h1,h2,ae.le (H (y:=l.bt) ((p.N Q).N r) V)⟩
 refine⟨λb e=>r.bB b (oh (n b e)),_,_,_,_,_,O,V,V,wr,?_⟩
 intro m7
 refine⟨λb e=>q3 b (oh (n b e)),?_⟩
 intro G
 have ab:∀b∈g.size::d,b<i.size:=λb e=>by
  rcases aZ.1 e with f|f
  .omega
  .have:=B b f;omega
 have ad:Le (di (g.size::d) m7) (di d G):=dU bO λb e=>aX _ e
 have R:J c G:=(p.N f3.ext).aW V _ _
 exact⟨t,l,_,O,⟨h.bR.le R.eX,El.le ad (g3.cB lz.aP ab cH fu),h.dj,fu⟩,O,R⟩
end
def aaY{c:af}{d b:Nat}{l:au}(k:WL c d True b l){j:Nat}{a v:Int}(e:14<=a/\a<=17)(m:0<=v/\v<((b+dc (l.take j):Nat):Int)):
 WL c d True b (l.take j++[iT a v]++l.drop j)/\dc (l.take j++[iT a v]++l.drop j)=dc l/\sw (l.take j++[iT a v]++l.drop j)=sw l+2:=by
 have f:dc [iT a v]=0:=nJ e.1 [v]
 have g:sw [iT a v]=2:=uR a [v]
 have h:=fm (l.take j) (l.drop j)
 have i:=gR (l.take j) (l.drop j)
 grind [List.take_append_drop,WL.Nt,WL.Ch,I5,WL.fE,fm,WL.uV,gR]
def ZK(h:Nat)(e:ap)(m:D)(S:ad)(b:Nat)(f:E)(P:Nat)(g:af)(Q:List jV->Prop):Prop:=
 bJ dP h e m λv a=>∃d r c,v=.agg #[d.v,r.v]/\iD (di S a) d r g c/\Q c/\Rd b f P a/\Fz [b] m a
def VE{f:ad}{m:D}(hS:∀l∈f,l<m.size){c P:Nat}{N:E}(aw:c∈f)(h0:Rd c N P m)(hP:P+4<=10^16){s p:E}{u:af}{I:List jV}(hn:iD (di f m) s p u I){Z:Nat}(Q:Da u I True Z)(hW:Z<=200000000000):
 ZK 194 [vp c 0,.agg #[s.v,p.v]] m f c N (P+4) u λU=>Da u U True (Z+4):=by
 apply OK (c,0)
 simp -zeta only[dT]
 intro d am
 let⟨x2,hl⟩:=fV (a:=d) (c:=am) O O
 have s1:=pz d
 have s2:am.size=m.size+2:=cC
 have bN:=hn.lJ.aT;have bM:=hn.pP
 have bP:=h0.lt
 have nb:∀a∈[d.size,m.size],a<am.size/\a∉[c]:=λa h=>⟨hl a h,by have:=hl a h;simp at h⊢;omega⟩
 have Hk:Da u I True (Z+4):=⟨Q.iY,λq B=>let⟨g,a,l,e⟩:=Q.eR q B;⟨g,a,l,V⟩⟩
 refine(dW (h0.ext x2) V (p.len:Int)).aP λi g⟨aa,e,f0,f1,h3,z3⟩=>⟨z3.fg nb,aa,e,?_⟩
 have u3:Fz [c] m g:=(x2.fz _).N z3
 have bB:aa<(I.length:Int):=by have:=Q.iY;omega
 let⟨q,B⟩:=dY I aa.toNat
 let⟨av,aq,a8,hw⟩:=Q.eR q (ba B)
 have Hn:∀{M:D},Fz [c] m M->iD (di f M) s p u I:=by grind [iD.le,Fz.eX]
 have HS:∀{M:D}(bb:Nat),m.size<=bb->Fz [c] m M->Le (di f m) (di (bb::d.size::f) M):=λbb bv gg=>gg.di (λa h=>by simp at h;subst h;exact aw) λl A=>by
  grind
 have b9:=z3.aQ
 let⟨b2,b4,a,c1,c2,c3,e0,e1,e2,e3,e4⟩:=(hn.le (HS g.size V u3)).lJ.br B
 have j7:∀{M:D}{f:ad}{i:Value}{a H:Nat},aS (di f M) a H=some i->aS M a H=some i:=by grind [gY]
 refine⟨f0,V,a,j7 e3,q.eZ.bP,j7 e4,?_⟩
 intro m4 m5
 have x5:J g m5:=by grind [J.push,J.aW]
 have s5:m5.size=g.size+1:=by grind [bE]
 have bw:=c3.aT
 have bJ:=c3.kM
 have bx:=Bk.pN q.eZ
 have bQ:=jK q.eZ.bq
 have aV:∀a∈[g.size,d.size,m.size],a<m5.size/\a∉[c]:=cC
 rw[gJ]
 refine(dW (h3.ext x5) V _).aP λi m6⟨C,e,j0,j1,h6,z6⟩=>⟨z6.fg aV,C,e,?_⟩
 have u6:Fz [c] m m6:=(u3.cg x5).N z6
 have b_:=z6.aQ
 have a0:=(Hn u6).le fJ
 obtain⟨fn,aN⟩:∃fn:Nat,aa=fn:=⟨aa.toNat,V⟩
 subst aN
 simp only[iO]at B
 have ar:∀a∈[g.size,d.size,m.size],a<m6.size/\a∉[c]:=cC
 have bg:∀{M:D},Rd c N (P+4) M->Fz [c] m M->∃d' T U,Value.agg #[s.v,p.v]=.agg #[d'.v,T.v]/\iD (di f (aW M d.size 0 [.s s,.s p])) d' T u U/\Da u U True (Z+4)/\Rd c N (P+4) (aW M d.size 0 [.s s,.s p])/\Fz [c] m (aW M d.size 0 [.s s,.s p]):=λhr o=>
  have g':=o.aW (b:=d.size) (bH V) 0 [.s s,.s p]
  ⟨s,p,I,O,Hn g',Hk,h0.aW hr o V _ _,g'⟩
 refine(JO a0 Q hW B V).aP λi G⟨lb,ok,e,y,hA⟩=>⟨y.fg λa h=>(ar a h).1,(lb,0),ok,e,λ_=>?_,λbL=>?_⟩
 .intro m8
  exact bg ((h6.ext y).aP V) (u6.cg y)
 obtain⟨_,jl,ro,sl,ak,bW,h7,i7⟩:=hA cC
 intro m8
 have x8:=px m8
 have g8:GI f G m8 (.mk G.size 0 0 0) []:=GI.gF f G
 have z7:=y.aQ
 have bz:=xI q.eZ.bq
 have aM:=Z3 q.eZ.bq C.toNat
 have N0:=i7.aT 0 cH
 have u7:Fz [c] m G:=u6.cg y
 have aI:∀l∈f,l<G.size:=by grind [Fz.aQ]
 refine gN (n:=(ak 0).length) V (λag W M=>J G M/\∃F,GI f G M W F/\F.length<=ag/\∀K∈F,0<=K/\K<(((ak 0).length:Nat):Int)) ⟨x8,[],g8,bY,bO⟩ ?_
 rintro ag W m9 bs μ bG ⟨z,F,o,bK,ae⟩ an
 have h9:=h7.ext z
 have l0:=h9.aT (k:=0) cH
 have au:∀a∈[g.size,d.size,m.size],a<m9.size/\a∉[c]:=by grind [J.lt]
 refine⟨_,h9.dg (k:=0) cH,λaX=>?_,λbC=>?_⟩
 .simp only[bh]at aX
  let⟨K,t⟩:=dY (ak 0) ag
  refine⟨_,h9.dg (k:=0) cH,V,V,K,h9.br cH V t,λ_=>?_,λ_=>an V _ _ ⟨z,F,o,V,ae⟩⟩
  refine(xk h9 i7 V (v:=(ag:Int)) V V).aP λi aA⟨bb,e,w⟩=>⟨w.fg λa h=>(au a h).1,bb,e,λ_=>?_,λ_=>an V _ _ ⟨z.N w,F,o.ext w,V,ae⟩⟩
  intro R
  have gy:=o.cF
  refine GI.nI (o.ext w) ((z.N w).fz []) V λT a_ X L _ Y=>⟨J.sY ((z.N w).cz _) L.ext (λa h=>y.lt (ar a h).1),an V _ _ ⟨L.ext,_,X,fu,λK t=>?_⟩⟩
  rcases bT.1 t with t|t
  .exact ae K t
  .simp at t;omega
 .have bF:=o.aT cH
  have u9:Fz [c] m m9:=u7.cg z
  have r9:Rd c N (P+2) m9:=(h6.ext (y.N z)).aP V
  refine⟨λ_=>?_,λa1=>?_⟩
  .grind [Rd.aP]
  simp only[bd]at a1
  have gy:=o.cF
  have gb:W.bt∉[c]:=by simp;have:=u7.aQ;omega
  refine(dW r9 V (W.len:Int)).aP λi aA⟨al,e,i0,i1,aG,C8⟩=>⟨C8.fg au,al,e,i0,V,?_⟩
  let⟨w,az⟩:=dY F al.toNat
  let⟨w0,w1⟩:=ae w (ba az)
  have aO:aS m9 W.bt (W.off+al.toNat*1)=some (vi w):=((o.cB aI V).le fJ).br az
  refine⟨w,(bD (C8.bB _ gy.2 gb) _).trans aO,?_⟩
  have bi:=u9.N C8
  have ca:=C8.aQ
  have aU:∀a∈[g.size,d.size,m.size],a<aA.size/\a∉[c]:=cC
  have ew:eV (eV ((a.len:Int) -C)+1)=(a.len:Int) -C+1:=by rw[dk (b:=(a.len:Int) -C) V V,gJ]
  rw[ew]
  refine(dW aG V _).aP λi R⟨i2,e,bR,bS,aH,aj⟩=>⟨aj.fg aU,i2,e,?_⟩
  have bj:=bi.N aj
  have cb:=aj.aQ
  have ap:∀a∈[g.size,d.size,m.size],a<R.size:=cC
  have ac:∀{M:D},R.size<=M.size->∀l∈g.size::d.size::f,l<M.size:=λhz l A=>by
   simp only[aZ]at A;grind [Fz.aQ]
  have bl:Fz [c] g R:=(((((x5.fz _).N z6).cg y).cg z).N C8).N aj
  have aL:=c3.le (bl.eX λl A=>by simp at A;subst A;simp[aw])
  obtain⟨jn,aP⟩:∃jn:Nat,C=jn:=⟨C.toNat,V⟩
  obtain⟨kn,aT⟩:∃kn:Nat,i2=kn:=⟨i2.toNat,V⟩
  subst aP aT
  have a7:jn+kn<=q.eZ.bq.length:=V
  have aF:eV ((jn:Int)+(kn:Int))=((jn+kn:Nat):Int):=by grind [dk]
  simp only[iO]at N0 aM
  let⟨a9,r0,r1⟩:=a8.cJ
  have bA:dc (q.eZ.bq.take jn)<=dc (q.eZ.bq.take (jn+kn)):=by
   have:=Z3 (q.eZ.bq.take (jn+kn)) jn;rwa[aa3,mK V]at this
  let⟨bo,bm,bq⟩:=aaY (j:=jn+kn) (a:=15) (v:=w) a9 cH ⟨w0,V⟩
  have a6:(q.eZ.bq.take (jn+kn)++[iT 15 w]++q.eZ.bq.drop (jn+kn)).take jn=q.eZ.bq.take jn:=by
   rw[nF,rI fu,aa3,mK V]
  let⟨bp,bn,br⟩:=aaY (j:=jn) (a:=14) (v:=w) bo cH ⟨w0,by rw[a6];omega⟩
  generalize ay:q.eZ.bq.take (jn+kn)++[iT 15 w]++q.eZ.bq.drop (jn+kn)=st1 at*
  have bI:st1.length=q.eZ.bq.length+1:=by rw[<-ay];simp;omega
  have K:∀{M Y:D},J M Y->R.size<=M.size->∀a∈[g.size,d.size,m.size],∀H,aS Y a H=aS M a H:=λxx hz a h H=>bD (xx.bB a (cr (ap a h) hz)) H
  have kS:∀{M Y:D},J M Y->R.size<=M.size->gT [g.size,d.size,m.size] M Y:=λxx hz a h=>xx.bB a (cr (ap a h) hz)
  rw[aF]
  refine(lK (c:=g.size::d.size::f) (ac bY) 15 w).aP λi a_⟨bt,bU,e,aJ,aQ,L⟩=>⟨kS L bY,_,_,_,_,_,e,K L bY _ bO _,K L bY _ bO _,?_⟩
  have aE:=L.aQ
  refine(Gc (d:=g.size::d.size::f) (Q:=q.eZ.bP) (x:=iT 15 w) (ac aE) (aL.le L.eX) aJ aQ a7 V).aP λi bc⟨bf,e,ax,ai⟩=>⟨kS ai aE,_,_,e,?_⟩
  rw[ay]at ax
  intro ah
  have b5:=ai.aQ
  have b6:ah.size=bc.size:=bE _ _ _ _
  have aB:=(bj.cg L).cg ai
  have bk:Fz [c] m ah:=aB.aW (bH V) _ _
  have be:Rd c N (P+2+1+1) ah:=h0.aW ((aH.ext L).ext ai) aB V _ _
  have a4:iI (di (g.size::d.size::f) ah) bf st1:=ax.le (dU bO λ_ ab=>ab)
  refine(lK (c:=g.size::d.size::f) (ac V) 14 w).aP λi bX⟨bu,bV,e,aK,aR,t⟩=>⟨kS t V,_,_,_,_,_,e,K t V _ bO _,K t V _ bO _,K t V _ bO _,K t V _ bO _,?_⟩
  have b7:=t.aQ
  refine(Gc (d:=g.size::d.size::f) (Q:=q.eZ.bP) (x:=iT 14 w) (ac V) (a4.le t.eX) aK aR (e:=jn) V V).aP λi bZ⟨b3,e,a5,X⟩=>⟨kS X V,_,_,e,K X V _ bO _,K X V _ bO _,?_⟩
  have b8:=X.aQ
  have aC:=(bk.cg t).cg X
  refine(Ka (d:=g.size::d.size::f) (ac V) (j:=.mk (st1.take jn++[iT 14 w]++st1.drop jn) q.eZ.bP) (hn.le (HS g.size V aC)) B ⟨av,aq⟩ a5).aP λi b0⟨d',T,U,e,aY,a3,ao⟩=>⟨kS ao V,d',T,e,?_⟩
  intro b1
  have aD:=aC.cg ao
  refine⟨d',T,U,O,aY.le (dU bO λl A=>by simp[A]),?_,h0.aW (((be.ext t).ext X).ext ao) aD V _ _,aD.aW (bH V) _ _⟩
  subst a3
  refine⟨by simp;exact Q.iY,λq' a2=>?_⟩
  rw[Zz]
  rcases iX a2 with ab|ab
  .exact Hk.eR q' ab
  .subst ab
   refine⟨av,aq,.of bp ⟨r0,by rw[bn,bm];exact r1⟩,?_⟩
   show Bk.w (.mk _ _)<=_
   rw[Bk.vT,br,bq];omega
section
variable{d:D}{t:E}{b:Bk}{g x:Int}{e:ad}{h f c:Nat}
def uw(e:iI d t b.bq):xC 282 [.agg #[t.v,vi b.bP]] d λc=>0<=c/\c<=b.bq.length/\∀(i:Nat)(x:eQ),b.bq[i]? =some x->(i:Int)<c->14<=x.op/\x.op<=17:=by
 apply DG;simp -zeta only[dT];intro a;have s:=px a;have m:∀k∈[d.size],k<a.size:=by simp[a]
 have o:=e.aT;refine iC (o▸e.kM) (λc M=>J a M/\∀(i:Nat)(x:eQ),b.bq[i]? =some x->i<c->14<=x.op/\x.op<=17) ⟨dt,λi x _ h=>V⟩ ?_;rintro c M I μ C ⟨j,A⟩ q
 have u:=s.N j;have R:∀{g:D},J d g->∃n:Int,vi (c:Int)=vi n/\(0<=n/\n<=b.bq.length/\∀(i:Nat)(x:eQ),b.bq[i]? =some x->(i:Int)<n->14<=x.op/\x.op<=17)/\J d g:=cC;refine⟨λh=>?_,λh=>R u⟩;simp only[bh]at h;let⟨x,p⟩:=dY b.bq c;obtain⟨f,H,y,E,l,_⟩:=e.br p;refine⟨V,V,_,u.aS l,?_⟩;refine(yh x.op M).bL j m λw K z v r=>⟨_,O,λF=>q V _ ⟨r,λi L G B=>?_⟩,λ_=>R (u.N v)⟩;grind
def IG(a:iI d t b.bq){o:Int}(F:0<=g/\g<=b.bq.length)(r:∀(k:Nat)(s:eQ),b.bq[k]? =some s->(k:Int)<g->0<s.aO.length):
 xC 283 [.agg #[t.v,vi b.bP],vi g,vi o,vi x] d λc=>-1<=c/\(0<=c->c<g/\∃s:eQ,b.bq[c.toNat]? =some s/\s.op=o/\s.aO[0]? =some x):=by
 apply LF
 simp -zeta only[dT]
 intro l
 have y:=px l
 have H:=a.aT
 have E:=a.kM
 obtain⟨m,v⟩:∃m:Nat,g=m:=⟨g.toNat,V⟩
 subst v
 refine iC V (λc M=>J l M) dt ?_
 rintro c M I μ C e n
 have u:=y.N e
 refine⟨λh=>?_,λh=>⟨-1,O,⟨V,λh=>V⟩,u⟩⟩
 simp only[bh]at h
 let⟨s,j⟩:=dY b.bq c
 let⟨f,L,i,D,p,g1,g2,q,A⟩:=a.br j
 have B:=i.aT
 have:=r c s j V
 let⟨z,w⟩:=dY s.aO 0
 refine⟨V,V,_,u.aS p,λG=>⟨V,V,_,u.aS q,cH,V,z,(i.ext u).br w,λK=>?_,λ_=>n V _ e⟩,λ_=>n V _ e⟩
 grind
def Ua(e:iI d t b.bq){a:Int}(y:0<=a/\a<=b.bq.length):xC 316 [.agg #[t.v,vi b.bP],vi a,vi g] d λc=>-1<=c/\c<b.bq.length:=by
 apply ML;simp -zeta only[dT];intro j;have p:=px j;have m:=e.aT;obtain⟨h,l⟩:∃h:Nat,a=h:=⟨a.toNat,V⟩;subst l;refine acp V (m▸e.kM) (λc M=>J j M) dt ?_;rintro c M I μ _ w k o
 have u:=p.N k;refine⟨λi=>?_,λi=>⟨-1,O,⟨V,V⟩,u⟩⟩;simp only[bh]at i;let⟨A,n⟩:=dY b.bq c;let⟨f,z,v,x,q,g1,g2,r,s⟩:=e.br n;have N:=o V _ k
 grind [J.aS]
def MN(b:Bk)(hS:∀k∈e,k<d.size)(u:iI d t b.bq)(Z:b.w<=10^12):bJ dP 294 [.agg #[t.v,vi b.bP]] d λab v=>∃s,ab=.agg #[s.v,vi b.bP]/\GS e d v s b.bq/\J d v:=by
 let⟨bq,p⟩:=b;rw[Bk.vT]at Z;simp only[Bk.mZ,Bk.lV]at*;apply vO;simp -zeta only[dT];intro g f h D o;let⟨x1,W⟩:=fV (a:=g) (c:=f) O O;have s0:=pz g;have s1:f.size=d.size+2:=cC;have s2:=pz h;have s3:=pz D;have E:J h o:=by grind [J.push,J.aW]
 have ac:J f o:=(J.push f _).N E;have q:GS (h.size::g.size::e) f o (.mk f.size 0 0 0) []:=(GS.bI _ f).ext km.aP E;have G:dJ o h.size ft [.s (.mk f.size 0 0 0),.i p]:=dJ.aW (m:=D) (dJ.push h _ _);have Q:∀k∈g.size::e,k<f.size:=by grind [dH,J.aQ]
 have Y:=u.aT;have ae:=jK bq;refine iC (Y▸u.kM) (λc M=>J f M/\∃s,GS (h.size::g.size::e) f M s (bq.take c)/\dJ M h.size ft [.s s,.i p]) ⟨ac,_,q,G⟩ ?_;rintro c w ad μ hk ⟨z,s,n,B⟩ aa
 have j:=x1.N z;have X:∀b∈[g.size,d.size],b<w.size:=by grind [J.lt]
 have hy:=n.cF;have z5:=z.aQ;have A:=B.lt;refine dit (λP=>?_) λP=>?_
 .let⟨x,C⟩:=dY bq c;let⟨pa,pk,R,U,q,g1,g2,M,N⟩:=u.br C;have af:=Uk C;refine⟨s,B.dg 0,V,V,_,j.aS q,_,j.aS g1,_,j.aS g2,_,j.aS M,_,j.aS N,?_⟩;refine(C0 (dH (dH Q z5 A) bY hy.2) (R.ext j) (U.le j.le) V (λb _=>AT b)).bL (J.cX w) X λH I x' y S T K l _=>⟨_,_,_,_,_,O,bD (l.bB _ A) _,?_⟩;subst K;intro m7;refine Gr.bU (h:=[.i 0,.i 0,.i 0,.s .nil,.s .nil]) (j:=0) (o:=[.s s,.i p]) (v:=x) km.aP cH (n.ext km.aP l) ((z.N l).fz []) ⟨H,I,O,S,T⟩ cC (B.ext l) bO cH ⟨V,bO⟩ (λk r=>by have F:=W k r;have L:=l.aQ;omega) λr' v g' F L z' q'=>aa V _ ⟨L.ext,r',?_,F⟩
  grind [bW]
 .rw[eY V]at n;refine⟨s,B.dg 0,p,B.dg 1,?_⟩;intro y;have l:Fz [g.size] w y:=by grind [Fz.cX,Fz.aW]
  have C:GS e f y s bq:=n.re km.aP l bO cC λk r=>bz (by simp[r]);grind [Gr.de,km.aP,J.aW]
def aaZ{d:af}{b:Prop}{l:au}(i:WL d h b f l){x a:eQ}(e:l[c]? =some x)(o:WS d h b (f+dc (l.take c)) a)(hd:dn a=dn x):
 WL d h b f (l.set c a)/\dc (l.set c a)=dc l/\sw (l.set c a)+x.w=sw l+a.w:=by
 have n:=bC e
 have j:l.set c a=l.take c++([a]++l.drop (c+1)):=by rw[List.set_eq_take_append_cons_drop,a8 n];rfl
 have g:l=l.take c++([x]++l.drop (c+1)):=by
  let⟨k,m⟩:=pF.1 e;rw[<-m];show l=l.take c++(l[c]::l.drop (c+1));rw[<-aa5 k,jW]
 have p:dc l=dc (l.take c)+(dn x+dc (l.drop (c+1))):=by
  conv=>lhs;rw[g]
  rw[fm,fm,nO,xJ];omega
 have q:sw l=sw (l.take c)+(x.w+sw (l.drop (c+1))):=by
  conv=>lhs;rw[g]
  rw[gR,gR,qy,Ai];omega
 rw[j]
 refine⟨(i.Nt c).fE ((WL.mE o).fE ?_),?_,?_⟩
 .have:=i.uV (c+1)
  rw[vt e]at this
  rw[nO,xJ,hd,uJ,kK];exact this
 .rw[fm,fm,nO,xJ];omega
 .rw[gR,gR,qy,Ai];omega
def _root_.Go.Vc.Gr.kL{α:Type}{q:D}{j b:Nat}{R:D->ae->α->Prop}{s:E}{l:List α}(k:Gr e q d j b R s l){x:α}(o:l[c]? =some x):∃a,R (di (s.bt::e) d) a x/\jw d s.bt (s.off+c*b) a:=by
 let⟨r,i,m,f⟩:=k;let⟨a,g⟩:=dY i c cC;refine⟨a,f.eR c a x g o,λp h n=>?_⟩;have:=m.kv (c*b+p) h (j9 f.aQ g n);grind [Nat.add_assoc]
def O1(hS:∀c∈e,c<d.size)(q:iI d t b.bq){I:af}(ah:WB I h True f b)(hw:b.w<=10^12)(hx:0<=x/\x<(f:Int))(aR:f<=10^12)(g:Int):
 bJ dP 281 [.agg #[E.v t,vi b.bP],vi x,vi g] d λW R=>∃s l,W=.agg #[E.v s,vi l.bP]/\iI R s l.bq/\(iI (di e d) t b.bq->iI (di e R) s l.bq)/\(WB I h True f l/\l.w<=b.w)/\J d R:=by
 apply HU
 simp -zeta only[kU]
 intro m r
 let⟨w,o⟩:=fV (a:=m) (c:=r) O O
 have s1:=pz m
 have s2:r.size=d.size+2:=by simp[r,s1]
 let⟨P,aE⟩:=ah.cJ
 have z:∀{Z M':D},J r Z->J r M'->∀A,aS M' d.size A=aS Z d.size A:=λn h' A=>bD (by rw[h'.bB _ (o _ bO),n.bB _ (o _ bO)]) A
 refine(uw (q.le w.le)).bL (J.cX r) o λn1 m3 M H _=>⟨_,O,z dt H _,z dt H _,?_⟩
 refine(IG (q.le (w.N H).le) ⟨M.1,M.2.1⟩ λai s hi az=>?_).bL H o λn2 m4 aA x4 C=>⟨_,O,?_⟩
 .have:=M.2.2 ai s hi az
  have:=(P ai s hi).iU.mE V
  omega
 refine(uw (q.le (w.N C).le)).bL C o λn3 m5 ag x5 F=>⟨_,O,z C F _,z C F _,?_⟩
 refine(Ua (q.le (w.N F).le) ⟨ag.1,ag.2.1⟩).bL F o λn4 u a2 x6 v6=>⟨_,O,?_⟩
 have U:=w.N v6
 have am:∃s l,Value.agg #[E.v t,vi b.bP]=.agg #[E.v s,vi l.bP]/\iI (aW u m.size 0 [.s t,.i b.bP]) s l.bq/\(iI (di e d) t b.bq->iI (di e (aW u m.size 0 [.s t,.i b.bP])) s l.bq)/\(WB I h True f l/\l.w<=b.w)/\J d (aW u m.size 0 [.s t,.i b.bP]):=
  have K:=U.aW V 0 [.s t,.i b.bP]
  ⟨t,b,O,q.le K.le,λn=>n.le K.eX,⟨ah,bY⟩,K⟩
 refine⟨λ_=>am,λh2=>⟨λ_=>am,λh4=>?_⟩⟩
 simp only[dK]at h2 h4
 have z6:=v6.aQ
 have ac:∀c∈m.size::e,c<u.size:=λc i=>by
  rcases aZ.1 i with j|j
  .omega
  .have:=hS c j;omega
 refine(MN b ac (q.le U.le) hw).aP λW m7⟨B,j,g7,X⟩=>⟨λc i=>X.bB c (oh (o c i)),_,_,j,?_⟩
 intro m8 m9
 obtain⟨x9,s9⟩:=pv m9
 have y7:=g7.cF
 have z7:=X.aQ
 have g9:=g7.ext km.aP x9
 have ae:∀c∈[m7.size,m.size,d.size],c<m9.size/\c≠B.bt:=λc i=>by simp at i;omega
 refine(lK (c:=B.bt::m.size::e) (λc i=>?_) 17 x).aP λW ak⟨aa,aj,j,ax,ay,v⟩=>⟨λc i=>v.bB c (ae c i).1,_,_,_,_,_,j,bD (v.bB _ V) _,?_⟩
 .rcases aZ.1 i with j|j
  .omega
  .have:=ac c j;omega
 have ab:=g9.ext km.aP v
 have a7:=ab.aT cH
 let⟨a1,T,N,a3,aT⟩:=aA.2 V
 have ao:J u ak:=(X.N x9).N v
 have aB:=bC N
 let⟨aL,L,ar,aJ⟩:=Gr.eE (k:=n2.toNat) (cs:=[.i 17,.i 0,.i 0,.s aa,.s aj]) (a:=iT 17 x) km.aP ab (ao.fz []) aB ⟨aa,aj,O,ax,ay⟩
 refine⟨V,V,aL,?_⟩
 intro aG
 have C8:=v.aQ
 have a9:aG.size=ak.size:=bE _ _ _ _
 refine⟨λc i=>aJ c (ae c i).2,V,V,?_⟩
 have aF:=P _ T N
 have w1:=aF.iU.mE (bz V)
 have d1:dn (iT 17 x)=dn T:=by
  unfold dn;rw[aV (λn:tO _=>by have:=n.2;simp only[iT]at this;omega),aV (λn:tO _=>oh n.2)]
 let⟨an,aN,ba⟩:=aaZ P N (I5 cH ⟨hx.1,V⟩) d1
 have a5:=eQ.pN T
 have aY:(iT 17 x).w=2:=rfl
 let⟨y,Q⟩:=dY (b.bq.set n2.toNat (iT 17 x)) n4.toNat fu
 have a0:=L.aT cH
 obtain⟨aQ,⟨pa,pk,rfl,aC,aD⟩,ni⟩:=L.kL Q
 have e0:=ni 0 _ O;have e1:=ni 1 _ O;have e2:=ni 2 _ O;have e3:=ni 3 _ O;have e4:=ni 4 _ O
 refine⟨_,e0,_,e1,_,e2,_,e3,_,e4,?_⟩
 intro a8 aH
 obtain⟨G,a_⟩:=pv aH
 have av:=L.ext km.aP G
 have aq:eV (1+x)=1+x:=dk V V
 rw[aq]
 have ap:=(ar.cg G)
 let⟨aM,aw,au,aK⟩:=Gr.eE (k:=n4.toNat) (a:=⟨y.op,y.cG,1+x,y.aO,y.dA⟩) km.aP av ap fu ⟨pa,pk,O,bg.le G.eX aC,rW.le G.eX aD⟩
 refine⟨V,V,aM,?_⟩
 intro al
 have p:=an _ y Q
 let⟨aP,aO,bb⟩:=aaZ (a:=⟨y.op,y.cG,1+x,y.aO,y.dA⟩) an Q ⟨⟨p.iU.op,p.iU.aO,p.iU.mE,⟨by show 0<=1+x;omega,by show 1+x<=_;omega⟩,p.iU.Nv,p.iU.lZ,p.iU.jt⟩,p.dA⟩ O
 refine⟨λc i=>aK c (by simp at i;omega),?_⟩
 intro aI
 have a6:(⟨y.op,y.cG,1+x,y.aO,y.dA⟩:eQ).w=y.w:=rfl
 have aU:=Bk.pN b
 have a4:=jK b.bq
 have Y:iI (di (m.size::e) al) B _:=aw.sa km.aP (S:=m.size::e) (λi=>by
  rcases aZ.1 i with j|j
  .omega
  .have:=hS _ j;omega) cH fu
 have ad:Le (di (m.size::e) al) (di e aI):=dU bO λc i=>aX _ i
 refine⟨B,.mk _ b.bP,O,(Y.le ad).le fJ,λ_=>Y.le ad,⟨.of aP (by rw[aO,aN];exact aE),?_⟩,(U.N au.ext).aW V _ _⟩
 rw[Bk.vT];omega
end
def ZR(c:af)(d:List jV)(N:Nat):Prop:=∀(b:Bk),b.w<=N->∀(S:ad)(m:D),(∀a∈S,a<m.size)->∀(f r t eM:E)(l:ab)(a:Nat),iD m f r c d->iI m t b.bq->bg m eM l->WB c d.length True a b->a+4*b.w<=10^12->l.length+4*b.w<=10^12->
 rJ 233 [.agg #[f.v,r.v],.agg #[t.v,vi b.bP],eM.v] m S λe=>WB c d.length True a e/\e.w<=b.w
def O2{z:ad}{f:D}(hS:∀c∈z,c<f.size){R ac pa pk eM:E}{h:af}{u:List jV}{a:eQ}{t:ab}{A:Nat}(p:iD f R ac h u)(ha:bg f pa a.aO)(hk:rW f pk a.dA)(C:bg f eM t)(Y:WS h u.length True A a)(hb:A+4*a.w<=10^12)(aR:t.length+4*a.w<=10^12){k:Nat}{i:Bk}(U:a.dA[k]? =some i)(ih:ZR h u i.w):
 rJ 254 [.agg #[R.v,ac.v],tK a pa pk,vi k,eM.v] f z λj=>WB h u.length True (A+GK h a.op a.cG k) j/\j.w<=i.w:=by
 apply HV
 simp -zeta only[dT]
 intro aa r b
 let⟨d,hl,s1,g,s3⟩:=uQ (a:=aa) (c:=r) (d:=b) O O O
 let⟨ah,ht,f0,f1⟩:=hk.br U
 have aP:=bC U
 have aQ:=hk.aT
 have aM:=ha.aT
 have aV:=eQ.pN a
 have aO:=By U
 have ae:=Y.dA k i U
 have ay:∀{M:D},J b M->∀c∈r.size::z,c<M.size:=λxx c o=>by
  grind [J.aQ]
 have jX:∀(M:D)(Z s:E)(l':ab)(j:Bk)(Lx:ad),J f M->J b M->(∀c∈Lx,c<M.size)->iI M s j.bq->bg M Z l'->l'.length<=t.length+1->WB h u.length True (A+GK h a.op a.cG k) j->j.w<=i.w->
  bJ dP 233 [.agg #[R.v,ac.v],.agg #[s.v,vi j.bP],Z.v] M λv q=>gT Lx M q/\∃(g:E)(b2:Bk),v=.agg #[g.v,vi b2.bP]/\∀Q,Q=aW q r.size 0 [.s g,.i b2.bP]->∃s3 b3,(Value.agg #[g.v,vi b2.bP])=.agg #[s3.v,vi b3.bP]/\iI (di z Q) s3 b3.bq/\(WB h u.length True (A+GK h a.op a.cG k) b3/\b3.w<=i.w)/\J f Q:=λM Z s l' j Lx xm aK aw hs aC aT aH aG=>by
  have h3:=WH p.dj a.op a.cG k
  refine(ih j aG (r.size::z) M (ay aK) R ac s Z l' _ (p.le xm.le) hs aC aH V V).aP λv q⟨g,b2,e,aE,az,x'⟩=>⟨x'.fg aw,g,b2,e,λQ ax=>⟨g,b2,O,?_,⟨az.1,V⟩,?_⟩⟩
  .rw[ax];exact aE.le (dU bO λc o=>aX _ o)
  .grind [J.N,J.aW]
 refine⟨λT=>?_,λT=>?_⟩
 .refine⟨V,V,_,d.aS f0,_,d.aS f1,?_⟩
  refine(jX b eM ah t i _ d dt hl (ht.le d.le) (C.ext d) V ae bY).aP λv q⟨n,g,b2,e,h2⟩=>⟨n,_,_,e,?_⟩
  grind
 .have T:a.op=8:=cC
  obtain⟨aN,_⟩:=Y.iU.lZ T
  have aL:=Y.iU.mE (bH (bH T))
  let⟨y,hy⟩:=dY a.aO 0
  let⟨y0,y1⟩:=Y.iU.aO y (ba hy)
  refine⟨cH,V,y,(ha.ext d).br hy,V,V,_,d.aS f0,_,d.aS f1,?_⟩
  intro m4 I
  have x5:J b I:=by grind [J.push,J.aW]
  have s5:I.size=b.size+1:=by grind [bE]
  have K:=d.N x5
  have G:∀{M:D},J I M->∀c∈[b.size,r.size,aa.size,f.size],c<M.size:=λxx c o=>by have:=xx.aQ;simp at o;omega
  refine(fI (C.ext K) y).jS.bL (J.cX I) (G dt) λbb m6 l _=>⟨_,O,λ_=>?_,λ_=>?_⟩
  .have L:=K.N l
   let⟨cn,aA⟩:=dY (cY h a.cG) k
   have w:∀{M M':D},J I M->J M M'->∀c∈[b.size,r.size,aa.size,f.size],∀ao,aS M' c ao=aS M c ao:=by grind [bD,J.bB]
   refine(kA (e:=[]) bO (p.bR.le L.le) p.dj a.cG).bL l (G dt) λs7 l7 m7 X e x7 v7=>⟨_,O,w l x7 _ bO _,w l x7 _ bO _,w l x7 _ bO _,?_⟩
   subst e
   have X:=X.le fJ
   have l7:=X.aT
   refine⟨V,V,cn,X.br aA,?_⟩
   refine(fX (e:=[]) (p.bR.le ((K.N v7).le.N ER)) p.dj cn).bL v7 (G dt) λs8 l8 m8 aU e x8 v8=>⟨_,O,w v7 x8 _ bO _,w v7 x8 _ bO _,?_⟩
   subst e
   have z8:=v8.aQ
   have h3:=WH p.dj a.op a.cG k
   have ak:iI (di [b.size] m8) ah i.bq:=ht.le ((ER (m:=f)).N ((K.N v8).di λc o=>bH cC))
   refine(O1 (e:=[b.size]) cC (ak.le fJ) ae V (x:=y) ⟨y0,V⟩ V (s8.len:Int)).aP λv m9⟨s9,b9,e,_,aF,B,x9⟩=>⟨λc o=>x9.bB c (G v8 c o),_,_,e,?_⟩
   intro H
   have v9:=v8.N x9
   have aj:J b H:=by grind [J.N,J.aW]
   have W:iI H s9 b9.bq:=((aF ak).le (dU (a:=[b.size]) bO λ_ F=>F)).le fJ
   have a1:H.size=m9.size:=bE _ _ _ _
   have F:∀{M:D},H.size<=M.size->∀c∈[b.size,r.size,aa.size,f.size],c<M.size:=cC
   refine(uw W).bL (J.cX H) (F bY) λaZ aY ag au _=>⟨_,O,?_⟩
   obtain⟨aI,_⟩:=B.1.cJ
   refine(IG (W.le au.le) (o:=17) (x:=y) ⟨ag.1,ag.2.1⟩ λal s hj aD=>?_).bL au (F bY) λa0 aJ _ a2 N=>⟨_,O,λ_=>?_,λ_=>?_⟩
   .have:=ag.2.2 al s hj aD
    have:=(aI al s hj).iU.mE V
    omega
   .have P:=aj.N N
    refine(pT (S:=[]) bO ((C.ext (d.N P)).le ER) y V).bL N (F bY) λaq am an av ap a3 ai=>⟨_,O,?_⟩
    have ar:=aj.N ai
    have aB:bg an aq am:=(av.cB bO (oh ap.2)).le fJ
    refine(jX an aq s9 am b9 _ (d.N ar) ar (F ai.aQ) (W.le ai.le) aB ap.2 B.1 B.2).aP λv q⟨n,g,b2,e,h2⟩=>⟨n,_,_,e,?_⟩
    grind
   .have P:=aj.N N
    refine(jX aJ eM s9 t b9 _ (d.N P) P (F N.aQ) (W.le N.le) (C.ext (d.N P)) V B.1 B.2).aP λv q⟨n,g,b2,e,h2⟩=>⟨n,_,_,e,?_⟩
    grind
  .have L:=K.N l
   refine(jX m6 eM ah t i _ L (x5.N l) (G l) (ht.le L.le) (C.ext L) V ae bY).aP λv q⟨n,g,b2,e,h2⟩=>⟨n,_,_,e,?_⟩
   grind
section
variable{b:List jV}
theorem ZR.iQ{c:af}{N a:Nat}(h:ZR c b N)(e:a<=N):ZR c b a:=λd f=>h d (fC f e)
def Lz{A:af}:∀N:Nat,ZR A b N:=by
 intro N;induction N with
 |zero=>intro p hb;have:=p.Oj;omega
 |succ N l=>
 intro p hb h ae hS ax aP aQ eM aN aa hn W al aq az aD;let⟨bq,y⟩:=p;have ad:=aq.cJ;rw[Bk.vT]at*;simp only[Bk.mZ,Bk.lV]at*;apply DM;simp -zeta only[kU,nQ];intro Y f j g m5 G;let⟨x3,hl,s1,s2,s3⟩:=uQ (a:=Y) (c:=f) (d:=j) O O O;have s4:=pz g;have ag:=py G;have av:J j G:=(J.push j _).N ag;have g0:GS (g.size::f.size::h) j G (.mk j.size 0 0 0) []:=(GS.bI _ j).ext km.aP ag;have B0:dJ G g.size ft [.s (.mk j.size 0 0 0),.i y]:=dJ.aW (m:=m5) (dJ.push g _ _);have ai:∀c∈f.size::h,c<j.size:=dH hS x3.aQ (hl _ bO);have am:=W.aT;have ao:=Gu bq;have aH:=jK bq;refine iC (am▸W.kM) (λk M=>J j M/\∃s n,GS (g.size::f.size::h) j M s n/\dJ M g.size ft [.s s,.i y]/\n.length=k/\WL A b.length True aa n/\dc n=dc (bq.take k)/\sw n<=sw (bq.take k)) ⟨av,_,[],g0,B0,O,WL.gF,bO,bO⟩ ?_;rintro k M aw μ hk ⟨xM,s,n,C,B,aF,wl,F,ap⟩ au
 have v:=x3.N xM;have hy:=C.cF;have ay:=B.lt;refine dit (λE=>?_) λE=>?_
 .let⟨x,u⟩:=dY bq k;let⟨pa,pk,ha,R,e0,e1,e2,e3,e4⟩:=W.br u;have aK:=Uk u;have aM:=eQ.pN x;have aA:=xG x.dA;have aL:=ux u;have aJ:=vt u;have X:=ad.1 k x u;have aC:=xI (bq.take k);have aG:=jK (bq.take k);have aI:=ao (k+1);refine⟨V,V,_,v.aS e0,_,v.aS e1,_,v.aS e2,_,v.aS e3,_,v.aS e4,?_⟩;intro m7 o m9;obtain⟨x8,s8⟩:=pv o;have x9:=px m9;have ah:GB (s.bt::g.size::f.size::h) o m9 (.mk o.size 0 0 0) []:=GB.bI o;have Q:∀c∈s.bt::g.size::f.size::h,c<o.size:=λc d=>by
   simp only[aZ]at d;rcases d with e|e|e|e
   .omega
   .omega
   .omega
   .have:=hS c e;omega
  have T:=R.aT;refine gN (T▸R.kM) (λw ks r=>J o r/\∃lk,GB (s.bt::g.size::f.size::h) o r ks lk/\lk.length=w/\(∀(q:Nat)(p:Bk),lk[q]? =some p->WB A b.length True (aa+dc (bq.take k)+GK A x.op x.cG q) p)/\bw lk<=bw (x.dA.take w)) ⟨x9,[],ah,O,bO,bO⟩ ?_;rintro w ks I I2 μ2 hj ⟨z,lk,P,aE,ac,ak⟩ ar;have t:=v.N (x8.N z);have yk:=P.cF;have z2:=z.aQ;have U:∀{r:D},o.size<=r.size->∀c∈[M.size,f.size,Y.size,ae.size],c<r.size:=λE c d=>by simp at d;omega
  refine dit (λh2=>?_) λh2=>?_
  .let⟨p,H⟩:=dY x.dA w;have aB:=By H;have aj:=zd H;refine(O2 (z:=ks.bt::s.bt::g.size::f.size::h) (λc d=>?_) (hn.le t.le) (ha.ext t) (R.le t.le) (al.ext t) X V V H (l.iQ V)).bL (J.cX I) (U z2) λss b' aO an ab Z _=>⟨_,_,O,?_⟩
   .rcases aZ.1 d with e|e
    .omega
    .have:=Q c e;omega
   refine GB.nI (P.ext vV.aP Z) ((z.N Z).fz []) an V λr' r g2 f2 aR q2=>⟨J.sY ((z.N Z).cz _) f2.ext (U bY),ar V _ _ ⟨f2.ext,_,g2,fu,λq b2 l=>?_,?_⟩⟩
   .rcases eH q lk.length with K|K
    .rw[dZ K]at l;exact ac q b2 l
    .rw[dQ K]at l;have:q -lk.length=0:=by have:=bC l;simp at this;omega
     rw[this]at l;simp at l;subst l;have:q=w:=V;subst this;exact ab.1
   .rw[tr,zc,Et,aj];have:=ab.2;omega
  .have ab:lk.length=x.dA.length:=V;rw[eY V]at ak;have K:J M I:=x8.N z;have H:=B.ext K;have G2:=C.ext km.aP K;refine⟨s,H.dg 0,?_⟩;refine(dF (s.bt::g.size::f.size::h) (ha.ext t) V).bL (J.cX I) (U z2) λs' l' aj ga e l _=>⟨_,O,bD (l.bB _ V) _,bD (l.bB _ V) _,bD (l.bB _ V) _,bD (l.bB _ H.lt) _,?_⟩;subst e;intro an;refine Gr.bU (h:=[.i 0,.i 0,.i 0,.s .nil,.s .nil]) (L:=[M.size,f.size,Y.size,ae.size]) (j:=0) (w:=72) (o:=[.s s,.i y]) (v:=⟨x.op,x.cG,x.cR,x.aO,lk⟩) km.aP cH (G2.ext km.aP l) (((xM.N K).N l).fz []) ⟨s',ks,O,(ga.cB (λc d=>oh (Q c d)) V),rW.le l.eX (P.cB vV.aP Q cH (by show lk.length<=_;omega))⟩ V (H.ext l) bO cH ⟨V,bO⟩ (λc d=>by have Z:=l.aQ;simp at d;omega) λr' m' g' Z f' z' q'=>au V _ ⟨f'.ext,r',_,g',Z,fu,wl.Ch (X.Vj id X.iU.cR ab ac|>λE=>by rw[F];exact E),?_,?_⟩
   .rw[fm,nO,xJ,F];have e:dn (⟨x.op,x.cG,x.cR,x.aO,lk⟩:eQ)=dn x:=rfl;omega
   .rw[gR,qy,Ai];have h5:(⟨x.op,x.cG,x.cR,x.aO,lk⟩:eQ).w=1+x.aO.length+bw lk:=eQ.pN _;omega
 .have T:k=bq.length:=V;subst T;rw[fB]at F ap;refine⟨s,B.dg 0,y,B.dg 1,?_⟩;intro m7;have l:Le (di (g.size::f.size::h) M) (di h m7):=dU bO λc d=>aX _ (aX _ d);have o:=C.ne B cH;refine⟨s,.mk n y,O,iI.le l (C.sa km.aP (λd=>?_) cH (by show n.length<=_;omega)),⟨.of wl ((F▸ad.2)),by rw[Bk.vT];omega⟩,v.aW V _ _⟩;rcases aZ.1 d with e|e
  .exact o e
  .have:=ai _ e;omega
def Sc{f:ad}{m:D}(I:∀c∈f,c<m.size){j r:E}{h:af}(i:iD m j r h b){W:Nat}(hW:W<=200000000000)(hk:Da h b True W):zI 197 [.agg #[j.v,r.v]] m f h λx=>Da h x True W:=by
 apply LA;simp -zeta only[dT];intro g a2;let⟨y,K⟩:=fV (a:=g) (c:=a2) O O;have s1:=pz g;have al:=i.lJ.aT;have aw:=i.pP;refine(jz (b:=g.size::f) (dH I y.aQ (K _ bO)) (i.le y.le).bR i.dj).aP λ_ N⟨dd,ac,ag,Q⟩=>?_;subst ac;refine⟨Q.fg K,_,O,?_⟩;intro P ap aq;have u2:=y.N Q;let⟨x5,B0,g0,s3,s5⟩:=ov (b:=P.size::g.size::f) lz.aP (d:=N) (a:=P) (c:=ap) (j:=aq) O O O;have L:∀c∈[g.size,m.size],c<N.size:=by grind [J.lt]
 have ae:∀c∈g.size::f,c<N.size:=λc w=>Q.lt (dH I y.aQ (K _ bO) c w);refine nV (R:=λa d M=>∃j r x,Value.agg #[a.v,d.v]=.agg #[j.v,r.v]/\iD (di f M) j r h x/\Da h x True W/\J m M) lz.aP cH cH I ⟨V,L _ bO⟩ u2 s3 ag al V x5 B0 g0 (λ_ q=>q.aY.length<=3/\q.cW.length<=3/\WB h b.length True q.aY.length q.eZ/\q.eZ.w<=W) (λa l ab n X Y d e k=>⟨a,l,ab,O,⟨X,Y,i.dj,V⟩,Mw hk.iY d e,k⟩) λao M st ab au μ ah av T U B ar=>?_
 let⟨q,hq⟩:=dY b ao ah;let⟨ak,aj,an,hw⟩:=hk.eR q (ba hq);have u:=u2.N T;let⟨ax,ay,a,c1,c2,c3,z,A,F,p,s⟩:=i.lJ.br hq;have G:∀{v:Value}{a o:Nat},aS m a o=some v->aS M a o=some v:=λH=>u.aS H;refine⟨st,B.dg 1,V,V,_,G z,_,G A,_,G F,_,G p,_,G s,V,V,_,G p,_,G s,?_⟩;intro k;have hy:=U.cF;have Z:=B.lt;have zM:=T.aQ;obtain⟨d,s7⟩:=pu k;have ai:bg k (.mk M.size 0 0 0) []:=pZ;have e:∀{v:Value}{a o:Nat},aS m a o=some v->aS k a o=aS M a o:=by grind [J.aS]
 have C:∀{a o:Nat},a<M.size->aS k a o=aS M a o:=λH=>bD (d.bB _ H) _;have t:m.size<M.size:=by grind [J.lt]
 refine⟨e p,e s,C t,C t,C t,e z,e A,e F,e p,e s,C t,C Z,?_⟩;refine(Lz q.eZ.w q.eZ bY (st.bt::P.size::g.size::f) k (λc w=>?_) j r a (.mk M.size 0 0 0) [] q.aY.length (i.le (u.N d).le) (c3.le (u.N d).le) ai an V cC).bL (T.N d) L λss b' M1 am aa l u1=>⟨_,_,O,?_⟩
 .grind
 have n:∀{v:Value}{a o:Nat},aS m a o=some v->aS M1 a o=aS k a o:=by grind [J.aS]
 refine⟨n z,n A,n F,n p,n s,bD (l.bB _ (d.lt t)) _,bD (l.bB _ (d.lt Z)) _,?_⟩;exact AK ae (λc w=>by have X:=L c w;have Y:=u1.aQ;omega) u1 (U.ext lz.aP (d.N l)) (B.ext (d.N l)) V (c1.ext (u.N (d.N l))) (c2.ext (u.N (d.N l))) am ⟨V,V⟩ V λs' Y g' X x'=>ar s' Y _ g' X x' ⟨ak,aj,aa.1,fC aa.2 hw⟩
end
section
variable{a:D}{t:E}{b:Bk}{c:ad}
def US(a:Int)(l:au):Nat:=l.countP λs=>s.op=a
def aee:∀l:au,US 14 l+US 15 l<=l.length
 |[]=>by simp[US]
 |s::l=>by
  have:=aee l;grind [US,List.length_cons]
def Z2(a:Int)(l:au)(s:eQ):US a (l++[s])=US a l+(if s.op=a then 1 else 0):=by
 simp[US,List.countP_append,List.countP_cons]
def Ni(f:iI a t b.bq):xC 278 [.agg #[t.v,vi b.bP]] a λk=>0<=k/\k<=b.bq.length/\∀(i:Nat)(c:eQ),b.bq[i]? =some c->(i:Int)<k->c.op=14\/c.op=15:=by
 apply Ge;simp -zeta only[dT];intro d;have A:=px d;have r:∀m∈[a.size],m<d.size:=by simp[d]
 have s:=f.aT;refine iC (n:=b.bq.length) (s▸f.kM) (λk M=>J d M/\∀(i:Nat)(c:eQ),b.bq[i]? =some c->i<k->c.op=14\/c.op=15) ⟨dt,λi c _ h=>V⟩ ?_;rintro k M I μ K ⟨j,G⟩ y
 have u:=A.N j;have R:∀{g:D},J a g->∃e:Int,vi (k:Int)=vi e/\(0<=e/\e<=b.bq.length/\∀(i:Nat)(c:eQ),b.bq[i]? =some c->(i:Int)<e->c.op=14\/c.op=15)/\J a g:=cC;refine⟨λh=>?_,λh=>R u⟩;simp only[bh]at h;let⟨c,v⟩:=dY b.bq k;let⟨l,w,E,L,o,g1,g2,p,q⟩:=f.br v;refine⟨V,V,_,u.aS o,_,u.aS g1,_,u.aS g2,_,u.aS p,_,u.aS q,?_⟩;refine(FI (x:=c) l w M).bL j r λC Q F B z=>⟨_,O,λN=>y V _ ⟨z,λi S P H=>?_⟩,λ_=>R (u.N B)⟩;grind
def CX(Y:∀j∈c,j<a.size)(z:iI a t b.bq){e:Nat}(hm:e<=b.bq.length)(f:Int)(H:∀(i:Nat)(s:eQ),b.bq[i]? =some s->i<e->0<s.aO.length)(hb:b.bq.length<=10^12):
 oC 279 [.agg #[t.v,vi b.bP],vi e,vi f] a c λl=>(∀y∈l,∃(i:Nat)(s:eQ),i<e/\b.bq[i]? =some s/\y∈s.aO)/\l.length<=US f (b.bq.take e):=by
 apply Hq
 simp -zeta only[dT]
 intro d A
 have C:=px d
 have K:∀j∈[a.size],j<d.size:=by simp[d]
 have P:=px A
 have G:GI c d A (.mk d.size 0 0 0) []:=GI.gF c d
 have ac:=z.aT
 refine gN (n:=e) V (λk s M=>J d M/\∃l,GI c d M s l/\(∀y∈l,∃(i:Nat)(s:eQ),i<e/\b.bq[i]? =some s/\y∈s.aO)/\l.length<=US f (b.bq.take k)) ⟨P,[],G,bO,bO⟩ ?_
 rintro k s M R μ hk ⟨h,l,m,p,L⟩ B
 have u:=C.N h
 refine dit (λo=>?_) λo=>?_
 .let⟨x,r⟩:=dY b.bq k
  let⟨T,kk,w,ab,D,U,W,E,X⟩:=z.br r
  have Z:=w.aT
  have:=H k x r V
  let⟨y,N⟩:=dY x.aO 0
  have I:US f (b.bq.take (k+1))=US f (b.bq.take k)+(if x.op=f then 1 else 0):=by rw[bW r,Z2]
  have aa:US f (b.bq.take k)<=(b.bq.take k).length:=List.countP_le_length
  have ad:=Sg k b.bq
  refine⟨V,V,_,u.aS D,λq=>⟨V,V,_,u.aS E,cH,V,y,(w.ext u).br N,?_⟩,λq=>B V _ _ ⟨h,l,m,p,?_⟩⟩
  .intro m3
   simp only[bQ]at q
   rw[a8 q]at I
   refine GI.nI m (h.fz []) V λae S F v _ _=>⟨J.sY (h.cz _) v.ext K,B V _ _ ⟨v.ext,_,F,λQ g=>?_,fu⟩⟩
   rcases bT.1 g with g|g
   .exact p Q g
   grind [ba]
  grind [beq_eq_false_iff_ne]
 .have g:k=e:=V
  subst g
  exact⟨s,l,O,m.de (λ_ o=>o) C.aQ,⟨p,L⟩,u⟩
def X0:∀{l:au},(∀x∈l,dn x=0)->dc l=0
 |[],_=>O
 |x::l,h=>by rw[nO,h x cQ,X0 λy a=>h y (aX _ a)]
def aaP:∀{l:au},(∀x∈l,2<=x.w)->2*l.length<=sw l
 |[],_=>bO
 |x::l,h=>by
  have b:=h x cQ;have c:=aaP λy a=>h y (aX _ a);grind [qy,List.length_cons]
def Q6(hS:∀e∈c,e<a.size){Q:E}{o:ab}{ds:af}{nr f:Nat}(p:iI (di c a) t b.bq)(hf:bg a Q o)(a6:o.length<=3)(ad:WB ds nr True (f+o.length) b)(hw:b.w<=100000000000)(ha:f<=10^12){g:Int}(hx:0<=g/\g<(f:Int)):
 rJ 253 [.agg #[t.v,vi b.bP],vi g,Q.v,vi f] a c λb'=>WB ds nr True (f+o.length) b'/\b'.w<=b.w+8:=by
 apply JS
 simp -zeta only[dT]
 intro q ag
 let⟨w,B⟩:=fV (a:=q) (c:=ag) O O
 have s1:=pz q
 clear_value ag
 let⟨ae,bc⟩:=ad.cJ
 have ac:=p.le fJ
 have a2:=Bk.pN b
 have bf:=jK b.bq
 have bl:=p.aT
 have a4:=p.mr
 have a7:=hf.aT
 refine(Ni (ac.le w.le)).bL (J.cX ag) B λmn m3 a9 x3 _=>⟨_,O,?_⟩
 obtain⟨kn,aL⟩:∃kn:Nat,mn=kn:=⟨mn.toNat,V⟩
 subst aL
 have aq:∀(d:Nat)(s:eQ),b.bq[d]? =some s->d<kn->s.op=14\/s.op=15:=cC
 have ao:∀(d:Nat)(s:eQ),b.bq[d]? =some s->d<kn->0<s.aO.length:=λd s U aN=>by
  have:=aq d s U aN;have:=(ae d s U).iU.mE V;omega
 refine(CX (c:=[]) bO (ac.le (w.N x3).le) (e:=kn) V 14 ao V).bL x3 B λsd C m4 gd hd x4 v4=>⟨_,O,?_⟩
 refine(CX (c:=[]) bO (ac.le (w.N v4).le) (e:=kn) V 15 ao V).bL v4 B λX K m5 gr hr x5 v5=>⟨_,O,?_⟩
 have a3:=aee (b.bq.take kn)
 have bk:(b.bq.take kn).length=kn:=cC
 have ar:bg m5 X K:=(gr.cB bO V).le fJ
 refine(fI ar g).bL v5 B λbi m6 a1 x6 A=>⟨_,O,λ_=>⟨t,b,O,p.le (((w.N A).aW V _ _).eX),⟨ad,V⟩,(w.N A).aW V _ _⟩,λa8=>⟨λ_=>⟨t,b,O,p.le (((w.N A).aW V _ _).eX),⟨ad,V⟩,(w.N A).aW V _ _⟩,λa_=>?_⟩⟩
 have ba:0<o.length:=by grind [beq_eq_false_iff_ne]
 have aO:∀s∈b.bq.take kn,∃d:Nat,d<kn/\b.bq[d]? =some s:=λs p=>by
  let⟨d,U⟩:=db.1 p;have:=bC U;grind [List.getElem?_take_of_lt]
 have aI:dc (b.bq.take kn)=0:=X0 λs p=>by
  let⟨d,h1,h2⟩:=aO s p;have:=aq d s h2 h1;exact aV λR:tO s.op=>by have:=R.2;omega
 have be:2*kn<=sw (b.bq.take kn):=by
  have:=aaP (l:=b.bq.take kn) λs p=>by
   grind [eQ.pN]
  omega
 have bj:sw b.bq=sw (b.bq.take kn)+sw (b.bq.drop kn):=by rw[<-gR,jW]
 have a5:dc b.bq=dc (b.bq.take kn)+dc (b.bq.drop kn):=by rw[<-fm,jW]
 have ax:∀y:Int,(∃(d:Nat)(s:eQ),d<kn/\b.bq[d]? =some s/\y∈s.aO)->0<=y/\y<((f+o.length:Nat):Int):=λy⟨d,s,h1,h2,h3⟩=>by
  have h4:=(ae d s h2).iU.aO y h3;have h5:=Z3 (b.bq.take kn) d;grind [Nat.min_eq_left]
 refine(wQ (S:=[]) bO ((ar.ext x6).le ER) g V).bL A B λaY aR m8 am ap x8 v8=>⟨_,O,?_⟩
 have y2:=am.cF
 have aP:bg (di [aY.bt] m8) sd C:=((gd.cB bO V).le fJ).le (((x5.N x6).le.N (ER (m:=m6))).N (x8.di λe h=>bH cC))
 refine BC (j:=o.length) V (λk sd X M=>J m6 M/\∃C K,bg (di [X.bt] M) sd C/\GI [] m6 M X K/\(∀y∈C,0<=y/\y<((f+o.length:Nat):Int))/\C.length<=US 14 (b.bq.take kn)/\(∀y∈K,0<=y/\y<((f+o.length:Nat):Int))/\K.length<=US 15 (b.bq.take kn)+k) ⟨x8,C,aR,aP,am,λy I=>ax y (hd.1 y I),hd.2,λy I=>ax y (hr.1 y (ap.1 y I)),Yx ap.2 hr.2⟩ ?_
 rintro k F z r al μ hk ⟨N,W,L,H,G,T,an,au,bd⟩ ah
 have Y:=(w.N A).N N
 have y3:=G.cF
 have v:∀e∈[q.size,a.size],e<r.size:=by grind [J.lt]
 refine⟨λR=>?_,λR=>?_⟩
 .simp only[bh]at R
  let⟨y,I⟩:=dY o k
  have ew:eV ((f:Int)+(k:Int))=(f:Int)+k:=by grind [dk]
  rw[ew]
  have aa:∀{M:D},J r M->aS M Q.bt (Q.off+Int.toNat (k:Int)*1)=some (vi y):=λu=>(hf.ext (Y.N u)).br I
  have av:∀{M:D},J r M->al F z (eV ((k:Int)+1)) M/\μ F z (eV ((k:Int)+1)) M<μ F z k r:=λu=>ah V _ _ _ ⟨N.N u,W,L,H.le u.eX,G.ext u,T,an,au,V⟩
  have Xb:∀{M:D},J r M->mf (M.push (.cells (dh [.i ((f:Int)+k)]) bG)) bG [.i 0] 8 z (.mk M.size 0 1 1) λaj P=>gT [q.size,a.size] (M.push (.cells (dh [.i ((f:Int)+k)]) bG)) P/\al F aj (eV ((k:Int)+1)) P/\μ F aj (eV ((k:Int)+1)) P<μ F z k r:=λ{M} u=>by
   refine GI.nI (G.ext u) ((N.N u).fz []) V λaj P g' f' z' q'=>⟨J.sY ((N.N u).cz _) f'.ext (λe h=>A.lt (B e h)),ah V _ _ _ ⟨f'.ext,W,_,(H.le u.eX).le (mH λe h hn=>?_),g',T,an,λak hz=>?_,fu⟩⟩
   .grind
   .grind
  refine⟨V,V,y,aa dt,λ_=>?_,λ_=>⟨V,V,y,aa dt,λ_=>?_,λ_=>av dt⟩⟩
  .refine(fI (H.le fJ) _).bL (J.cX r) v λbb aA _ Z _=>⟨_,O,λ_=>?_,λ_=>⟨V,V,y,aa Z,λ_=>?_,λ_=>av Z⟩⟩
   .refine(wQ (S:=[z.bt]) cC (H.le Z.eX) _ V).bL Z v λaC az aB ay ai aD aw=>⟨_,O,ah V _ _ _ ⟨N.N aw,az,L,ay.cB cC (oh ai.2),G.ext aw,λak hz=>T ak (ai.1 ak hz),oh ai.2,au,V⟩⟩
   grind
  grind [J.cX]
 .have aQ:bg r z L:=(G.cB bO V).le fJ
  have ak:∀{M:D},r.size<=M.size->∀e∈q.size::c,e<M.size:=λhz e h=>by
   grind [Array.size,J.aQ]
  refine(iP (c:=q.size::c) (ak bY) 14 (H.le fJ) V).bL (J.cX r) v λaT bm bo aa aD az _=>⟨_,O,?_⟩
  subst aD
  have bB:=aa.cF
  refine(lK (c:=aT.bt::q.size::c) (λe h=>?_) 16 g).aP λbA bp⟨a0,bb,aC,aH,aK,P⟩=>⟨λe h=>P.bB e (az.lt (v e h)),_,_,_,_,_,aC,?_⟩
  .grind
  intro bq
  have aA:=az.N P
  refine GS.nI (x:=iT 16 g) (aa.ext km.aP P) (aA.fz []) aH aK cC λaU br ai I bI bv=>⟨J.sY (aA.cz _) I.ext v,?_⟩
  have bE:=ai.cF
  refine(iP (c:=aU.bt::q.size::c) (λe h=>?_) 15 (aQ.ext I.ext) V).bL I.ext v λbz bn bs aF aE aZ ay=>⟨_,O,?_⟩
  .grind
  subst aE
  refine GS.lZ (ai.ext km.aP aZ) (ay.fz []) (aF.cB km.aP (λe h=>?_) cH cC) cC λaw av aj u bJ bw=>⟨J.sY ay u.ext v,V,V,V,?_⟩
  .grind
  have bF:=aj.cF
  have z9:=Y.aQ
  have aM:Le (di c a) (di (aw.bt::q.size::c) av):=(Y.N u.ext).di λe h=>by
   grind
  have ek:Int.toNat (kn:Int)=kn:=V
  have el:Int.toNat (t.len:Int)=t.len:=V
  rw[ek,el]
  have aJ:iI (di (aw.bt::q.size::c) av) (t.cut kn t.len 5) (b.bq.drop kn):=by
   have:=(p.le aM).PI (i:=kn) (j:=t.len) V V;grind [eY]
  refine GS.lZ aj u aJ fu λaW bt aG Z bK bx=>⟨J.sY u.ext Z.ext v,bD cC _,?_⟩
  intro bu
  have aB:=aG.cB km.aP (ak bY) cH fu
  have e1:dc [iT 16 g]=0:=nJ cH [g]
  have e2:sw [iT 16 g]=2:=uR 16 [g]
  have W1:WL ds nr True (f+o.length) (W.map (iT 14)++[iT 16 g]++L.map (iT 15)++b.bq.drop kn):=by
   refine WL.fE (WL.fE ((wh cH T).Ch ?_) ?_) ?_
   .grind [nJ,I5]
   .grind [fm,nJ,wh]
   .rw[fm,fm,nJ cH,nJ cH,e1];have:=ae.uV kn;rwa[aI]at this
  refine⟨aW,.mk (W.map (iT 14)++[iT 16 g]++L.map (iT 15)++b.bq.drop kn) b.bP,O,iI.le (dU bO λe h=>aX _ h) aB,⟨.of W1 ?_,?_⟩,(Y.N Z.ext).aW V _ _⟩
  .grind [fm,nJ]
  grind [Bk.vT,gR,uR]
end
def afI(c:af)(d:List jV)(b:Bk):Prop:=∀(S:ad)(m:D),(∀a∈S,a<m.size)->∀(f r t:E)(a:Nat),iD m f r c d->iI m t b.bq->WB c d.length True a b->a+4*b.w<=10^12->9*b.w<=100000000000->
 rJ 232 [.agg #[f.v,r.v],.agg #[t.v,vi b.bP],vi a] m S λe=>WB c d.length True a e/\e.w+8<=9*b.w
def Ib{r:af}{rs:List jV}:∀q:Bk,afI r rs q:=by
 refine Bk.ind ?_;intro bq X ih h ah hS au aG bv j C hs aU a9 a_;have aB:=aU.cJ;rw[Bk.vT]at*;simp only[Bk.mZ,Bk.lV]at*;apply Bh;simp -zeta only[kU,nQ];intro W f p g m5 m6;let⟨x3,hl,s1,s2,s3⟩:=uQ (a:=W) (c:=f) (d:=p) O O O;have s4:=pz g;have aI:=py m6;have a2:J p m6:=(J.push p _).N aI;have g0:GS (g.size::f.size::h) p m6 (.mk p.size 0 0 0) []:=(GS.bI _ p).ext km.aP aI;have B0:dJ m6 g.size ft [.s (.mk p.size 0 0 0),.i X]:=dJ.aW (m:=m5) (dJ.push g _ _);have aK:∀c∈f.size::h,c<p.size:=dH hS x3.aQ (hl _ bO);have aO:=hs.aT;have aQ:=Gu bq;have bm:=jK bq;refine gN (aO▸hs.kM) (λk(v:Int) M=>v=((j+dc (bq.take k):Nat):Int)/\J p M/\∃s o,GS (g.size::f.size::h) p M s o/\dJ M g.size ft [.s s,.i X]/\o.length=k/\WL r rs.length True j o/\dc o=dc (bq.take k)/\sw o<=9*sw (bq.take k)) ⟨bO,a2,_,[],g0,B0,O,WL.gF,bO,bO⟩ ?_;rintro k v0 M ar μ hk ⟨aT,xM,s,o,ab,R,bi,wl,ae,aR⟩ aF
 subst aT;have v:=x3.N xM;have hy:=ab.cF;have a5:=R.lt;refine dit (λac=>?_) λac=>?_
 .let⟨x,F⟩:=dY bq k;let⟨pa,pk,ha,an,e0,e1,e2,e3,e4⟩:=hs.br F;have bp:=Uk F;have bs:=eQ.pN x;have bb:=xG x.dA;have br:=ux F;have bo:=vt F;have N:=aB.1 k x F;have bf:=xI (bq.take k);have bl:=jK (bq.take k);have bn:=aQ (k+1);refine⟨V,V,_,v.aS e0,_,v.aS e1,_,v.aS e2,_,v.aS e3,_,v.aS e4,?_⟩;intro m7 u m9;obtain⟨x8,s8⟩:=pv u;obtain⟨x9,s9⟩:=pu m9;have aJ:GB (s.bt::g.size::f.size::h) u m9 (.mk u.size 0 0 0) []:=GB.bI u;have al:∀c∈s.bt::g.size::f.size::h,c<u.size:=λc d=>by
   simp only[aZ]at d;rcases d with e|e|e|e
   .omega
   .omega
   .omega
   .have:=hS c e;omega
  have ao:=an.aT;have t:∀{b:D},u.size<=b.size->∀c∈[M.size,f.size,W.size,ah.size],c<b.size:=λac c d=>by simp at d;omega
  refine(kA (e:=[u.size]) fu (C.bR.le (v.N (x8.N x9)).le) C.dj x.cG).bL (J.cX m9) (t x9.aQ) λsc lc bt ay e aH _=>⟨_,O,?_⟩;subst e;have bj:=ay.aT;refine gN (ao▸an.kM) (λl ks b=>J u b/\bg (di [ks.bt] b) sc (cY r x.cG)/\∃lk,GB (s.bt::g.size::f.size::h) u b ks lk/\lk.length=l/\(∀(G:Nat)(q:Bk),lk[G]? =some q->WB r rs.length True (j+dc (bq.take k)+GK r x.op x.cG G) q)/\bw lk<=9*bw (x.dA.take l)) ⟨x9.N aH,ay,[],aJ.ext vV.aP aH,O,bO,bO⟩ ?_;rintro l ks w I2 μ2 hj ⟨Z,az,lk,gk,bh,aw,aN⟩ a0;have z:=v.N (x8.N Z);have yk:=gk.cF;have H:=Z.aQ;refine dit (λh2=>?_) λh2=>?_
  .let⟨q,I⟩:=dY x.dA l;let⟨tb,aA,f0,f1⟩:=an.br I;have be:=By I;have aM:=zd I;have ad:=N.dA l q I;have h3:=WH C.dj x.op x.cG l;have ak:∀{b:D},J w b->∀c∈ks.bt::s.bt::g.size::f.size::h,c<b.size:=λxx c d=>by
    have:=xx.aQ;rcases aZ.1 d with e|e
    .omega
    .have:=al c e;omega
   have aa:∀{b:D}{Q:E}{y:Bk},J w b->iI (di (ks.bt::s.bt::g.size::f.size::h) b) Q y.bq->WB r rs.length True (j+dc (bq.take k)+GK r x.op x.cG l) y->y.w<=9*q.w->
    mf (b.push (.cells (dh [.s Q,.i y.bP]) ft)) ft [.s .nil,.i 0] 32 ks (.mk b.size 0 1 1) λP M3=>gT [M.size,f.size,W.size,ah.size] (b.push (.cells (dh [.s Q,.i y.bP]) ft)) M3/\I2 P (eV ((l:Int)+1)) M3/\μ2 P (eV ((l:Int)+1)) M3<μ2 ks l w:=λ{b Q y} x11 U hwb' hw'=>by
    refine GB.nI (gk.ext vV.aP x11) ((Z.N x11).fz []) U V λP M3 g2 f2 a3 q2=>⟨J.sY ((Z.N x11).cz _) f2.ext (t bY),a0 V _ _ ⟨f2.ext,(az.le x11.eX).le (mH λc d ax=>?_),_,g2,fu,λG b2 B=>?_,?_⟩⟩
    .simp at ax
     refine⟨?_,q2 c d ax⟩
     simp
     rcases a3.2 with e|e<;>omega
    .rcases eH G lk.length with n|n
     .rw[dZ n]at B;exact aw G b2 B
     .rw[dQ n]at B
      have:G -lk.length=0:=by have:=bC B;simp at this;omega
      rw[this]at B;simp at B;subst B
      have:G=l:=V
      subst this;exact hwb'
    .rw[tr,zc,Et,aM]
     omega
   refine⟨λA=>?_,λA=>?_⟩
   .simp only[bQ]at A;obtain⟨a7,_⟩:=N.iU.lZ A;have a4:=N.iU.mE (bH (bH A));let⟨aq,aC⟩:=dY x.aO 0;let⟨y0,y1⟩:=N.iU.aO aq (ba aC);have a6:=ha.aT;let⟨cn,av⟩:=dY (cY r x.cG) l;refine⟨V,V,cn,(az.le fJ).br av,?_⟩;refine(fX (C.bR.le (z.le.N ER)) C.dj cn).bL (J.cX w) (t H) λsf lf aD ag e ai _=>⟨_,O,?_⟩;subst e;have ag:=ag.le fJ;have bk:=ag.aT;have T:=z.N ai;rw[Py A av]at ad h3 aa;have aj:aS aD pa.bt (pa.off+Int.toNat (0:Int)*1)=some (vi aq):=(ha.ext T).br aC;refine⟨V,V,_,T.aS f0,_,T.aS f1,cH,V,aq,aj,?_⟩;have ew:eV (((j+dc (bq.take k):Nat):Int)+(sf.len:Int))=((j+dc (bq.take k)+(da r cn).length:Nat):Int):=by rw[dk V V];omega
    rw[ew];refine(ih x (ba F) q (ba I) (ks.bt::s.bt::g.size::f.size::h) aD (ak ai) au aG tb _ (C.le T.le) (aA.le T.le) ad V V).bL ai (t H) λQ y aW U am Y ap=>⟨_,_,O,?_⟩;refine⟨by rw[Y.aS aj,aj],bD (Y.bB _ (ai.lt (t H _ bO))) _,?_⟩;refine(Q6 (ak ap) U (ag.ext Y) V am.1 V V ⟨y0,y1⟩).bL ap (t H) λbu b2 aE aP aL n a1=>⟨_,_,O,?_⟩;intro aY;exact aa a1 aP aL.1 V
   .simp only[bd]at A;rw[Pz A]at ad aa;refine⟨V,V,_,z.aS f0,_,z.aS f1,?_⟩;refine(ih x (ba F) q (ba I) (ks.bt::s.bt::g.size::f.size::h) w (ak dt) au aG tb _ (C.le z.le) (aA.le z.le) ad V V).bL (J.cX w) (t H) λQ y aW U am Y ap=>⟨_,_,O,?_⟩;intro aE;exact aa Y U am.1 V
  .have aj:lk.length=x.dA.length:=V;rw[eY V]at aN;have I:J M w:=x8.N Z;have B:=R.ext I;have G2:=ab.ext km.aP I;refine⟨s,B.dg 0,?_⟩;refine(dF (s.bt::g.size::f.size::h) (ha.ext z) V).bL (J.cX w) (t H) λs' l' aE ga e n _=>⟨_,O,bD (n.bB _ V) _,bD (n.bB _ V) _,bD (n.bB _ V) _,bD (n.bB _ B.lt) _,?_⟩;subst e;intro aY;refine Gr.bU (h:=[.i 0,.i 0,.i 0,.s .nil,.s .nil]) (K:=λb=>bJ dP 205 [vi x.op] b λv A=>gT [M.size,f.size,W.size,ah.size] b A/\∃y:Bool,v=vb y/\
    (y=true->ar (eV (((j+dc (bq.take k):Nat):Int)+1)) (eV ((k:Int)+1)) A/\μ (eV (((j+dc (bq.take k):Nat):Int)+1)) (eV ((k:Int)+1)) A<μ ((j+dc (bq.take k):Nat):Int) (k:Int) M)/\
    (y=false->ar ((j+dc (bq.take k):Nat):Int) (eV ((k:Int)+1)) A/\μ ((j+dc (bq.take k):Nat):Int) (eV ((k:Int)+1)) A<μ ((j+dc (bq.take k):Nat):Int) (k:Int) M)) (L:=[M.size,f.size,W.size,ah.size]) (j:=0) (w:=72) (o:=[.s s,.i X]) (v:=⟨x.op,x.cG,x.cR,x.aO,lk⟩) km.aP cH (G2.ext km.aP n) (((xM.N I).N n).fz []) ⟨s',ks,O,(ga.cB (λc d=>oh (al c d)) V),rW.le n.eX (gk.cB vV.aP al cH (by show lk.length<=_;omega))⟩ V (B.ext n) bO cH ⟨V,bO⟩ (λc d=>by have y:=n.aQ;simp at d;omega) λP m' g' Q Y z' q'=>?_
   have T:=wl.Ch (N.Vj id N.iU.cR aj aw|>λac=>(ae▸ac));have ak:=n.aQ;refine(mO x.op m').aP λv A⟨U,e,ai,y⟩=>⟨λc d=>y.bB c (oh (t H c d)),U,e,?_⟩;have ad:=Ar x U ai;have aa:dc (o++[⟨x.op,x.cG,x.cR,x.aO,lk⟩])=dc (bq.take (k+1)):=by
    rw[fm,nO,xJ,ae];have e:dn (⟨x.op,x.cG,x.cR,x.aO,lk⟩:eQ)=dn x:=rfl;omega
   have ag:sw (o++[⟨x.op,x.cG,x.cR,x.aO,lk⟩])<=9*sw (bq.take (k+1)):=by
    rw[gR,qy,Ai];have h5:(⟨x.op,x.cG,x.cR,x.aO,lk⟩:eQ).w=1+x.aO.length+bw lk:=eQ.pN _;omega
   refine⟨λht=>?_,λhf=>?_⟩
   .rw[a8 ht]at ad;rw[dk V V];exact aF V _ _ ⟨V,Y.ext.N y,P,_,g'.ext km.aP y,Q.ext y,fu,T,aa,ag⟩
   .rw[aV (by simp[hf])]at ad;exact aF V _ _ ⟨V,Y.ext.N y,P,_,g'.ext km.aP y,Q.ext y,fu,T,aa,ag⟩
 .have ao:k=bq.length:=V;subst ao;rw[fB]at ae aR;refine⟨s,R.dg 0,X,R.dg 1,?_⟩;intro m7;have b:Le (di (g.size::f.size::h) M) (di h m7):=dU bO λc d=>aX _ (aX _ d);have l:=ab.ne R cH;refine⟨s,.mk o X,O,iI.le b (ab.sa km.aP (λd=>?_) cH (by show o.length<=_;omega)),⟨.of wl ((ae▸aB.2)),by rw[Bk.vT];omega⟩,v.aW V _ _⟩;rcases aZ.1 d with e|e
  .exact l e
  .have:=aK _ e;omega
def JY{d:ad}{m:D}(y:∀c∈d,c<m.size){h r:E}{f:af}{p:List jV}(g:iD m h r f p){W:Nat}(hW:9*W<=100000000000)(T:Da f p True W):zI 196 [.agg #[h.v,r.v]] m d f λs=>Da f s True (9*W):=by
 apply CA;simp -zeta only[dT];intro b a2;let⟨v,n⟩:=fV (a:=b) (c:=a2) O O;have s1:=pz b;have ak:=g.lJ.aT;have ay:=g.pP;refine(jz (b:=b.size::d) (dH y v.aQ (n _ bO)) (g.le v.le).bR g.dj).aP λ_ H⟨ab,e,ag,w⟩=>?_;subst e;refine⟨w.fg n,_,O,?_⟩;intro I ao ap;have Z:=v.N w;let⟨x5,B0,g0,s3,s5⟩:=ov (b:=I.size::b.size::d) lz.aP (d:=H) (a:=I) (c:=ao) (j:=ap) O O O;have A:∀c∈[b.size,m.size],c<H.size:=λc a=>w.lt (n c a);have z:∀c∈b.size::d,c<H.size:=λc a=>w.lt (dH y v.aQ (n _ bO) c a);refine nV (R:=λi j M=>∃h r s,Value.agg #[i.v,j.v]=.agg #[h.v,r.v]/\iD (di d M) h r f s/\Da f s True (9*W)/\J m M) lz.aP cH cH y ⟨V,A _ bO⟩ Z s3 ag ak V x5 B0 g0 (λ_ q=>q.aY.length<=3/\q.cW.length<=3/\WB f p.length True q.aY.length q.eZ/\q.eZ.w<=9*W) (λi u F x P k j o t=>⟨i,u,F,O,⟨P,k,g.dj,V⟩,Mw T.iY j o,t⟩) λan M Y F au μ ah aw xM N B aq=>?_
 let⟨q,X⟩:=dY p an ah;let⟨aj,ai,am,hw⟩:=T.eR q (ba X);have t:=Z.N xM;let⟨ar,az,j,L,c2,c3,e0,e1,e2,e3,e4⟩:=g.lJ.br X;have G:∀{aa:Value}{j o:Nat},aS m j o=some aa->aS M j o=some aa:=λae=>t.aS ae;refine⟨V,V,_,G e0,_,G e1,_,G e2,_,G e3,_,G e4,?_⟩;intro m7 i;have hy:=N.cF;have av:=B.lt;obtain⟨K,s8⟩:=pv i;have U:∀c∈[M.size,b.size,m.size],c<i.size:=λc a=>by
  rcases aZ.1 a with e|e
  .omega
  .have:=A c e;omega
 have w8:=t.N K;have ax:=L.aT;have ac:(ar.len:Int)=(q.aY.length:Nat):=V;refine⟨Y,(B.ext K).dg 1,?_⟩;rw[ac];refine(Ib q.eZ (Y.bt::I.size::b.size::d) i (λc a=>?_) h r j q.aY.length (g.le w8.le) (c3.le w8.le) am V V).bL (J.cX i) U λss b' M1 al Q u _=>⟨_,_,O,?_⟩
 .simp only[aZ]at a;rcases a with e|e|e|e
  .omega
  .omega
  .have:=z c (by simp[e]);omega
  .have:=z c (by simp[e]);omega
 have C:∀o,aS M1 M.size o=aS i M.size o:=λo=>bD (u.bB _ V) o;refine⟨C 0,C 1,C 2,C 3,C 4,bD (u.bB _ V) _,?_⟩;have x:=K.N u;have z1:=u.aQ;exact AK (b:=b.size::d) (v:=ab) (x:=F) z (λc a=>by have P:=U c a;have k:=A c;simp only[aZ]at a k;rcases a with e|e|e|e<;>first|omega|(have:=k (by simp[e]);omega)|simp at e) (xM.N x) (N.ext lz.aP x) (B.ext x) V (L.ext (t.N x)) (c2.ext (t.N x)) al ⟨V,V⟩ V λs' P g' k x'=>aq s' P _ g' k x' ⟨aj,ai,Q.1,by have:=Q.2;show b'.w<=_;omega⟩
section
variable{S:ad}{m:D}{c:E}{l:List Instr}
theorem eW.le{m b:D}(h:Le m b){a:ae}{x:Instr}:eW m a x->eW b a x:=λ⟨c,j,d,e,f⟩=>⟨c,j,d,e.le h,f.le h⟩
theorem eW.aP:qF 6 eW:=⟨λh=>eW.le h,λh=>by obtain⟨_,_,rfl,_⟩:=h;rfl⟩
def iz.le{m a:D}(b:Le m a){s:E}{l:List Instr}(h:iz m s l):iz a s l:=by grind [fY.le,eW.le]
theorem oK.le{m b:D}(h:Le m b){a:ae}{x:dS}:oK m a x->oK b a x:=λ⟨d,l,c,e,f,g,i⟩=>⟨d,l,c,e,f.le h,g.le h,iz.le h i⟩
def oK.aP:qF 5 oK:=⟨λh=>oK.le h,λh=>by obtain⟨_,_,_,rfl,_⟩:=h;rfl⟩
def ly.le{m a:D}(b:Le m a){s:E}{l:av}(h:ly m s l):ly a s l:=by grind [fY.le,oK.le]
def inV(x:Instr)(a j:E):Value:=.agg #[vi x.op,vi x.bA,vi x.cG,vi x.cR,a.v,j.v]
def AX(G:∀c∈S,c<m.size){o s:E}{x:Instr}(w:bg m o x.aO)(z:bg m s x.fU)(g:x.aO.length<=10^12/\x.fU.length<=10^12):
 bJ dP 199 [inV x o s] m λF k=>∃f h,F=inV x f h/\bg (di S k) f x.aO/\bg (di S k) h x.fU/\J m k:=by
 apply vP
 simp -zeta only[dT]
 intro d i
 let⟨l,q⟩:=fV (a:=d) (c:=i) O O
 have I:=pz d
 have p:∀c∈d.size::S,c<i.size:=by grind [dH,J.aQ]
 have b:∀{M n:D},J i M->J M n->∀t,aS n m.size t=aS M m.size t:=by grind [bD,J.bB,J.lt]
 refine(dF (d.size::S) (w.ext l) g.1).bL (J.cX i) q λf _ H u j a _=>⟨_,O,b dt a _,b dt a _,b dt a _,b dt a _,b dt a _,?_⟩
 subst j
 refine(dF (d.size::S) (z.ext (l.N a)) g.2).bL a q λh _ A v j e C=>⟨_,O,b a e _,b a e _,b a e _,b a e _,?_⟩
 subst j
 intro B
 have r:Le (di (d.size::S) A) (di S B):=by grind [dU,List.mem_cons_of_mem]
 exact⟨f,h,O,((u.cB p g.1).le e.eX).le r,(v.cB (λc y=>a.lt (p c y)) g.2).le r,(l.N C).aW V _ _⟩
def Sb(d:iz m c l)(s:Int):Kl 192 [c.v,vi s] m:=by
 apply Ly;have k:=d.aT;refine gN (n:=l.length) (k▸d.kM) (λ_ _ M=>J m M) dt ?_;rintro q K M I μ F e u
 refine⟨λh=>?_,λ_=>rN e⟩;simp only[bh]at h;let⟨x,o⟩:=dY l q;let⟨z,H,b,E,A,g,B,C,f,D⟩:=(iz.ext e d).br o;have j:=b.aT;refine⟨V,V,_,g,?_⟩;refine gN (n:=x.aO.length) (j▸b.kM) (λ_ _ a=>J M a) dt ?_;rintro r L w v μ2 G a t;refine⟨V,V,_,a.aS f,λi=>?_,λ_=>u V _ _ (e.N a)⟩;simp only[bh]at i;let⟨y,p⟩:=dY x.aO r;exact⟨V,V,_,a.aS f,V,V,y,(b.ext a).br p,t V _ _ a⟩
@[grind cases] structure Rx (k:Nat) (x:Instr):Prop where
 yJ:x.op=22->(k:Int)<x.cG
 arg:x.op=18\/x.op=23\/x.op=16\/x.op=17->0<x.aO.length
def YP(l:List Instr):Prop:=∀(k:Nat)(x:Instr),l[k]? =some x->Rx k x
def Nh(e:iz m c l)(D:YP l){j:Int}(B:0<=j)(ZF:Int):tn 234 [c.v,vi j,vi ZF] m:=by
 apply Gd;simp -zeta only[dT];have H:=e.aT;have K:=e.kM;refine⟨λv _ M=>0<=v/\J m M,λv _ _=>((l.length:Int) -v).toNat,⟨B,dt⟩,?_⟩;rintro v F M ⟨E,i⟩;refine⟨λh=>?_,λ_=>rA i⟩;simp only[bh]at h;let⟨x,n⟩:=dY l v.toNat;let⟨b,L,d,I,r,s,t,w,z,A⟩:=(iz.ext i e).br n;have G:=d.aT;have k:=D _ x n;refine⟨E,V,_,r,_,s,_,t,_,w,_,z,_,A,?_⟩;intro N a;have g:J M a:=by grind [J.push,J.aW]
 have u:=i.N g;have yJ:(x.op==22)=true->(0<=x.cG/\J m a)/\((l.length:Int) -x.cG).toNat<((l.length:Int) -v).toNat:=λh=>by
  grind [Rx.yJ]
 have o:(x.op==23)=true->(0:Int)<=0/\(0:Int)<(b.len:Int)/\∃p:Int,aS a b.bt (b.off+Int.toNat (0:Int)*1)=some (vi p)/\∃q:Bool,vb (p==F)=.bool q/\J m a:=λh=>by
  simp only[bQ]at h;have:=k.arg V;let⟨y,f⟩:=dY x.aO 0;exact⟨cH,V,y,(d.ext g).br f,rA u⟩
 refine⟨λC=>?_,λ_=>⟨yJ,λ_=>⟨o,λ_=>rA u⟩⟩⟩;simp only[bQ]at C;have:=k.arg V;let⟨y,f⟩:=dY x.aO 0;refine⟨cH,V,y,(d.ext g).br f,λ_=>?_,λ_=>⟨yJ,λ_=>⟨o,λ_=>rA u⟩⟩⟩;grind [dk,List.length]
def Pt(l b:List Instr):Prop:=b.length=l.length/\∀(k:Nat)(a:Instr),b[k]? =some a->∃x,l[k]? =some x/\(a=x\/a=⟨24,0,x.cG,0,x.aO,x.fU⟩)
def Wx(l:List Instr):Prop:=∀x∈l,x.aO.length<=10^12/\x.fU.length<=10^12
abbrev GIn(S:ad)(a m:D)(s:E)(l:List Instr):Prop:=Gr S a m ee 6 eW s l
def O7(hS:∀c∈S,c<m.size)(h:iz m c l)(ab:YP l)(ac:Wx l)(hb:l.length<=10^12):
 bJ dP 198 [c.v] m λH F=>∃s e,H=s.v/\GIn S m F s e/\Pt l e/\J m F:=by
 apply Ie
 simp -zeta only[dT]
 intro G
 have x1:=px G
 have W:GIn S m G (.mk m.size 0 0 0) []:=by grind [Gr.bI]
 have aa:=h.aT
 refine gN (n:=l.length) (aa▸h.kM) (λk s M=>J m M/\∃e,GIn S m M s e/\Pt (l.take k) e) ⟨x1,[],W,by simp[Pt]⟩ ?_
 rintro k s M I μ hk ⟨t,e,v,B,C⟩ af
 refine dit (λY=>?_) λY=>?_
 .let⟨d,E⟩:=dY l k
  let⟨ag,aj,ha,hj,L,N,P,Q,R,T⟩:=(iz.ext t h).br E
  have ad:=ac d (ba E)
  have hy:=v.cF
  have ai:e.length=k:=cC
  have Z:∀c∈s.bt::S,c<M.size:=λc h=>by
   grind
  refine⟨V,V,_,L,_,N,_,P,_,Q,_,R,_,T,?_⟩
  refine(AX Z ha hj ad).aP λH z⟨p,q,K,w,y,x2⟩=>⟨_,_,_,_,_,_,K,?_⟩
  intro m3 r
  have g:J z r:=by grind [J.push,J.aW]
  have s4:r.size=z.size+1:=by grind [bE]
  have j:=x2.N g
  have u:∀{f:D}{b:Instr},J r f->bg (di (s.bt::S) f) p b.aO->bg (di (s.bt::S) f) q b.fU->(b=d\/b=⟨24,0,d.cG,0,d.aO,d.fU⟩)->
   mf (f.push (.cells (dh [.i b.op,.i b.bA,.i b.cG,.i b.cR,.s p,.s q]) ee)) ee [.i 0,.i 0,.i 0,.i 0,.s .nil,.s .nil] 80 s (.mk f.size 0 1 1) λA o=>gT [z.size] (f.push (.cells (dh [.i b.op,.i b.bA,.i b.cG,.i b.cR,.s p,.s q]) ee)) o/\I A (eV ((k:Int)+1)) o/\μ A (eV ((k:Int)+1)) o<μ s k M:=λ{f b} xx h1 h2 h3=>by
   have z4:=j.aQ
   have zx:=xx.aQ
   refine Gr.nI (h:=[.i 0,.i 0,.i 0,.i 0,.s .nil,.s .nil]) (m:=b) eW.aP cH (v.ext eW.aP (j.N xx)) ((t.N (j.N xx)).fz []) ⟨p,q,O,h1,h2⟩ V λA o X U z3 q3=>⟨λc h=>?_,af V _ _ ⟨U.ext,_,X,fu,λae ak hi=>?_⟩⟩
   .grind [J.aQ,J.push,J.bB]
   .rcases eH ae e.length with i|i
    .grind [List.getElem?_append_left,List.getElem?_take_of_lt]
    grind [List.getElem?_append_right,List.length,bC,List.getElem?_take_of_lt]
  have z4:=j.aQ
  refine⟨λh9=>?_,λ_=>?_⟩
  .rw[dk (b:=(k:Int)+1) V V]
   refine(Nh (iz.ext (t.N j) h) ab V d.bA).bL (J.cX r) cC λah m5 i _=>⟨_,O,λ_=>?_,λ_=>?_⟩
   .intro m6
    have:=u (b:=⟨24,0,d.cG,0,d.aO,d.fU⟩) i ((w.le g.eX).le i.eX) ((y.le g.eX).le i.eX) (bH O)
    grind [dk]
   .intro m6
    have:=u (b:=d) i ((w.le g.eX).le i.eX) ((y.le g.eX).le i.eX) (bz O)
    grind [dk]
  .intro m5
   exact u (b:=d) dt (w.le g.eX) (y.le g.eX) (bz O)
 .rw[eY V]at B C
  exact⟨s,e,O,v,⟨B,C⟩,t⟩
end
section
variable{b:av}
@[grind cases] structure ZP (p:dS):Prop where
 aY:p.aY.length<=3
 cW:p.cW.length<=3
 iY:0<p.cD.length
 pP:p.cD.length<=10^12
 cD:YP p.cD
 pJ:Wx p.cD
@[grind cases] structure Ek (ps:av):Prop where
 iY:0<ps.length
 pP:ps.length<=4
 eR:∀p∈ps,ZP p
def Wv(f:Nat)(c:ap)(m:D)(S:ad)(e:af)(Q:av->Prop):Prop:=bJ dP f c m λv a=>∃d p b,v=.agg #[d.v,p.v]/\dw (di S a) d e/\ly (di S a) p b/\Q b/\J m a
def Pt.ok{l d:List Instr}(h:Pt l d)(g:YP l)(f:Wx l):YP d/\Wx d:=by
 let⟨j,e⟩:=h;refine⟨λk a c=>?_,λa c=>?_⟩
 .obtain⟨x,b,rfl|rfl⟩:=e k a c
  .exact g k a b
  .exact⟨sx,sx⟩
 .let⟨k,i⟩:=db.1 c;obtain⟨x,b,rfl|rfl⟩:=e k a i
  .exact f a (ba b)
  .exact f x (ba b)
def abD{a:av}(h:Ek b)(d:a.length=b.length)(c:∀(i:Nat)(q:dS),a[i]? =some q->ZP q):Ek a:=
 by constructor<;>grind [Ek.iY,Ek.pP,List.mem_iff_getElem?]
def Nk{f:ad}{o:D}(Q:∀c∈f,c<o.size){w x:E}{y:af}(hd:dw o w y)(ht:eT y)(hp:ly o x b)(U:Ek b):Wv 130 [.agg #[w.v,x.v]] o f y Ek:=by
 apply Gi;simp -zeta only[dT];intro g a2;let⟨I,C⟩:=fV (a:=g) (c:=a2) O O;have s1:=pz g;have an:=hp.aT;have aB:=U.pP;refine(jz (b:=g.size::f) (dH Q I.aQ (C _ bO)) (hd.le I.le) ht).aP λ_ Y⟨dd,e,al,K⟩=>?_;subst e;refine⟨K.fg C,_,O,?_⟩;intro m ap aq;have u2:=I.N K;let⟨x5,B0,g0,s3,s5⟩:=ov (b:=m.size::g.size::f) oK.aP (d:=Y) (a:=m) (c:=ap) (j:=aq) O O O;have T:∀c∈[g.size,o.size],c<Y.size:=λc d=>K.lt (C c d);have ae:∀c∈g.size::f,c<Y.size:=λc d=>K.lt (dH Q I.aQ (C _ bO) c d);refine nV (R:=λj k M=>∃w x h,Value.agg #[j.v,k.v]=.agg #[w.v,x.v]/\dw (di f M) w y/\ly (di f M) x h/\Ek h/\J o M) oK.aP cH cH Q ⟨V,T _ bO⟩ u2 s3 al an V x5 B0 g0 (λ_ q=>ZP q) (λh Z ah m' h1 A j k l=>⟨h,Z,ah,O,h1,A,abD U j k,l⟩) λao M r ah aw μ am az xM ac L ar=>?_
 let⟨q,hq⟩:=dY b ao am;have n:=U.eR q (ba hq);have q3:=n.aY;have q4:=n.cW;have qf:=n.pP;have qs:=n.iY;have v6:=u2.N xM;let⟨ax,k,c,c1,c2,c3,e0,e1,e2,e3,e4⟩:=hp.br hq;have G:∀{aa:Value}{k t:Nat},aS o k t=some aa->aS M k t=some aa:=λz=>v6.aS z;refine⟨V,V,_,G e0,_,G e1,_,G e2,_,G e3,_,G e4,?_⟩;intro m7 p;have hy:=ac.cF;have ay:=L.lt;obtain⟨x8,s8⟩:=pv p;have F:∀c∈[M.size,g.size,o.size],c<p.size:=λc d=>by
  rcases aZ.1 d with e|e
  .omega
  .have:=T c e;omega
 have w8:=v6.N x8;have B:∀{M':D},p.size<=M'.size->∀c∈r.bt::m.size::g.size::f,c<M'.size:=λz c d=>by
  simp only[aZ]at d;rcases d with e|e|e|e
  .omega
  .omega
  .have:=ae c (by simp[e]);omega
  .have:=ae c (by simp[e]);omega
 have h:∀{N M2:D},J p N->J N M2->∀k,k<p.size->∀t,aS M2 k t=aS N k t:=λz h' k hb t=>bD (h'.bB k (z.lt hb)) t;have l:M.size<p.size:=V;have W:m.size<p.size:=V;refine⟨r,(L.ext x8).dg 1,?_⟩;refine(dF (r.bt::m.size::g.size::f) (c1.ext w8) V).bL (J.cX p) F λa' _ m9 ga e j _=>⟨_,O,h dt j _ l _,h dt j _ l _,h dt j _ l _,h dt j _ l _,h dt j _ W _,?_⟩;subst e;refine(dF (r.bt::m.size::g.size::f) (c2.ext (w8.N j)) V).bL j F λb' _ aC gb e v u=>⟨_,O,h j v _ l _,h j v _ l _,h j v _ l _,h j v _ W _,?_⟩;subst e;have z9:=j.aQ;have C8:=v.aQ;refine(O7 (B V) (iz.ext (w8.N u) c3) n.cD n.pJ qf).aP λaa X⟨P,H,e,gc,ag,s⟩=>⟨λc d=>s.bB c (u.lt (F c d)),P,e,h u s _ l _,h u s _ l _,h u s _ W _,?_⟩;intro aD;have ab:=x8.N (u.N s);have aE:=s.aQ;let⟨au,av⟩:=ag.ok n.cD n.pJ;have aA:=ag.1;have ai:bg (di (r.bt::m.size::g.size::f) X) a' q.aY:=(ga.cB (B V) V).le ((v.N s).eX);have aj:bg (di (r.bt::m.size::g.size::f) X) b' q.cW:=(gb.cB (B V) V).le s.eX;have ak:iz (di (r.bt::m.size::g.size::f) X) P H:=gc.cB eW.aP (B V) cH V;exact Gr.bU (h:=[.s .nil,.s .nil,.i 0,.i 0,.s .nil]) (j:=1) (w:=88) (o:=[.s dd,.s r]) (v:=⟨q.aY,q.cW,q.bP,q.aU,H⟩) oK.aP cH (ac.ext oK.aP ab) ((xM.N ab).fz []) ⟨a',b',P,O,ai,aj,ak⟩ V (L.ext ab) bO cH ⟨V,bO⟩ (λc d=>by have h1:=F c d;have A:=T c;simp only[aZ]at d A;rcases d with e|e|e|e<;>first|omega|(have:=A (by simp[e]);omega)|simp at e) λZ m' g' A f' z' q'=>ar Z m' _ g' A f'.ext ⟨q3,q4,by show 0<H.length;omega,by show H.length<=_;omega,au,av⟩
end
section
variable{S:ad}{d c:D}{b:Nat}{s:E}{l:List Instr}{x:Instr}
@[grind cases] structure Ee (S:ad) (m0 m:D) (eb:Nat) (s:E) (l:List Instr):Prop where
 bU:dJ m eb wF [.s s]
 gr:GIn (eb::S) m0 m s l
 up:m0.size<=eb
def Ee.ext{S:ad}{d c a:D}{b:Nat}{s:E}{l:List Instr}(h:Ee S d c b s l)(x:J c a):Ee S d a b s l:=⟨h.bU.ext x,h.gr.ext eW.aP x,h.up⟩
def Ee.ne{S:ad}{d c:D}{b:Nat}{s:E}{l:List Instr}(h:Ee S d c b s l):s.bt≠b:=h.gr.ne h.bU cH
def UA(S:ad)(d c:D)(b:Nat)(s:E)(P:List Instr->Prop)(f:D):Prop:=∃a e,Ee S d f b a e/\P e/\Fz [b,s.bt] c f/\(a.bt=s.bt\/c.size<=a.bt)
def vg{n q:E}(i:Ee S d c b s l)(A:d.size<=c.size)(F:bg (di (s.bt::b::S) c) n x.aO)(G:bg (di (s.bt::b::S) c) q x.fU)(j:l.length<=10^12):
 bJ dP 191 [vp b 0,inV x n q] c λM K=>M=vi (l.length:Nat)/\UA S d c b s (l++[x]=·) K:=by
 apply Co (b,0)
 simp -zeta only[dT]
 intro B
 obtain⟨h,U⟩:=pu B
 have f:=i.ext h
 have z:=f.bU.lt
 have Q:=i.bU.lt
 have T:=i.gr.cF
 refine⟨s,f.bU.dg 0,?_⟩
 intro L
 have C:=px L
 refine⟨bD (C.bB _ z) _,?_⟩
 have R:=vI A
 have g1:GIn (b::S) (c.extract 0 d.size) B s l:=Gr.de eW.aP f.gr (λD j=>bz j) V
 refine Gr.nI eW.aP cH g1 ((((J.Rv A).N h).fz [])) ⟨n,q,O,F.le h.eX,G.le h.eX⟩ V λr t v P N u=>?_
 have p:=f.bU.congr (u b z (uK f.ne))
 have I:=v.ne p cH
 refine⟨λa e=>?_,p.gK bO,?_⟩
 .simp at e;subst e
  rw[u c.size V V,C.bB _ V]
 intro k
 have y:dJ k b wF [.s r]:=dJ.aW (m:=t) p
 have o:∀a,a≠b->k[a]? =t[a]? :=λa e=>cw _ _ _ _ e
 have W:k.size=t.size:=bE _ _ _ _
 refine⟨λa e=>o a (by simp at e;omega),r,y.dg 0,?_⟩
 have w:GIn (b::S) d k r (l++[x]):=by
  refine Gr.de eW.aP (v.re eW.aP (Y:=[b]) ⟨V,λa e g=>o a (sp g)⟩ bO (by simp;exact I) λa e=>bz e) (λD j=>bz j) V
 have D:=w.aT cH
 have H:r.len=l.length+1:=by rw[D];simp
 refine⟨?_,r,_,⟨y,w,i.up⟩,O,⟨V,λa e g=>?_⟩,oh N.2⟩
 .rw[H,gJ];congr 1;omega
 .simp only[aZ,nm,GH,CL]at g
  rw[o a g.1,u a V g.2,h.bB a e]
def Xw{i:Nat}(h:Ee S d c b s l)(o:d.size<=c.size)(r:l[i]? =some x):
 bJ dP 240 [vp b 0,vi i] c λ_ K=>UA S d c b s (l.set i ⟨x.op,0,l.length,0,x.aO,x.fU⟩=·) K:=by
 apply Cn (b,0)
 simp -zeta only[dT]
 have G:=bC r
 have I:=h.gr.aT cH
 obtain⟨L,⟨q,t,rfl,E,F⟩,ni⟩:=h.gr.kL r
 have w:=ni 0 _ O;have y:=ni 1 _ O;have z:=ni 2 _ O;have A:=ni 3 _ O;have B:=ni 4 _ O;have C:=ni 5 _ O
 refine⟨s,h.bU.dg 0,V,V,_,w,_,y,_,z,_,A,_,B,_,C,?_⟩
 intro P j
 obtain⟨g,Q⟩:=pv j
 have f:=h.ext g
 have H:=f.ne
 have N:=h.gr.cF
 refine⟨s,f.bU.dg 0,s,f.bU.dg 0,V,V,?_⟩
 have g1:GIn (b::S) (c.extract 0 d.size) j s l:=Gr.de eW.aP f.gr (λv m=>bz m) (by rw[vI o];exact bY)
 rw[I]
 let⟨wr,D,M,p⟩:=Gr.eE (k:=i) (cs:=[.i x.op,.i 0,.i l.length,.i 0,.s q,.s t]) (a:=⟨x.op,0,l.length,0,x.aO,x.fU⟩) eW.aP g1 (((J.Rv o).N g).fz []) G ⟨q,t,O,E.le g.eX,F.le g.eX⟩
 refine⟨wr,?_⟩
 intro u
 have R:u.size=j.size:=bE _ _ _ _
 refine⟨λe n=>p e (by simp at n;omega),s,_,⟨f.bU.congr (p b (uK H)),Gr.de eW.aP D (λv m=>bz m) (by rw[vI o];exact bY),h.up⟩,O,⟨V,λe n m=>?_⟩,bz O⟩
 simp only[aZ,nm,GH,CL]at m
 have v:u[e]? =j[e]? :=p e m.2
 rw[v,g.bB e n]
end
section
variable{n a:Nat}
def qE(l b:List Instr)(n:Nat):Prop:=∃a,b=l++a/\(∀(i:Nat)(x:Instr),a[i]? =some x->Rx (l.length+i) x)/\Wx a/\a.length<=n
def qE.cX(l:List Instr):qE l l 0:=⟨[],bO,bO,λ_ h=>by simp at h,bY⟩
theorem qE.iQ{l b:List Instr}(h:qE l b n)(i:n<=a):qE l b a:=let⟨f,c,d,e,g⟩:=h;⟨f,c,d,e,V⟩
def qE.aT{l a:List Instr}(h:qE l a n):a.length<=l.length+n:=by obtain⟨b,rfl,_,_,d⟩:=h;simp;omega
def qE.N{l b c:List Instr}(h:qE l b n)(f:qE b c a):qE l c (n+a):=by
 obtain⟨i,rfl,k,d,o⟩:=h;obtain⟨j,rfl,m,e,p⟩:=f;refine⟨i++j,bO,λr x q=>?_,λx g=>?_,fu⟩
 .grind [Nat.lt_or_ge,List.length,List.getElem?_append_left,List.getElem?_append_right]
 .rcases bT.1 g with h|h
  .exact d x h
  .exact e x h
def qE.mE{l:List Instr}{x:Instr}(h:Rx l.length x)(c:x.aO.length<=10^12/\x.fU.length<=10^12):qE l (l++[x]) 1:=
 ⟨[x],O,λi y a=>by
  have:i=0:=by have:=bC a;simp at this;omega
  subst this;simp at a;subst a;exact h,λy b=>by simp at b;subst b;exact c,bO⟩
section
variable{S:ad}{d m c:D}{b:Nat}{s e:E}{l f:List Instr}
def Ee.j7(h:Ee S d m b s l)(e:J d m)(a:Fz [b,s.bt] m c):J d c:=by
 constructor<;>grind [Ee.gr,Gr.cF,Ee.up,Fz.ext,J.fz,E.bt,Fz.N,Fz.IK]
def WR(g:Fz [b,s.bt] m c)(d:e.bt=s.bt\/m.size<=e.bt):Le (di [s.bt,b] m) (di [e.bt,b] c):=mH λa f h=>by
 grind [Fz.bB]
def UA.fg{L:ad}(f:Fz [b,s.bt] m c)(d:∀a∈L,a<m.size/\a≠b/\a≠s.bt):gT L m c:=λa e=>f.bB a (d a e).1 cC
end
@[grind cases] structure YQ (S:ad) (mb m:D) (eb:Nat) (s:E) (l:List Instr) (cons first:E) (cl fl:ab):Prop where
 em:Ee S mb m eb s l
 x:J mb m
 j7:∀c∈S,c<m.size
 dV:bg (di [s.bt,eb] m) cons cl
 first:bg (di [s.bt,eb] m) first fl
 bB:fl.length=cl.length
 pJ:∀y∈fl,0<=y/\y<=900000000000
def YQ.ext{S:ad}{e m d:D}{b:Nat}{s:E}{l:List Instr}{cons first:E}{a c:ab}(h:YQ S e m b s l cons first a c)(x:J m d):YQ S e d b s l cons first a c:=
 ⟨h.em.ext x,h.x.N x,λf g=>x.lt (h.j7 f g),h.dV.le x.eX,h.first.le x.eX,h.bB,h.pJ⟩
def YQ.zV{S:ad}{e m d:D}{a:Nat}{s c:E}{o j:List Instr}{cons first:E}{f g:ab}(h:YQ S e m a s o cons first f g)(l:Ee S e d a c j)(b:Fz [a,s.bt] m d)(i:c.bt=s.bt\/m.size<=c.bt):YQ S e d a c j cons first f g:=
 ⟨l,h.em.j7 h.x b,λk n=>cr (h.j7 k n) b.aQ,h.dV.le (WR b i),h.first.le (WR b i),h.bB,h.pJ⟩
def ad5(f:af)(g:List jV)(x:eQ):Prop:=∀(S:ad)(a m:D)(c:Nat)(s:E)(l:List Instr)(cons first:E)(b h:ab)(e r d k:E),YQ S a m c s l cons first b h->WS f g.length True b.length x->b.length+4*x.w<=900000000000->l.length+6*x.w<=10^12->iD a e r f g->bg a d x.aO->rW a k x.dA->
 bJ dP 220 [vp c 0,.agg #[e.v,r.v],tK x d k,cons.v,first.v] m λ_ j=>UA S a m c s (λi=>qE l i (6*x.w)) j
def adm(f:af)(g:List jV)(b:Bk):Prop:=∀(S:ad)(a m:D)(d:Nat)(s:E)(l:List Instr)(cons first:E)(c h:ab)(e r t:E),YQ S a m d s l cons first c h->WB f g.length True c.length b->c.length+4*b.w<=900000000000->l.length+6*b.w<=10^12->iD a e r f g->iI a t b.bq->
 bJ dP 190 [vp d 0,.agg #[e.v,r.v],.agg #[t.v,vi b.bP],cons.v,first.v] m λ_ j=>UA S a m d s (λi=>qE l i (6*(b.w -1))) j
end
def xW{m:D}:bg m .nil []:=⟨O,bY,bO,bO⟩
def QW{ds:af}{rs:List jV}{bq:au}{aX:Int}(a:∀b∈bq,b.op=7\/b.op=8->ad5 ds rs b):adm ds rs (.mk bq aX):=by
 intro z mb N e ad ah cons first cl fl aD aW bn E0 aO a4 a5 hn hs
 have aP:=aO.cJ;rw[Bk.vT]at*;simp only[Bk.mZ,Bk.lV]at*;apply Ab (e,0);simp -zeta only[dT];intro ab ac;let⟨x2,hl⟩:=fV (a:=ab) (c:=ac) O O;have s1:=pz ab;have s2:ac.size=N.size+2:=cC;have aN:=hs.aT;have aw:=Gu bq;have bc:=jK bq;have a7:=E0.em.bU.lt;have bk:=E0.em.gr.cF;refine BC (j:=bq.length) (aN▸hs.kM) (λp cons first M=>∃o L A H,YQ z mb M e o L cons first A H/\A.length=cl.length+dc (bq.take p)/\qE ah L (6*sw (bq.take p))/\Fz [e,ad.bt] N M/\(o.bt=ad.bt\/ac.size<=o.bt)/\ac.size<=M.size) ⟨ad,ah,cl,fl,E0.ext x2,bO,(qE.cX ah).iQ (jh _),x2.fz _,bz O,bY⟩ ?_;rintro p cons first M aY μ hk ⟨o,L,A,H,Q,aK,ag,fz,a_,hM⟩ aA
 have a9:=ag.aT;have bf:=aw p;have r:=Q.em.gr.cF;refine dit (λk=>?_) λk=>?_
 .let⟨b,Z⟩:=dY bq p;let⟨pa,pk,I,aL,e0,e1,e2,e3,e4⟩:=hs.br Z;have bi:=ux Z;have bh:=vt Z;have bj:=eQ.pN b;have be:=aw (p+1);have a6:=xI (bq.take p);have bb:=jK (bq.take p);have Y:=aP.1 p b Z;rw[<-aK]at Y;have X:=Q.x;refine⟨V,V,_,X.aS e0,_,X.aS e1,_,X.aS e2,_,X.aS e3,_,X.aS e4,?_⟩;intro m3 s;have x4:J M s:=by grind [J.push,J.aW]
  have s4:s.size=M.size+1:=by grind [bE]
  have i:=Q.ext x4;have W:∀{R:D},s.size<=R.size->∀j∈[M.size,ab.size,N.size],j<R.size/\j≠e/\j≠o.bt:=cC;have kS:∀{y T:D},s.size<=y.size->J y T->gT [M.size,ab.size,N.size] y T:=λhz xx j K=>xx.bB j (W hz j K).1;have C:∀{y T:D},s.size<=y.size->J y T->∀ai,aS T M.size ai=aS y M.size ai:=λhz xx ai=>bD (xx.bB _ V) ai;have an:∀{R:D},s.size<=R.size->∀c∈o.bt::e::z,c<R.size:=λhz c a=>by
   simp only[aZ]at a;rcases a with f|f|f
   .omega
   .omega
   .have:=Q.j7 c f;have:=X.aQ;omega
  refine⟨λF=>∃g t,YQ z mb F e g t cons first A H/\qE L t (6*b.w)/\Fz [e,o.bt] s F/\(g.bt=o.bt\/s.size<=g.bt),⟨λh7=>?_,λn7=>⟨λaG=>?_,λaT=>⟨λaH=>?_,λaU=>?_⟩⟩⟩,?_⟩
  .simp only[eK,bQ]at h7;refine(a b (ba Z) h7 z mb s e o L cons first A H aD aW pa pk i Y V V hn I aL).aP λv m5⟨g,t,ae,p5,G,b5⟩=>⟨UA.fg G (W bY),g,t,i.zV ae G b5,p5,G,b5⟩
  .simp only[eK,bQ]at aG;refine(dF (o.bt::e::z) (I.ext i.x) V).aP λv m5⟨a',la,f,ga,ea,d⟩=>⟨kS bY d,a',f,C bY d _,?_⟩;subst ea;have m:=i.ext d;have u:=d.aQ;refine(vg (x:=⟨b.op,0,0,0,b.aO,[]⟩) m.em m.x.aQ (GI.cB ga (an bY) cC) xW V).aP λv P⟨ev,s6,l6,aj,p6,B,b6⟩=>⟨UA.fg B (W u),_,ev,s6,l6,m.zV aj B b6,?_,(d.fz _).N B,V⟩;subst p6;exact(qE.mE ⟨λk=>by simp only at k;omega,λk=>by simp only at k;omega⟩ ⟨by show b.aO.length<=_;omega,bO⟩).iQ V
  .simp only[eK,bQ]at aH;have a1:=Y.iU.mE V;let⟨E,am⟩:=dY b.aO 0;let⟨y0,y1⟩:=Y.iU.aO E (ba am);have a3:=I.aT;have c4:=(i.dV.le fJ);have f4:=(i.first.le fJ);have aJ:=c4.aT;have aQ:=f4.aT;have aM:=i.bB;let⟨cn,aB⟩:=dY A E.toNat;let⟨fn,al⟩:=dY H E.toNat;let⟨aR,a0⟩:=i.pJ fn (ba al);have F4:=f4.br al;refine⟨cH,V,E,(I.ext i.x).br am,y0,V,cn,c4.br aB,y0,V,fn,F4,?_⟩;refine(fX (e:=[]) (hn.bR.le (i.x.le.N ER)) hn.dj cn).aP λv m5⟨aF,bl,f,ay,ap,d⟩=>⟨kS bY d,aF,f,by rw[d.aS F4,F4],C bY d _,C bY d _,?_⟩;subst ap;have u:=d.aQ;have F3:=KD hn.dj cn;obtain⟨fk,aC⟩:∃fk:Nat,fn=fk:=⟨fn.toNat,V⟩;subst aC;refine(wz (S:=[]) bO ay fk V).aP λv P⟨aI,bm,f,ar,ak,h⟩=>⟨kS u h,aI,f,C u h _,C u h _,?_⟩;have z6:=h.aQ;refine(iH (S:=[]) bO ((I.ext (i.x.N (d.N h))).le ER) (ar.cB yD.aP bO cH (oh ak.2)) (oh ak.2)).aP λv m7⟨ao,aa,f,av,aE,q⟩=>⟨kS V q,ao,f,C V q _,?_⟩;have U:=(d.N h).N q;have w:=i.ext U;have z7:=q.aQ;have ax:GI (o.bt::e::z) P m7 ao aa:=GI.jS av;have a2:aa.length<=b.aO.length+3:=by rw[<-aE];simp;have:=ak.2;omega
   have az:0<aa.length:=cC;refine(vg (x:=⟨b.op,0,0,0,aa,[]⟩) w.em w.x.aQ (ax.cB (an V) V) xW V).aP λv m8⟨ev,s8,l8,aq,p8,f8,b8⟩=>⟨UA.fg f8 (W V),_,ev,s8,l8,w.zV aq f8 b8,?_,(U.fz _).N f8,V⟩;subst p8;exact(qE.mE ⟨λk=>by simp only at k;omega,λ_=>az⟩ ⟨by show aa.length<=_;omega,bO⟩).iQ V
  .refine(dF (o.bt::e::z) (I.ext i.x) V).aP λv m5⟨a',la,f,ga,ea,d⟩=>⟨kS bY d,a',f,C bY d _,C bY d _,C bY d _,?_⟩;subst ea;simp only[cZ,bd]at aT aU;have m:=i.ext d;have u:=d.aQ;have aa:b.op<=11:=by
    rcases Y.iU.op with k|k
    .exact k.2
    .omega
   refine(vg (x:=⟨b.op,(cons.len:Int),b.cG,b.cR,b.aO,[]⟩) m.em m.x.aQ (GI.cB ga (an bY) cC) xW V).aP λv P⟨ev,s6,l6,aj,p6,B,b6⟩=>⟨UA.fg B (W u),_,ev,s6,l6,m.zV aj B b6,?_,(d.fz _).N B,V⟩;subst p6;exact(qE.mE ⟨λk=>by simp only at k;omega,λk=>by simp only at k;omega⟩ ⟨by show b.aO.length<=_;omega,bO⟩).iQ V
  .rintro F ⟨g,t,m,p5,G,b5⟩;have u:=G.aQ;have ae:qE ah t (6*sw (bq.take (p+1))):=(ag.N p5).iQ V;have aq:Fz [e,ad.bt] N F:=(fz.cg x4).wE G λE r=>by
    simp only[aZ,nm,GH]at r⊢;grind
   have ar:g.bt=ad.bt\/ac.size<=g.bt:=V;have a2:=m.em.gr.cF;have al:∀j∈[M.size,ab.size,N.size],j<F.size:=cC;have av:=λj K=>Ar b j K;refine(mO b.op F).aP λv P⟨j,f,K,h⟩=>⟨λc a=>h.bB c (al c a),j,f,λht=>?_,λhf=>?_⟩
   .have hd:=av j K;rw[a8 ht]at hd;intro m7;have q:=px m7;have a1:=m.em.bU.lt;have z6:=h.aQ;have aa:∀c∈[g.bt,e],c<P.size:=λc a=>by simp at a;omega
    have aQ:bg (di [g.bt,e] m7) (.mk P.size 0 1 1) [0]:=bg.jY bG (l:=[0]) aa O O bO;have U:=h.N q;have w:=m.ext U;have a0:=w.dV.aT;refine(iH (S:=[g.bt,e]) (λc a=>q.lt (aa c a)) w.dV aQ cC).aP λv m8⟨aB,ax,f,aE,ao,B⟩=>⟨λc a=>B.bB c (q.lt (h.lt (al c a))),aB,f,?_⟩;intro m9;have d:=px m9;have z7:=q.aQ;have z8:=B.aQ;have am:∀c∈[g.bt,e],c<m8.size:=λc a=>by have:=aa c a;omega
    have aR:bg (di [g.bt,e] m9) (.mk m8.size 0 1 1) [0]:=bg.jY bG (l:=[0]) am O O bO;have E9:=w.ext (B.N d);have aM:=E9.bB;refine(iH (S:=[g.bt,e]) (λc a=>d.lt (am c a)) E9.first aR cC).aP λv az⟨aC,ay,f,aF,ap,aj⟩=>⟨λc a=>aj.bB c (d.lt (B.lt (q.lt (h.lt (al c a))))),aC,f,?_⟩;have ak:=E9.ext aj;have aI:bg (di [g.bt,e] az) aB ax:=(GI.cB aE (λc a=>q.lt (aa c a)) (by rw[<-ao];simp;omega)).le ((d.N aj).eX);have aJ:bg (di [g.bt,e] az) aC ay:=GI.cB aF (λc a=>d.lt (am c a)) (by rw[<-ap];simp;omega);refine aA V _ _ _ ⟨g,t,ax,ay,⟨ak.em,ak.x,ak.j7,aI,aJ,by rw[<-ao,<-ap];simp;omega,λE r=>?_⟩,by rw[<-ao];simp;omega,ae,aq.cg (((U.N B).N d).N aj),ar,?_⟩
    .rw[<-ap]at r;rcases bT.1 r with r|r
     .exact m.pJ E r
     .simp at r;omega
    grind [J.aQ]
   .have hd:=av j K;rw[aV (by simp[hf])]at hd;exact aA V _ _ _ ⟨g,t,A,H,m.ext h,V,ae,aq.cg h,ar,oh h.aQ⟩
 .have b:p=bq.length:=V;subst b;rw[fB]at ag;exact⟨o,L,Q.em,ag.iQ V,fz,V⟩
section
variable{m:D}
def Kh(m:D)(s:E):Prop:=s.len<=s.cap/\∀k:Nat,k<s.len->∃v:Int,0<=v/\v<=255/\aS m s.bt (s.off+k*1)=some (.int .u8 v)
def MY{cD:E}(h:Kh m cD):bJ dP 44 [cD.v] m λv i=>∃a,v=vp m.size 0/\Rd m.size a 0 i/\J m i:=by
 let⟨g,f⟩:=h;apply FU;have R:∀a:E,Kh m a->∃l,vp m.size 0=vp m.size 0/\Rd m.size l 0 (m.push (.cells (dh [.s a,.i 0]) uB))/\J m (m.push (.cells (dh [.s a,.i 0]) uB)):=λa⟨n,o⟩=>by
  refine⟨a,O,⟨⟨0,dJ.push _ _ _,dN _,bO⟩,n,λk c=>?_⟩,J.push _ _⟩;let⟨v,d,e,b⟩:=o k c;have s:=pI b;exact⟨v,d,e,gY.2 ⟨fu,(J.push m _).aS b⟩⟩
 refine⟨λh=>?_,λ_=>R cD ⟨g,f⟩⟩;simp only[bh]at h;refine⟨cH,cH,V,?_⟩;refine R _ ?_;cases cD with
 |nil=>simp at h
 |Ec j p sp=>simp at h
 |mk j p t q=>
  simp only[E.lU,E.Tk]at h g;refine⟨by simp[E.cut];omega,λk c=>?_⟩;have r:k<2000:=by simpa[E.cut]using c
  let⟨v,d,e,b⟩:=f k fu;exact⟨v,d,e,by simpa[E.cut]using b⟩
def Po(f:Nat)(b:ap)(m:D)(S:ad)(Q:Ex->Prop):Prop:=bJ dP f b m λv a=>∃s e,v=.agg #[vi e.op,vi e.cG,s.v]/\jr (di S a) s e.dA/\Q e/\J m a
def FH(S:ad)(n:Int)(m:D):Po 287 [vi n] m S (.mk 0 n []=·):=by
 apply JL;simp -zeta only[dT];intro a b d;have c:J m b:=(J.push m _).N (J.push a _);exact⟨_,.mk 0 n [],O,pZ,O,c.aW bY _ _⟩
def pM(S:ad)(n:Int)(m:D):Po 322 [vi n] m S (.mk 12 n []=·):=by
 apply If;simp -zeta only[dT];intro a b d;have c:J m b:=(J.push m _).N (J.push a _);exact⟨_,.mk 12 n [],O,pZ,O,c.aW bY _ _⟩
def Oc{S:ad}{s:E}{dA:ax}(h:jr (di S m) s dA)(a cG:Int):Po 320 [vi a,vi cG,s.v] m S (.mk a cG dA=·):=by
 apply OW;simp -zeta only[dT];intro d c;have b:=py c;exact⟨s,.mk a cG dA,O,h.le b.eX,O,b⟩
def Gg{a P:Nat}{b:E}(q:Rd a b P m)(x:P+4<=10^16):bJ dP 339 [vp a 0] m λv h=>∃k:Int,v=vi k/\Rd a b (P+4) h/\Fz [a] m h:=by
 apply JX (a,0);refine(dW q V 6).aP λv y⟨d,e,_,_,r,l⟩=>⟨d,e,?_⟩;refine(dW r V 6).aP λv z⟨f,e,_,_,s,n⟩=>⟨f,e,?_⟩;refine(dW s V 40).aP λv w⟨g,e,_,_,c,o⟩=>⟨g,e,?_⟩;intro i;have j:=px i;have u:bg (di [a] i) (.mk w.size 0 10 10) [d,f,0,1,2,-1,3,g,999,-998]:=bg.jY bG (by have:=c.lt;simpa using this) O O bO;refine(om (c.ext j) V u bO).aP λv A⟨k,e,_,t,p⟩=>⟨k,e,k,O,t,((l.N n).N o).cg j|>.N p⟩
end
section
variable{m:D}
def afG(e:Ex):Prop:=∀(m:D)(t:E),jr m t e.dA->∀left:Int,left<=600->xC 324 [.agg #[vi e.op,vi e.cG,t.v],vi left] m λk=>k= -1\/0<=k/\k+e.n=left
def MZ:∀e:Ex,afG e:=by
 refine Ex.ind ?_;intro F cG dA r m G b left z;simp only[Ex.acv,Ex.aaA,Ex.Yn,Ex.Zc]at*;apply FV;simp -zeta only[dT];intro a;have f:=px a;have o:∀i∈[m.size],i<a.size:=by simp[a]
 have d:∀{M:D},J m M->∃k:Int,vi (-1:Int)=vi k/\(k= -1\/0<=k/\k+((1+en dA:Nat):Int)=left)/\J m M:=cC;refine⟨λ_=>d f,λl=>?_⟩;simp only[dK]at l;have q:=b.aT;rw[dk (b:=left -1) V V];refine gN (n:=dA.length) (q▸b.kM) (λk(v:Int) M=>J a M/\0<=v/\v+1+en (dA.take k)=left) ⟨dt,V,bO⟩ ?_;rintro k v M I μ y ⟨g,K,L⟩ E
 have u:=f.N g;refine⟨λh=>?_,λh=>?_⟩
 .simp only[bh]at h;let⟨e,c⟩:=dY dA k;let⟨s,p,j,g1,g2⟩:=b.br c;refine⟨V,V,_,u.aS j,_,u.aS g1,_,u.aS g2,?_⟩;refine(r e (ba c) M s (jr.le u.le p) v V).bL g o λC B A t H=>⟨_,O,λ_=>d (u.N t),λw=>?_⟩;grind [decide_eq_false_iff_not,Pb]
 .grind [decide_eq_false_iff_not,eY]
def FX{t:E}{e:Ex}(h:jr m t e.dA):xC 293 [.agg #[vi e.op,vi e.cG,t.v]] m λk=>k= -1\/k=e.n/\e.n<=30:=by
 apply JR;simp -zeta only[dT];intro a;have b:=px a;have g:∀d∈[m.size],d<a.size:=by simp[a]
 refine(MZ e a t (jr.le b.le h) 30 cH).bL (J.cX a) g λn j i c l=>⟨_,O,λ_=>⟨-1,O,bz O,b.N c⟩,λf=>?_⟩;simp only[dK]at f;rw[dk (b:=30 -n) V V];exact⟨_,O,bH ⟨V,V⟩,b.N c⟩
def Q7{s:E}{l:ab}(h:bg m s l)(e:Int):xC 286 [s.v,vi e] m λk=>-1<=k/\k<l.length:=by
 apply JU;have c:=h.aT;refine iC (n:=l.length) (c▸h.kM) (λ_ M=>J m M) dt ?_;rintro k M I μ g a f
 refine⟨λb=>?_,λ_=>⟨-1,O,⟨V,V⟩,a⟩⟩;simp only[bh]at b;let⟨x,d⟩:=dY l k;exact⟨V,V,x,(h.ext a).br d,λ_=>⟨k,O,⟨V,V⟩,a⟩,λ_=>f V _ a⟩
def QT(f:E)(m:D):bJ dP 201 [f.v] m λv a=>v=.agg #[f.v]/\J m a:=by
 apply QS;simp -zeta only[dT];intro b c;exact⟨trivial,(J.push m _).aW bY _ _⟩
def Xy{p:E}(r:Int):bJ dP 257 [p.v,vi r] m λv a=>v=.agg #[p.v,vi r,vi 0,vi 0,E.v .nil]/\J m a:=by
 apply Q8;simp -zeta only[dT];intro b c;exact⟨trivial,(J.push m _).aW bY _ _⟩
end
section
variable{b:ad}{m:D}{c d p:E}{a:av}
def LJ(v:∀a∈b,a<m.size){l:ab}(h:bg m c l)(w:l.length<=10^12)(t:Int):oC 340 [c.v,vi t] m b λa=>(∀y∈a,0<=y/\y<(l.length:Int))/\a.length<=l.length:=by
 apply DV;intro B;have q:=h.aT;refine gN (n:=l.length) (q▸h.kM) (λk s M=>J m M/\∃a,GI b m M s a/\(∀y∈a,0<=y/\y<(l.length:Int))/\a.length<=k) ⟨J.push m _,[],GI.gF b m,bO,bY⟩ ?_;rintro k s M I μ z ⟨e,a,g,f,A⟩ j
 refine⟨λi=>?_,λi=>⟨s,a,O,g,⟨f,V⟩,e⟩⟩;simp only[bh]at i;let⟨x,r⟩:=dY l k;refine⟨V,V,x,(h.ext e).br r,λ_=>?_,λ_=>j V _ _ ⟨e,a,g,f,V⟩⟩;intro C;exact GI.nI g (e.fz []) V λD u p o _ _=>j V _ _ ⟨o.ext,_,p,λy d=>by
  rcases bT.1 d with d|d
  .exact f y d
  .simp at d;omega,fu⟩
def ZT(m:D)(b:ae)(p:dS):Prop:=∃a x y z,b=[.s a,.i p.bP,.i x,.i y,.s z]/\bg m a p.aY
abbrev tU(m:D)(s:E)(l:av):Prop:=fY m 5 (ZT m) s l
theorem ZT.le{m b:D}(h:Le m b){a:ae}{p:dS}:ZT m a p->ZT b a p:=λ⟨c,x,y,z,d,e⟩=>⟨c,x,y,z,d,e.le h⟩
def tU.le{m a:D}(b:Le m a){s:E}{l:av}(h:tU m s l):tU a s l:=by grind [fY.le,ZT.le]
theorem tU.br{s:E}{l:av}(h:tU m s l){k:Nat}{p:dS}(d:l[k]? =some p):∃a,bg m a p.aY/\aS m s.bt (s.off+k*5)=some a.v/\aS m s.bt (s.off+k*5+1)=some (vi p.bP):=by
 obtain⟨e,⟨a,x,y,z,rfl,c⟩,b⟩:=h.kv k p d;exact⟨a,c,b 0 _ O,b 1 _ O⟩
def ClQ(b:af)(a:av)(t y:Int):Prop:=∃(f:Nat)(q:dS),y=f/\a[f]? =some q/\0<q.aY.length/\(0<t->∃d∈b,d.dV.length=0/\q.aY.getLast?=some d.qC/\q.bP=d.to)
def CY(hS:∀j∈b,j<m.size){g:af}(hd:dw m d g)(ht:eT g)(o:tU m p a)(hf:a.length<=1000)(t:Int):oC 346 [.agg #[d.v,p.v],vi t] m b λc=>(∀y∈c,ClQ g a t y)/\c.length<=a.length:=by
 apply Ht;simp -zeta only[dT];intro e I;have K:=px e;have E:∀j∈[m.size],j<e.size:=by simp[e]
 have R:GI b e I (.mk e.size 0 0 0) []:=GI.gF b e;have x2:=px I;have Z:=o.aT;refine gN (n:=a.length) (Z▸o.kM) (λk s M=>J e M/\∃c,GI b e M s c/\(∀y∈c,ClQ g a t y)/\c.length<=k) ⟨x2,[],R,bO,bY⟩ ?_;rintro k s M ab μ hk ⟨w,c,h,i,ad⟩ q
 have u:=K.N w;refine⟨λD=>?_,λD=>⟨s,c,O,h.de (λ_ C=>C) K.aQ,⟨i,V⟩,u⟩⟩;simp only[bh]at D;let⟨r,G⟩:=dY a k;let⟨z,l,A,P⟩:=o.br G;have ac:=l.aT;have ae:=l.kM;refine⟨V,V,_,u.aS A,λS=>?_,λ_=>q V _ _ ⟨w,c,h,i,V⟩⟩;simp only[bh]at S;rw[dk (b:=(z.len:Int) -1) V V];let⟨y,H⟩:=dY r.aY (((z.len:Int) -1).toNat);refine⟨V,V,_,u.aS A,V,V,y,(l.ext u).br H,V,V,_,u.aS P,?_⟩;refine(Fj (hd.le u.le) ht y r.bP).bL w E λah m3 F L v=>⟨_,O,λY=>?_,λ_=>q V _ _ ⟨v,c,h.ext L,i,V⟩⟩;intro m4;refine GI.nI (h.ext L) (v.fz []) V λai M' Q B _ _=>⟨J.sY (v.cz _) B.ext E,q V _ _ ⟨B.ext,_,Q,λaa f=>?_,fu⟩⟩;rcases bT.1 f with f|f
 .exact i aa f
 .simp at f Y;refine⟨k,r,f,G,V,λC=>?_⟩;rcases F with F|⟨ag,N,_,X,T,U,W⟩
  .omega
  .refine⟨N,ba X,T,?_,W.symm⟩;rw[List.getLast?_eq_getElem?,U,<-H];congr 1;omega
def uv{j:af}{v:ab}(hd:dw m d j)(k:eT j)(q:tU m p a)(o:a.length<=1000)(r:bg m c v)(t:Int):tn 341 [.agg #[d.v,p.v],c.v,vi t] m:=by
 apply JA;simp -zeta only[dT];intro e;have g:=px e;have f:∀n∈[m.size],n<e.size:=by simp[e]
 refine(qR (hd.le g.le) k t).jS.bL (J.cX e) f λl x h _=>⟨_,O,λ_=>rA (g.N h),λ_=>?_⟩;have b:=g.N h;refine(CY (b:=[]) bO (hd.le b.le) k (tU.le b.le q) o t).bL h f λA w y _ _ i s=>⟨_,O,λ_=>rA (b.N i),λ_=>?_⟩;exact(fI (r.ext (b.N i)) t).jS.bL s f λl z u _=>⟨_,O,rA ((b.N i).N u)⟩
end
def QQ{a P:Nat}{p:E}{m:D}(h:Rd a p P m)(R:P+1<=10^16){q v x:E}{g:af}{r:av}{M:ab}(hd:dw (di [a] m) q g)(I:eT g)(H:tU (di [a] m) v r)(B:r.length<=1000)(K:bg (di [a] m) x M):
 bJ dP 334 [vp a 0,.agg #[q.v,v.v],x.v] m λw u=>∃k:Int,w=vi k/\(k=1\/0<=k/\k<=4/\k<=g.length)/\Rd a p (P+1) u/\Fz [a] m u:=by
 apply Jy (a,0)
 simp -zeta only[dT]
 intro o d
 have W:=pz o
 have N:=px o
 have y:=px d
 have z:J m d:=N.N y
 have T:=h.lt
 have t:∀c∈[m.size],c<d.size/\c∉[a]:=λc l=>by have:=y.aQ;simp at l⊢;omega
 have L:bg (di [a] d) (.mk o.size 0 7 7) [1,1,3,0,2,4,3]:=bg.jY bG fu O O bO
 have S:=hd.aT
 refine(om (h.ext z) V L bO).aP λw e⟨k,A,C,j,i⟩=>⟨i.fg t,k,A,?_⟩
 have b:Fz [a] m e:=(z.fz _).N i
 have s:0<=k/\k<=4:=by simp at C;omega
 refine⟨λ_=>⟨1,O,bz O,j,b⟩,λG=>?_⟩
 simp only[dK]at G
 have n:Le (di [a] m) e:=(b.eX λ_ h=>h).N fJ
 have F:∀c∈[m.size],c<e.size:=λc l=>cr (t c l).1 i.aQ
 refine(uv (hd.le n) I (tU.le n H) B (K.le n) k).bL (J.cX e) F λQ U f _=>⟨_,O,λ_=>⟨1,O,bz O,j.ext f,b.cg f⟩,λ_=>⟨k,O,bH ⟨s.1,s.2,V⟩,j.ext f,b.cg f⟩⟩

section
variable{t:Int}{x:Ex}
def Px:af:=[⟨0,0,[[],[0,1]]⟩,⟨0,0,[]⟩,⟨0,0,[[],[3,0,3]]⟩]
def Yp:af:=[⟨0,0,[[1,3]]⟩,⟨1,0,[]⟩,⟨0,0,[[1,1,0],[0],[3]]⟩,⟨0,1,[]⟩]
def wc:List af:=Px::Yp.map λd=>Px++[d]
def UL:List (ab×Int):=[([],0),([1],0),([1,1],1),([1],1),([1,0],1),([2,1],1),([1,1],0),([3],0),([0],1),([0,1],1),([3,0],3),([3],1),([1,3,0],0),([0],0),([0,0],0),([1,0],0)]
@[grind cases] structure GP (ds:af) (fs:av):Prop where
 ds:ds∈wc
 iY:0<fs.length
 pP:fs.length<=4
 eR:∀q∈fs,(q.aY,q.bP)∈UL
def Lo(t:Int):Prop:=t=0\/t=1\/t=3
instance(t:Int):Decidable (Lo t):=inferInstanceAs (Decidable (_\/_))
def Ty(b:af)(t:Int):Prop:=0<=t/\t<=(b.length:Int)
instance(b:af)(t:Int):Decidable (Ty b t):=inferInstanceAs (Decidable (_/\_))
section
variable{b:af}{e:av}
theorem tV:∀b∈wc,3<=b.length/\b.length<=4:=cH
def WC:∀b∈wc,∀t∈[(0:Int),1,2,3,4],∀c∈(cY b t).take 2,((cY b t).head?=some c\/t∉da b c)->(da b c).length<=3/\(∀f∈da b c,Lo f)/\(Lo t->(da b c).length=0):=cH
def XU:∀b∈wc,0<(cY b 1).length/\0<(cY b 3).length/\(cY b 0).length=0:=cH
def Wz:∀b∈wc,∀d∈b,d.dV.length=0->∀s∈UL,s.1.getLast?=some d.qC->s.2=d.to->∀f∈s.1.dropLast,Lo f:=cH
theorem So:∀b∈wc,cY b 1=[0,1]/\cY b 3=[2,3]/\da b 0=[]/\da b 1=[0,1]/\da b 2=[]/\da b 3=[3,0,3]:=cH
def En:∀b∈wc,(∀t∈[(0:Int),1,2,3,4],∀c∈cY b t,(da b c).length<=3/\∀f∈da b c,Ty b f)/\(∀t∈[(0:Int),1,2,3,4],(cY b t).length<=3)/\(∀d∈b,Ty b d.qC):=cH
def WA:∀b∈wc,∀t∈[(1:Int),3,4],(t:Int)<=b.length->(∀d∈b[t.toNat -1]?,d.dV.length≠0)->0<(cY b t).length:=cH
def Bu:∀s∈UL,s.1.length<=3/\(∀t∈s.1,0<=t/\t<=3)/\0<=s.2/\s.2<=3:=cH
def abp(a:0<=t)(b:t<=4):t∈[(0:Int),1,2,3,4]:=fu
def Ty.aet(hd:b∈wc)(h:Ty b t):t∈[(0:Int),1,2,3,4]:=abp h.1 (Yx (tV b hd) h.2)
def GP.ty(h:GP b e)(a:0<=t)(c:t<=3):Ty b t:=⟨a,oh (tV b h.ds)⟩
theorem Lo.ty(hd:b∈wc)(h:Lo t):Ty b t:=by have:=tV b hd;unfold Lo at h;constructor<;>omega
end
def ZV:∀b∈wc,∀d∈b,0<d.dV.length->d.dV.length<=3/\d.qC=0/\d.to=0/\∀f∈d.dV,f.length<=3/\∀t∈f,0<=t/\t<=(b.length:Int):=cH
def ZW:∀b∈wc,∀k∈List.range b.length,∀d∈b[k]?,d.dV.length=0->(∀e∈b.take k,¬(e.dV.length=0/\e.qC=d.qC/\e.to=d.to))/\Ty b d.qC/\Ty b d.to:=cH
def xE{b:af}(h:b∈wc):eT b:=
 ⟨(tV b h).2,λk d a=>⟨ZV b h d (ba a),ZW b h k (rf.2 (bC a)) d a⟩⟩
@[grind cases] structure XF (ds:af) (nf a:Nat) (op cG:Int) (n:Nat):Prop where
 o:0<=op/\op<=13
 var:op=12->0<=cG/\cG<(a:Int)
 Nv:op=13->n=2
 afk:op=7->n=3
 lZ:op=8->n=1+(cY ds cG).length/\0<(cY ds cG).length
 jt:op=9->0<=cG/\cG<(nf:Int)
def xb(b:af)(c cG:Int):Nat->Nat
 |0=>0
 |i+1=>if c=13 then 1 else GK b c cG i
inductive WX(b:af)(d:Nat):Nat->Ex->Prop
 |mk {a:Nat} {c cG:Int} {dA:ax} (iU:XF b d a c cG dA.length) (hk:∀(i:Nat)(e:Ex),dA[i]? =some e->WX b d (a+xb b c cG i) e):WX b d a (.mk c cG dA)
variable{b:af}{d a:Nat}{c cG:Int}{dA:ax}
def WX.cJ{e:Ex}(h:WX b d a e):XF b d a e.op e.cG e.dA.length/\∀(i:Nat)(x:Ex),e.dA[i]? =some x->WX b d (a+xb b e.op e.cG i) x:=by
 cases h with
 |mk iU c=>exact⟨iU,c⟩
def afo(a:c≠13)(d:c≠8)(i:Nat):xb b c cG i=0:=by
 cases i with
 |zero=>rfl
 |succ i=>show(if c=13 then 1 else GK b c cG i)=0;rw[aV a,Pz d]
theorem WX.iU(k:0<=c/\c<=11)(g:c=7->dA.length=3)(f:c≠8)(i:c=9->0<=cG/\cG<(d:Int))(j:∀e∈dA,WX b d a e):WX b d a (.mk c cG dA):=
 .mk ⟨⟨V,V⟩,λh=>V,λh=>V,g,λh=>absurd h f,i⟩ λl e h=>by rw[afo V f];exact j e (ba h)
def WX.qt(n:Int):WX b d a (.mk 0 n []):=by grind [WX.iU]
def WX.var(h:0<=cG/\cG<(a:Int)):WX b d a (.mk 12 cG []):=.mk ⟨cH,λ_=>h,λh=>V,λh=>V,λh=>V,λh=>V⟩ bO
def WX.lt{y:Ex}(e:WX b d a x)(f:WX b d (a+1) y):WX b d a (.mk 13 0 [x,y]):=
 .mk ⟨cH,λh=>V,λ_=>O,λh=>V,λh=>V,λh=>V⟩ λi g c=>by
  rcases i with _|_|i
  .simp at c;subst c;exact e
  .simp at c;subst c;exact f
  .simp at c
theorem WX.mt{l:ax}(k:WX b d a x)(n:l.length=(cY b cG).length)(m:0<l.length)(j:∀(i:Nat)(e:Ex)(f:Int),l[i]? =some e->(cY b cG)[i]? =some f->WX b d (a+(da b f).length) e):WX b d a (.mk 8 cG (x::l)):=
 .mk ⟨cH,λh=>V,λh=>V,λh=>V,λ_=>⟨fu,V⟩,λh=>V⟩ λi e c=>by
  rcases i with _|i
  .simp at c;subst c;exact k
  .simp at c;let⟨f,g⟩:=dY (cY b cG) i (oh (bC c));have:=j i e f c g;show WX b d (a+GK b 8 cG i) e;grind [Py]
end
end Go.Proofs.YtbbbdejieenniaaGreat
