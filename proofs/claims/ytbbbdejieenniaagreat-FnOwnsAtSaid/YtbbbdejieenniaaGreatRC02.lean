/- Part of a proof. -/
import Derived.Test.YtbbbdejieenniaaGreatRC01
set_option linter.all false
set_option maxHeartbeats 8000000
set_option maxRecDepth 100000
namespace Go.Proofs.YtbbbdejieenniaaGreat
open Go.Vc
section
variable{w:Int}{r:ab}
structure dt where
 bS:Int
 jx:Int
 bJ:ab
abbrev ah:=List dt
structure bW where
 fP:Int
 pc:Int
 bH:Int
 aU:ab
 bI:ab
 cC:ab
abbrev an:=List bW
structure St where
 eC:Int
 iQ:Int
 dg:Int
 dL:Int
 cw:ab
 aR:ah
 bq:an
def bt(l:ab)(i:Int):Int:=l.getD i.toNat 0
def gX(l:ab)(i:Int)(v:Int):ab:=l.set i.toNat v
def ix(w:Int):Nat:=(w -1000).toNat
def lg(w:Int):Prop:=-999<=w/\w<=999
def jq(h:ah)(a:Nat):Prop:=∃c,h[a]? =some c/\0<c.bS
def iI(h:ah)(w:Int):Prop:=1000<=w/\jq h (ix w)
def vK(h:ah)(w:Int):Prop:=lg w\/iI h w
def kW:dt:=⟨0,0,[]⟩
def bz(h:ah)(w:Int):dt:=(h[ix w]?).getD kW
def afk:eE:=⟨[],[],0,0,[]⟩
def dG(a:da)(n:Int):eE:=(a.di[n.toNat]?).getD afk
def cF(a:da):Int:=(gR a.bT).length
def iW:ab->Nat->Int
 |[],_=>0
 |w::b,a=>(if w=1000+(a:Int)then 1 else 0)+iW b a
def jz:ah->Nat->Int
 |[],_=>0
 |c::h,a=>iW c.bJ a+jz h a
def fA:ab->ab->Nat->Int
 |r::c,o::b,a=>(if r=1000+(a:Int)then o else 0)+fA c b a
 |_,_,_=>0
def jX:an->Nat->Int
 |[],_=>0
 |f::b,a=>fA f.aU f.bI a+jX b a
def eU:an->Nat->Int
 |[],_=>0
 |f::b,a=>iW f.cC a+eU b a
def lA(a:da)(x:Instr)(k:Nat):Bool:=(dG a x.cE).df.any (λy=>y==(k:Int))
def jV(a:da)(x:Instr):Nat->ab->ab
 |_,[]=>[]
 |k,r::b=>if lA a x k then jV a x (k+1) b else r::jV a x (k+1) b
def fJ(a:da)(x:Instr):Nat->ab->ab
 |_,[]=>[]
 |k,r::b=>if lA a x k then r::fJ a x (k+1) b else fJ a x (k+1) b
def cO(a:da)(x:Instr):ab:=
 if x.op=15\/x.op=6\/x.op=10\/x.op=11\/x.op=18\/x.op=23 then x.aO
 else if x.op=16\/x.op=17 then x.aO.take 1
 else if x.op=9\/x.op=24 then jV a x 0 x.aO
 else[]
def cL(aU bI:ab):ab->ab
 |[]=>bI
 |r::a=>cL aU (if 1000<=bt aU r then gX bI r (bt bI r -1)else bI) a
def dQ(f:bW)(a:ab):ab:=a.map (bt f.aU)
def oC(l:ab):ab:=l.filter (λw=>decide (1000<=w))
def oH(h:ah)(a:ab):Prop:=∀w∈a,1000<=w->(bz h w).bS+iW a (ix w)<=999999
def FX(h:ah)(f:bW)(x:Instr):Prop:=
 let w:=bt f.aU (bt x.aO 0)
 iI h w/\oC (bz h w).bJ=dQ f (x.aO.drop 1)/\((bz h w).bS=1\/oH h (bz h w).bJ)/\(x.op=17->bt f.cC (bt x.aO 0)=0)
def zO(a:da)(h:ah)(w:Int):Prop:=
 iI h w/\0<=(bz h w).jx -cF a/\(bz h w).jx -cF a<a.di.length/\
  (dG a ((bz h w).jx -cF a)).aY.length=(bz h w).bJ.length+1/\(dG a ((bz h w).jx -cF a)).df.length=0/\
  ((bz h w).bS=1\/oH h (bz h w).bJ)
def JW(h:ah)(f:bW)(x:Instr):Prop:=
 x.dh≠0->bt f.cC (x.dh -1)≠0->(bz h (bt f.cC (x.dh -1))).bJ.length=x.aO.length
def Pl(a:da)(h:ah)(f:bW)(x:Instr):Prop:=∀r∈fJ a x 0 x.aO,1000<=bt f.aU r->iI h (bt f.aU r)
def Yd(l:ab):Prop:=∀n∈l,n=0
@[grind cases] structure pb (im:da) (s:St) (f:bW) (x:Instr) (bI:ab):Prop where
 nn:∀o∈bI,0<=o
 bH:lL x.op->bt bI x.bH<=0
 oL:(x.op=1\/x.op=2\/x.op=3\/x.op=4\/x.op=5\/x.op=20)->∀r∈x.aO,bt f.aU r<1000
 kC:x.op=6->JW s.aR f x
 df:(x.op=9\/x.op=24)->Pl im s.aR f x
 ov:(x.op=24\/x.op=23)->Yd bI/\Yd f.cC
 tT:x.op=23->1<s.bq.length\/bt f.aU (bt x.aO 0)<1000
 apply:x.op=11->zO im s.aR (bt f.aU (bt x.aO 0))
 dup:x.op=14->iI s.aR (bt f.aU (bt x.aO 0))/\(bz s.aR (bt f.aU (bt x.aO 0))).bS<999999
 Bc:x.op=15->1000<=bt f.aU (bt x.aO 0)
 Qi:(x.op=16\/x.op=17)->FX s.aR f x
 tL:x.op=19->iI s.aR (bt f.aU (bt x.aO 0))/\x.cE<(bz s.aR (bt f.aU (bt x.aO 0))).bJ.length
 xS:x.op=21->iI s.aR (bt f.aU (bt x.aO 0))/\(bz s.aR (bt f.aU (bt x.aO 0))).jx∈cX im.bT x.cE
def J4(n:Int):Int:=if n< -999 then -999 else if 999<n then 999 else n
def Tw(c a b:Int):Int:=
 if c=1 then J4 (a+b)else if c=2 then J4 (a -b)else if c=3 then J4 (a*b)else if c=4/\a<b then 1 else 0
def fF:ah->Nat
 |[]=>0
 |c::h=>if c.bS=0 then 0 else fF h+1
def kC(h:ah)(a:Nat)(c:dt):ah:=if a=h.length then h++[c]else h.set a c
def qv(h:ah)(w:Int):ah:=h.set (ix w) {bz h w with bS:=(bz h w).bS+1}
def iU(h:ah)(w:Int):ah:=h.set (ix w) {bz h w with bS:=(bz h w).bS -1}
def kV(h:ah):ab->ah
 |[]=>h
 |w::a=>kV (qv h w) a
def lK(h:ah):Nat->Nat
 |0=>0
 |n+1=>match h[n]? with
  |some c=>if c.bS=0 then lK h n else n+1
  |none=>lK h n
def pG(h:ah):ah:=h.take (lK h h.length)
def DV:ah->Nat
 |[]=>0
 |c::h=>(if 0<c.bS then c.bS.toNat+c.bJ.length else 0)+DV h
def mr:∀{e:ah}{f:Nat}{b d:dt},e[f]? =some b->DV (e.set f d)+(if 0<b.bS then b.bS.toNat+b.bJ.length else 0)=DV e+(if 0<d.bS then d.bS.toNat+d.bJ.length else 0)
 |[],f,b,d,e=>by simp at e
 |i::e,0,b,d,g=>by simp at g;subst g;simp only[ni,DV];omega
 |i::e,f+1,b,d,g=>by
  have:=mr (e:=e) (f:=f) (b:=b) (d:=d) cB;grind [DV]
theorem dz{h:ah}(b:iI h w):h[ix w]? =some (bz h w)/\0<(bz h w).bS:=by
 obtain⟨_,d,a,c⟩:=b;simp[bz,a,c]
open Classical in
noncomputable def jK (h:ah) (c:ab):ah:=
 match c with
 |[]=>h
 |w::r=>
  if b:iI h w then
   if a:(bz h w).bS=1 then jK (h.set (ix w) kW) ((bz h w).bJ.reverse++r)
   else jK (iU h w) r
  else jK h r
termination_by DV h+c.length
decreasing_by
 .let⟨e,a⟩:=dz b
  have:=mr (d:=kW) e
  simp only[kW,bn a]at this
  simp[kW]
  simp at this
  omega
 .let⟨e,a⟩:=dz b
  have b:=mr (d:={bz h w with bS:=(bz h w).bS -1}) e
  simp only[bn a]at b
  rw[bn V]at b
  simp[iU]
  omega
 .simp
def uq(h:ah):jK h []=h:=by rw[jK]
def ur{h:ah}(b:iI h w)(a:(bz h w).bS=1):jK h (w::r)=jK (h.set (ix w) kW) ((bz h w).bJ.reverse++r):=by
 grind [jK]
def sF{h:ah}(b:iI h w)(a:(bz h w).bS≠1):jK h (w::r)=jK (iU h w) r:=by
 grind [jK]
def sG{h:ah}(a:¬iI h w):jK h (w::r)=jK h r:=by
 rw[jK,dif_neg a]
def bW.cG(f:bW)(r w o:Int):bW:={f with aU:=gX f.aU r w,bI:=gX f.bI r o}
def iV(w:Int):Int:=if 1000<=w then 1 else 0
def fe(bI:ab):ab->ab
 |[]=>bI
 |r::a=>fe (gX bI r (bt bI r+1)) a
def eP(n:Nat):ab:=List.replicate n 0
def fI(df:ab):Nat->ab->ab
 |_,[]=>[]
 |k,w::a=>(if df.any (λy=>y==(k:Int))then 0 else iV w)::fI df (k+1) a
def cz(a:da)(g c:Int)(b:ab):bW:=
 ⟨g,0,c,b++eP ((dG a g).aU.toNat -b.length),fI (dG a g).df 0 b++eP ((dG a g).aU.toNat -b.length),eP (dG a g).aU.toNat⟩
open Classical in
noncomputable def iZ (h:ah) (w:Int):ah:=
 if(bz h w).bS=1 then pG (h.set (ix w) kW)else kV (iU h w) (oC (bz h w).bJ)
def tG(l:ab)(n:Int):Nat:=l.findIdx (λy=>y==n)
open Classical in
noncomputable def eD (b:da) (s:St) (a:an) (f:bW) (x:Instr) (bI:ab):St:=
 let g:bW:={f with bI:=bI,pc:=f.pc+1}
 let c:=bt x.aO 0
 let w:=bt f.aU c
 if x.op=0 then{s with bq:=a++[g.cG x.bH x.cE 0]}
 else if x.op=1\/x.op=2\/x.op=3\/x.op=4 then{s with bq:=a++[g.cG x.bH (Tw x.op w (bt f.aU (bt x.aO 1))) 0]}
 else if x.op=5 then{s with cw:=s.cw++[w],bq:=a++[g.cG x.bH w 0]}
 else if x.op=6 then
  if x.dh≠0/\bt f.cC (x.dh -1)≠0 then
   {s with aR:=s.aR.set (ix (bt f.cC (x.dh -1))) ⟨1,x.cE,dQ f x.aO⟩,bq:=a++[{g with cC:=gX f.cC (x.dh -1) 0}.cG x.bH (bt f.cC (x.dh -1)) 1]}
  else{s with aR:=kC s.aR (fF s.aR) ⟨1,x.cE,dQ f x.aO⟩,bq:=a++[g.cG x.bH (1000+fF s.aR) 1]}
 else if x.op=10 then{s with aR:=kC s.aR (fF s.aR) ⟨1,cF b+x.cE,dQ f x.aO⟩,bq:=a++[g.cG x.bH (1000+fF s.aR) 1]}
 else if x.op=14 then{s with aR:=qv s.aR w,bq:=a++[{g with bI:=gX bI c (bt bI c+1)}]}
 else if x.op=15 then{s with aR:=pG (jK s.aR [w]),bq:=a++[g]}
 else if x.op=16\/x.op=17 then
  let d:={g with bI:=fe bI (x.aO.drop 1)}
  if(bz s.aR w).bS=1/\x.op=17 then{s with aR:=s.aR.set (ix w) ⟨-1,0,eP (bz s.aR w).bJ.length⟩,bq:=a++[{d with cC:=gX f.cC c w}]}
  else{s with aR:=iZ s.aR w,bq:=a++[d]}
 else if x.op=18 then{s with bq:=a++[g.cG x.bH w (iV w)]}
 else if x.op=19 then{s with bq:=a++[g.cG x.bH (bt (bz s.aR w).bJ x.cE) 0]}
 else if x.op=20 then{s with bq:=a++[{g with pc:=if w=0 then x.cE else f.pc+1}]}
 else if x.op=21 then{s with bq:=a++[{g with pc:=bt x.gE (tG (cX b.bT x.cE) (bz s.aR w).jx)}]}
 else if x.op=22 then{s with bq:=a++[{g with pc:=x.cE}]}
 else if x.op=9 then{s with dg:=s.dg+1,bq:=a++[g,cz b x.cE x.bH (dQ f x.aO)]}
 else if x.op=24 then{s with dg:=s.dg+1,bq:=a++[cz b x.cE f.bH (dQ f x.aO)]}
 else if x.op=11 then
  {s with dg:=s.dg+1,aR:=iZ s.aR w,bq:=a++[g,cz b ((bz s.aR w).jx -cF b) x.bH ((bz s.aR w).bJ++[bt f.aU (bt x.aO 1)])]}
 else -- 23
  match a.getLast? with
  |none=>{s with eC:=0,iQ:=w,bq:=[]}
  |some p=>{s with bq:=a.dropLast++[p.cG f.bH w (iV w)]}
def qM(a:Int):Prop:=a=9\/a=11\/a=24
instance(a:Int):Decidable (qM a):=by unfold qM;infer_instance
def fE(a:da)(f:bW):Instr:=((dG a f.fP).eA[f.pc.toNat]?).getD ⟨0,0,0,0,[],[]⟩
open Classical in
noncomputable def qy (a:da) (s:St):St:=
 if s.eC≠3 then s else
 match s.bq.getLast? with
 |none=>s
 |some f=>
  if qM (fE a f).op/\s.dg=s.dL then{s with eC:=1}
  else if pb a s f (fE a f) (cL f.aU f.bI (cO a (fE a f)))then
   eD a s s.bq.dropLast f (fE a f) (cL f.aU f.bI (cO a (fE a f)))
  else{s with eC:=2}
end
section
variable{f b:Nat}{h g:ah}{e e':Nat->Int}{w:Int}{c d:dt}
def pB:∀(l r:ab)(f:Nat),iW (l++r) f=iW l f+iW r f
 |[],r,f=>by simp[iW]
 |w::l,r,f=>by simp only[eS,iW,pB l r f];omega
def Ey:∀(l:ab)(f:Nat),iW l.reverse f=iW l f
 |[],f=>O
 |w::l,f=>by simp only[Vy,pB,Ey l f,iW];omega
def lC:∀(l:ab)(f:Nat),0<=iW l f
 |[],f=>by simp[iW]
 |w::l,f=>by have:=lC l f;simp only[iW];split<;>omega
theorem rX:∀{l:ab}{f:Nat},(1000+(f:Int))∉l->iW l f=0
 |[],f,_=>O
 |w::l,f,h=>by
  simp only[bo,FU]at h;simp only[iW,rX h.2];grind
def wG:∀{l:ab}{f:Nat},(1000+(f:Int))∈l->1<=iW l f
 |[],f,h=>by simp at h
 |w::l,f,h=>by
  simp only[iW];rcases bo.1 h with rfl|h
  .rw[bn O];have:=lC l f;omega
  .have:=wG h;split<;>omega
theorem Tq{l:ab}(h:0<iW l f):(1000+(f:Int))∈l:=
 by grind [rX]
def Yz{n:Nat}:iW (eP n) f=0:=rX λh=>by have:=abj h;omega
theorem Ew:∀(l:ab)(f:Nat),iW (oC l) f=iW l f
 |[],f=>O
 |w::l,f=>by
  have:=Ew l f;grind [oC,iW]
def pC:∀(l:ab)(f:Nat),iW l f<=l.length
 |[],f=>by simp[iW]
 |w::l,f=>by have:=pC l f;simp only[iW,dy];split<;>omega
def yR:∀(h k:ah)(f:Nat),jz (h++k) f=jz h f+jz k f
 |[],k,f=>by simp[jz]
 |c::h,k,f=>by simp only[eS,jz,yR h k f];omega
def yS:∀(h:ah)(f:Nat),0<=jz h f
 |[],f=>by simp[jz]
 |c::h,f=>by have:=yS h f;have:=lC c.bJ f;simp only[jz];omega
theorem EC:∀{h:ah}{f:Nat}{c:dt}(e:dt)(_:h[f]? =some c)(b:Nat),jz (h.set f e) b=jz h b -iW c.bJ b+iW e.bJ b
 |[],f,c,e,h,b=>by simp at h
 |d::h,0,c,e,g,b=>by simp at g;subst g;simp only[ni,jz];omega
 |d::h,f+1,c,e,g,b=>by
  have:=EC (h:=h) (f:=f) e (sp g) b;grind [jz]
def Qs:∀{h:ah}{f:Nat},0<jz h f->∃c∈h,(1000+(f:Int))∈c.bJ
 |[],f,h=>by simp[jz]at h
 |c::h,f,e=>by
  simp only[jz]at e;rcases gJ (0<iW c.bJ f)with b|b
  .grind [Tq]
  .let⟨d,hd,g⟩:=Qs (h:=h) (f:=f) (oh (lC c.bJ f));grind
def XI:∀{h:ah}{c:dt}(_:c∈h)(f:Nat),iW c.bJ f<=jz h f
 |[],c,a,f=>by simp at a
 |d::h,c,a,f=>by
  simp only[jz];rcases bo.1 a with rfl|a
  .have:=yS h f;omega
  .have:=XI a f;have:=lC d.bJ f;omega
@[grind cases] structure sB (h:ah) (c:dt):Prop where
 fl:c.bJ.length<=3
 lo: -1<=c.bS
 hi:c.bS<=999999
 LN:c.bS<1->c.jx=0/\(∀w∈c.bJ,w=0)/\(c.bS=0->c.bJ=[])
 wW:0<c.bS->(∀w∈c.bJ,vK h w)/\0<=c.jx/\c.jx<=99
def acE(h:ah):Prop:=∃a:ag,∀(i:Nat)(c:dt),h[i]? =some c->∀w∈c.bJ,1000<=w->a (ix w)<a i
@[grind cases] structure jd (h:ah) (e:Nat->Int):Prop where
 gZ:∀c∈h,sB h c
 CI:acE h
 ex:∀(a:Nat)(c:dt),h[a]? =some c->0<c.bS->c.bS=jz h a+e a
 nn:∀a,0<=e a
 lv:∀a,0<e a->jq h a
theorem jd.congr(c:jd h e)(a:∀b,e' b=e b):jd h e':=by
 constructor<;>grind
theorem sK(f:Nat):ix (1000+(f:Int))=f:=by unfold ix;omega
theorem lD(h:1000<=w):1000+((ix w:Nat):Int)=w:=by unfold ix;omega
def Ws{v:Int}(a:1000<=v)(b:1000<=w)(h:ix v=ix w):v=w:=by grind [lD]
theorem jd.qd(f:jd h e)(d:c∈h)(i:w∈c.bJ)(j:1000<=w):iI h w:=by
 have g:=f.gZ c d;rcases gJ (0<c.bS)with b|b
 .rcases(g.wW b).1 w i with a|a
  .have:=a.2;omega
  .exact a
 .grind
def jd.ac6(d:jd h e)(i:¬jq h f):jz h f=0:=by
 rcases gJ (0<jz h f)with a|a
 .let⟨c,b,g⟩:=Qs a;have:=(d.qd b g V).2;grind [sK]
 .have:=yS h f;omega
def jd.ad2(a:jd h e)(b:¬jq h f):e f=0:=by
 grind
theorem ph(a:b≠f):(h.set f c)[b]? =h[b]? :=cB
theorem lz(hd:h[f]? =some d):(h.set f c)[f]? =some c:=by
 rw[ft (br hd)]
theorem jq.ne(a:b≠f):jq (h.set f c) b<->jq h b:=by grind [jq]
theorem jq.GK(hd:h[f]? =some d):jq (h.set f c) f<->0<c.bS:=by
 grind [jq]
theorem vK.aP(c:vK h w)(b:1000<=w->jq h (ix w)->jq g (ix w)):vK g w:=by
 rcases c with a|a
 .exact bC a
 .exact bR ⟨a.1,b a.1 a.2⟩
theorem sB.aP{h g:ah}{c:dt}(a:sB h c)(b:0<c.bS->∀w∈c.bJ,1000<=w->jq h (ix w)->jq g (ix w)):sB g c:=
 by constructor<;>grind [vK.aP]
def rW{x:dt}(a:x∈h.set f c):x=c\/∃b,b≠f/\h[b]? =some x:=by
 grind [List.mem_iff_getElem?]
def jd.OZ(k:jd h e)(a:h[f]? =some c)(g:0<c.bS){n:Int}(s:0<n)(r:n<=999999)
 (x:∀b,e' b=e b+if b=f then n -c.bS else 0)(u:0<=e' f):jd (h.set f {c with bS:=n}) e':=by
 have l:∀b,jq (h.set f {c with bS:=n}) b<->jq h b:=λb=>by
  by_cases i:b=f
  .subst i;rw[jq.GK a];exact⟨λ_=>⟨c,a,g⟩,λ_=>s⟩
  .exact jq.ne i
 have y:∀b,jz (h.set f {c with bS:=n}) b=jz h b:=λb=>by rw[EC _ a];simp only[];omega
 refine⟨λz t=>?_,?_,λb d hd v=>?_,λb=>?_,λb p=>?_⟩
 .rcases rW t with rfl|⟨b,_,p⟩
  .have j:=k.gZ c (aZ a)
   exact⟨j.fl,by simp only[];omega,r,λo=>by simp only[]at o;omega,λ_=>⟨λw m=>((j.wW g).1 w m).aP λ_ q=>(l _).2 q,(j.wW g).2⟩⟩
  grind [sB.aP]
 .let⟨j,o⟩:=k.CI
  refine⟨j,λq d hd w m g=>?_⟩
  grind
 .grind
 .grind
 .rw[l]
  by_cases i:b=f
  .subst i;exact⟨c,a,g⟩
  grind
def jd.Wm(i:jd h e)(o:h[f]? =some c)(A:c.bS=1)(C:0<e f){c':dt}(v: -1<=c'.bS)(E:c'.bS<1)(y:c'.jx=0)
 (r:∀w∈c'.bJ,w=0)(t:c'.bJ.length<=3)(s:c'.bS=0->c'.bJ=[])
 (p:∀b,e' b=e b -(if b=f then 1 else 0)+iW c.bJ b):jd (h.set f c') e':=by
 have j:=i.ex f c o V
 have I:=yS h f
 have D:e f=1:=V
 have J:∀x∈h,(1000+(f:Int))∉x.bJ:=λx j g=>by
  have:=XI j f;have:=wG g;omega
 have G:iW c.bJ f=0:=by grind [rX]
 have H:∀b,iW c'.bJ b=0:=λb=>rX λg=>by have:=r _ g;omega
 have u:∀b,b≠f->jq h b->jq (h.set f c') b:=by grind [jq.ne]
 have F:∀x∈h,∀w∈x.bJ,1000<=w->ix w≠f:=λx j w g q z=>by
  grind [lD]
 refine⟨λx j=>?_,?_,λb d hd B=>?_,λb=>?_,λb k=>?_⟩
 .rcases rW j with rfl|⟨b,_,k⟩
  .exact⟨t,v,V,λ_=>⟨y,r,s⟩,λq=>V⟩
  grind [sB.aP]
 .let⟨m,n⟩:=i.CI
  refine⟨m,λK d hd w g q=>?_⟩
  grind
 .grind [EC]
 .rw[p]
  have:=i.nn b
  have:=lC c.bJ b
  grind
 .rw[p]at k
  by_cases n:b=f
  .grind
  .rw[aW n]at k
   refine u b n ?_
   rcases gJ (0<e b)with m|m
   .exact i.lv b m
   .have:=i.nn b
    have g:=Tq (l:=c.bJ) (f:=b) V
    have:=(i.qd (aZ o) g V).2
    rwa[sK]at this
def jd.Wt(j:jd h e){t:Int}{a:ab}(s:¬jq h f)(p:g[f]? =some ⟨1,t,a⟩)(u:∀b,b≠f->g[b]? =h[b]?)
 (L:∀b,jz g b=jz h b+iW a b)(v:∀w∈a,vK h w)(z:a.length<=3)(D:0<=t/\t<=99)(A:∀b,iW a b<=e b)
 (y:∀b,e' b=e b -iW a b+if b=f then 1 else 0):jd g e':=by
 have r:∀b,jq h b->jq g b:=λb c=>by
  grind [jq]
 have J:=j.ad2 s
 have M:=j.ac6 s
 have K:iW a f=0:=by have:=lC a f;have:=A f;omega
 refine⟨λH F=>?_,?_,λb d hd I=>?_,λb=>?_,λb i=>?_⟩
 .let⟨b,i⟩:=cH.1 F
  by_cases l:b=f
  .subst l;rw[p]at i;simp at i;subst i
   exact⟨z,bO,bO,sx,λ_=>⟨λw m=>(v w m).aP λ_ c=>r _ c,D⟩⟩
  .rw[u b l]at i
   exact(j.gZ H (aZ i)).aP λ_ w _ _ c=>r _ c
 .let⟨q,N⟩:=j.CI
  refine⟨λk=>if k=f then(a.map λw=>q (ix w)).sum+1 else q k,λk d hd w m C=>?_⟩
  have E:ix w≠f:=λx=>by
   have B:iI h w:=by
    by_cases o:k=f
    .subst o;rw[p]at hd;simp at hd;subst hd;rcases v w m with n|n
     .have:=n.2;omega
     .exact n
    .rw[u k o]at hd;exact j.qd (aZ hd) m C
   exact s (x▸B.2)
  simp only[aW E]
  by_cases o:k=f
  .subst o;rw[p]at hd;simp at hd;subst hd
   rw[bn O]
   have:∀(n:ab),w∈n->q (ix w)<=(n.map λw=>q (ix w)).sum:=by
    intro n c;induction n with
    |nil=>simp at c
    |cons P n G=>
     simp only[eK,List.sum_cons];rcases bo.1 c with rfl|c
     .omega
     .have:=G c;omega
   have:=this a m;omega
  grind
 .grind
 .grind
 .rw[y]at i
  by_cases l:b=f
  .subst l;exact⟨_,p,bO⟩
  .rw[aW l]at i
   exact r b (j.lv b (oh (lC a b)))
theorem jd.jK:∀(n:Nat)(h:ah)(k:ab)(e:Nat->Int),DV h+k.length<=n->jd h (λb=>e b+iW k b)->(∀b,0<=e b)->jd (jK h k) e
 |n,h,[],e,_,a,_=>by rw[uq];exact a.congr λb=>by simp[iW]
 |n,h,w::r,e,i,a,d=>by
  rcases gJ (iI h w)with c|c
  .let⟨f,j⟩:=dz c;have q:=lD c.1;have o:∀b,iW (w::r) b=(if b=ix w then 1 else 0)+iW r b:=λb=>by
    grind [iW]
   have l:=mr (d:=kW) f;by_cases g:(bz h w).bS=1
   .rw[ur c g];simp only[bn j,kW]at l;simp at l;cases n with
    |zero=>simp at i
    |succ n=>
    refine jd.jK n _ _ e ?_ (jd.Wm a f g ?_ cD cD O (by simp[kW]) (by simp[kW]) (λ_=>O) λb=>?_) d
    .grind [kW]
    .simp only[o,bn];have:=d (ix w);have:=lC r (ix w);omega
    .simp only[o,pB,Ey];omega
   .rw[sF c g];have m:=mr (d:={bz h w with bS:=(bz h w).bS -1}) f;simp only[bn j]at m;rw[bn V]at m;have p:=(a.gZ _ (aZ f)).hi;cases n with
    |zero=>simp at i
    |succ n=>
    refine jd.jK n _ _ e ?_ (jd.OZ a f j V V (λb=>?_) ?_) d
    .grind [iU]
    .grind
    .have:=d (ix w);have:=lC r (ix w);omega
  .rw[sG c];cases n with
   |zero=>simp at i
   |succ n=>
   refine jd.jK n _ _ e cB (a.congr λb=>?_) d;simp only[iW];rw[aW]
   .omega
   .intro f;have:=a.lv b (by simp only[iW,bn f];have:=d b;have:=lC r b;omega);exact c ⟨V,by rw[f,sK];exact this⟩
theorem xW(h:ah):∀n,lK h n<=n
 |0=>bY
 |n+1=>by
  simp only[lK];have:=xW h n;grind
theorem xV(h:ah):∀(n k:Nat)(c:dt),lK h n<=k->k<n->h[k]? =some c->c.bS=0
 |0,k,c,_,d,_=>V
 |n+1,k,c,a,e,b=>by
  simp only[lK]at a;by_cases d:k=n
  .grind
  .split at a
   .split at a
    .exact xV h n k c a V b
    .omega
   .exact xV h n k c a V b
def Q2(h:ah):∀(n:Nat)(c:dt),n<=h.length->h[lK h n -1]? =some c->0<lK h n->c.bS≠0
 |0,c,_,_,a=>by simp[lK]at a
 |n+1,c,f,b,a=>by
  simp only[lK]at b a;let⟨d,hd⟩:=dU h n;rw[hd]at b a;simp only[]at b a;split at b
  .rename_i e;rw[bn e]at a;exact Q2 h n c V b a
  .grind
def pZ(h:ah):Prop:=∀c,h[h.length -1]? =some c->c.bS≠0
def Lv:pZ (pG h):=by
 intro c a;have d:=xW h h.length;unfold pG at a;rw[qW,mH d]at a;rcases FT (lK h h.length)with b|b
 .grind
 .rw[nm V]at a;exact Q2 h _ c bY a b
def Sv:∀{h:ah},(∀c∈h,c.bJ=[])->∀f,jz h f=0
 |[],_,f=>O
 |c::h,a,f=>by simp only[jz,a c cK,iW,Sv (λd hd=>a d (aX _ hd)) f];rfl
theorem jd.pG{h:ah}{e:Nat->Int}(d:jd h e):jd (pG h) e:=by
 have u:=xW h h.length;have q:∀(b:Nat)(c:dt),h[b]? =some c->c.bS≠0->b<lK h h.length:=λb c a i=>
  iC λv=>i (xV h h.length b c V (br a) a)
 have k:∀(b:Nat)(c:dt),(Go.Proofs.YtbbbdejieenniaaGreat.pG h)[b]? =some c->h[b]? =some c:=λb c a=>by
  unfold Go.Proofs.YtbbbdejieenniaaGreat.pG at a;have:=br a;rw[qW]at this;rwa[nm V]at a
 have l:∀b,jq h b->jq (Go.Proofs.YtbbbdejieenniaaGreat.pG h) b:=λb⟨c,a,j⟩=>⟨c,by
  unfold Go.Proofs.YtbbbdejieenniaaGreat.pG;rw[nm (q b c a V)];exact a,j⟩
 have s:∀b,jz (Go.Proofs.YtbbbdejieenniaaGreat.pG h) b=jz h b:=λb=>by
  have m:h=Go.Proofs.YtbbbdejieenniaaGreat.pG h++h.drop (lK h h.length):=(j8 _ _).symm;have n:jz (h.drop (lK h h.length)) b=0:=Sv (λc a=>by
   let⟨o,g⟩:=cH.1 a;rw[rJ]at g;have i:=xV h h.length _ c V (br g) g;exact((d.gZ c (aZ g)).LN V).2.2 i) b
  have o:=vv (λg=>jz g b) m;simp only[yR,n]at o;omega
 refine⟨λc a=>?_,?_,λf c a j=>?_,d.nn,λf p=>l f (d.lv f p)⟩
 .let⟨b,g⟩:=cH.1 a;exact(d.gZ c (aZ (k b c g))).aP λ_ w _ _ r=>l _ r
 .let⟨t,r⟩:=d.CI;exact⟨t,λg c a=>r g c (k g c a)⟩
 .rw[s];exact d.ex f c (k f c a) j
end
section
variable{i x v:Int}{k:Nat}{c:da}{f:bW}{s:St}
theorem jT{l:ab}(b:0<=i)(c:i<l.length):l[i.toNat]? =some (bt l i):=by
 let⟨x,a⟩:=dU l i.toNat;simp[bt,a]
theorem adB{l:ab}(h:l[k]? =some x):bt l k=x:=by simp[bt,h]
theorem Ps{l:ab}(h:l[i.toNat]? =some x):bt l i=x:=by simp[bt,h]
theorem iS{l:ab}(a:0<=i)(b:i<l.length):bt l i∈l:=kQ (jT a b)
theorem jO{l:ab}:(gX l i v).length=l.length:=by simp[gX]
def tO{l:ab}(h:x∈gX l i v):x=v\/x∈l:=by
 rcases jc h with h|h
 .exact bR h
 .exact bC h
def EG(l:ab)(i v:Int)(k:Nat):(gX l i v)[k]? =if k=i.toNat/\k<l.length then some v else l[k]? :=by
 unfold gX;by_cases h:k=i.toNat
 .subst h;by_cases a:i.toNat<l.length
  .rw[ft a,bn ⟨O,a⟩]
  .rw[aW V,abl V]
 .rw[aW V,eu (λe=>h e.symm)]
theorem ny{l:ab}(a:0<=i)(b:i<l.length)(j:Int)(c:0<=j):bt (gX l i v) j=if j=i then v else bt l j:=by
 unfold bt;rw[fG,fG,EG];by_cases h:j=i
 .subst h;rw[bn O,bn ⟨O,V⟩];rfl
 .rw[aW h,aW V]
def Mj:∀(aU bI:ab)(k:Nat)(w o e d:Int)(a:Nat),aU[k]? =some e->bI[k]? =some d->
 fA (aU.set k w) (bI.set k o) a=fA aU bI a -(if e=1000+(a:Int)then d else 0)+(if w=1000+(a:Int)then o else 0)
 |[],bI,k,w,o,e,d,a,b,c=>by simp at b
 |r::f,[],k,w,o,e,d,a,b,c=>by simp at c
 |r::f,q::g,0,w,o,e,d,a,b,c=>by
  simp at b c;subst b;subst c;simp only[ni,fA];omega
 |r::f,q::g,k+1,w,o,e,d,a,b,c=>by
  have:=Mj f g k w o e d a (sp b) (sp c);simp only[vU,fA,this];omega
def Z6{l:ab}(h:l[k]? =some x):l.set k x=l:=by
 apply fq;intro i;by_cases a:k=i
 .subst a;rw[ft (br h),h]
 .rw[eu a]
def Mi{aU bI:ab}{r:Int}(c:0<=r)(d:r<aU.length)(e:r<bI.length)(o:Int)(a:Nat):
 fA aU (gX bI r o) a=fA aU bI a+(if bt aU r=1000+(a:Int)then o -bt bI r else 0):=by
 have b:=jT c d
 have:=Mj aU bI r.toNat (bt aU r) o _ _ a b (jT c e)
 rw[Z6 b]at this
 rw[gX,this];split<;>omega
def Sq{aU bI:ab}{r:Int}(b:0<=r)(c:r<aU.length)(d:r<bI.length)(e:bt bI r=0)(w o:Int)(a:Nat):
 fA (gX aU r w) (gX bI r o) a=fA aU bI a+(if w=1000+(a:Int)then o else 0):=by
 have:=Mj aU bI r.toNat w o _ _ a (jT b c) (jT b d)
 rw[gX,gX,this,e];split<;>omega
def vd:∀{aU bI:ab},(∀o∈bI,0<=o)->∀a,0<=fA aU bI a
 |[],bI,h,a=>by cases bI<;>simp[fA]
 |r::b,[],h,a=>by simp[fA]
 |r::b,o::d,h,a=>by
  have:=vd (aU:=b) (bI:=d) (λx c=>h x (aX _ c)) a;have:=h o cK;simp only[fA];split<;>omega
def xC:∀{aU bI:ab},Yd bI->∀a,fA aU bI a=0
 |[],bI,h,a=>by cases bI<;>simp[fA]
 |r::b,[],h,a=>by simp[fA]
 |r::b,o::d,h,a=>by
  have:=xC (aU:=b) (bI:=d) (λx c=>h x (aX _ c)) a;have:=h o cK;simp only[fA,this];split<;>omega
def KD:∀{c o1:ab}(b o2:ab),c.length=o1.length->∀a,fA (c++b) (o1++o2) a=fA c o1 a+fA b o2 a
 |[],[],b,o2,_,a=>by simp[fA]
 |[],_::_,_,_,h,_=>by simp at h
 |_::_,[],_,_,h,_=>by simp at h
 |r::e,o::d,b,o2,h,a=>by
  have:=KD (c:=e) (o1:=d) b o2 (sp h) a;simp only[eS,fA,this];omega
def KE:∀{aU bI:ab}{k:Nat}{w o:Int}(_:∀o∈bI,0<=o)(_:aU[k]? =some w)(_:bI[k]? =some o){c:Nat}(_:w=1000+(c:Int)),o<=fA aU bI c
 |[],_,_,_,_,_,a,_,_,_=>by simp at a
 |_::_,[],_,_,_,_,_,b,_,_=>by simp at b
 |r::h,q::g,0,w,o,d,a,b,c,e=>by
  simp at a b;subst a;subst b;have:=vd (aU:=h) (bI:=g) (λx f=>d x (aX _ f)) c;simp only[fA,bn e];omega
 |r::h,q::g,k+1,w,o,d,a,b,c,e=>by
  have:=KE (aU:=h) (bI:=g) (k:=k) (λx f=>d x (aX _ f)) (sp a) (sp b) e;have:=d q cK;simp only[fA];split<;>omega
def jL:∀(l r:an)(a:Nat),jX (l++r) a=jX l a+jX r a
 |[],r,a=>by simp[jX]
 |f::l,r,a=>by simp only[eS,jX,jL l r a];omega
theorem nR(f:bW)(a:Nat):jX [f] a=fA f.aU f.bI a:=by simp[jX]
def iT:∀(l r:an)(a:Nat),eU (l++r) a=eU l a+eU r a
 |[],r,a=>by simp[eU]
 |f::l,r,a=>by simp only[eS,eU,iT l r a];omega
def lU(f:bW)(a:Nat):eU [f] a=iW f.cC a:=by simp[eU]
def zU:∀(l:an)(a:Nat),0<=eU l a
 |[],a=>by simp[eU]
 |f::l,a=>by have:=zU l a;have:=lC f.cC a;simp only[eU];omega
theorem my(aU:ab):∀(a bI:ab),(cL aU bI a).length=bI.length
 |[],bI=>O
 |r::a,bI=>by simp only[cL];rw[my aU a];split<;>simp[jO]
def Cf{aU:ab}:∀(b bI:ab),(∀r∈b,0<=r/\r<aU.length)->aU.length=bI.length->∀a,fA aU (cL aU bI b) a=fA aU bI a -iW (b.map (bt aU)) a
 |[],bI,_,_,a=>by simp[cL,iW]
 |r::b,bI,h,c,a=>by
  have e:=h r cK;have f:=λbI c=>Cf (aU:=aU) b bI (λx d=>h x (aX _ d)) c a;simp only[cL,eK,iW];by_cases d:1000<=bt aU r
  .rw[bn d,f _ (by rw[jO];exact c),Mi e.1 e.2 V];split<;>omega
  .rw[aW d,f _ c,aW V];omega
def ou{aU:ab}:∀(b bI:ab)(k:Nat)(o:Int),(cL aU bI b)[k]? =some o->∃q,bI[k]? =some q/\o<=q
 |[],bI,k,o,h=>⟨o,h,dT _⟩
 |r::b,bI,k,o,h=>by
  simp only[cL]at h;let⟨q,a,d⟩:=ou b _ k o h;split at a
  .rw[EG]at a;split at a
   .rename_i c;let⟨y,e⟩:=gD c.2;have f:bt bI r=y:=by rw[bt,fG,<-c.1,e];rfl
    simp at a;exact⟨y,e,V⟩
   .exact⟨q,a,d⟩
  .exact⟨q,a,d⟩
theorem uW:∀(a bI:ab),(fe bI a).length=bI.length
 |[],bI=>O
 |r::a,bI=>by simp only[fe];rw[uW a,jO]
def JZ{aU:ab}:∀(b bI:ab),(∀r∈b,0<=r/\r<aU.length)->aU.length=bI.length->∀a,fA aU (fe bI b) a=fA aU bI a+iW (b.map (bt aU)) a
 |[],bI,_,_,a=>by simp[fe,iW]
 |r::b,bI,h,d,a=>by
  have c:=h r cK;simp only[fe,eK,iW];rw[JZ (aU:=aU) b _ (λx e=>h x (aX _ e)) (by rw[jO];exact d) a,Mi c.1 c.2 V];split<;>omega
def Py{aU:ab}:∀(c bI:ab),(∀r∈c,0<=r/\r<bI.length/\1000<=bt aU r)->
 (∀(k:Nat)(o w:Int),bI[k]? =some o->aU[k]? =some w->0<=o/\(0<o->1000<=w))->∀(k:Nat)(o w:Int),(fe bI c)[k]? =some o->aU[k]? =some w->0<=o/\(0<o->1000<=w)
 |[],bI,_,h,k,o,w,a,b=>h k o w a b
 |r::c,bI,f,h,k,o,w,a,b=>by
  refine Py (aU:=aU) c (gX bI r (bt bI r+1)) (λx d=>by rw[jO];exact f x (aX _ d)) (λk o w a b=>?_) k o w a b;rw[EG]at a;split at a
  .rename_i e;have d:=f r cK;have g:bt aU r=w:=by rw[bt,fG,<-e.1,b];rfl
   have i:=h k (bt bI r) w (by rw[e.1];exact jT d.1 d.2.1) b;simp at a;exact⟨V,λ_=>V⟩
  .exact h k o w a b
def jI(h:ah)(a:Nat):Prop:=∃c,h[a]? =some c/\c.bS<0
@[grind cases] structure iH (im:da) (f:bW):Prop where
 fP:0<=f.fP/\f.fP<im.di.length
 pc:0<=f.pc/\f.pc<(dG im f.fP).eA.length
 lr:(f.aU.length:Int)=(dG im f.fP).aU
 lo:(f.bI.length:Int)=(dG im f.fP).aU
 lh:(f.cC.length:Int)=(dG im f.fP).aU
 XJ:∀w∈f.aU,lg w\/1000<=w
 bI:∀(k:Nat)(o w:Int),f.bI[k]? =some o->f.aU[k]? =some w->0<=o/\(0<o->1000<=w)
 cC:∀w∈f.cC,w=0\/1000<=w
@[grind cases] structure dZ (im:da) (s:St):Prop where
 iG:iB im
 eC:0<=s.eC/\s.eC<=3
 cy:s.eC=0<->s.bq=[]
 iQ:lg s.iQ
 Cj:s.iQ≠0->s.eC=0
 dL:0<=s.dL/\s.dL<=40
 dg:0<=s.dg/\s.dg<=s.dL
 kU:(s.bq.length:Int)<=s.dg+1
 cw:∀n∈s.cw,lg n
 aR:jd s.aR (jX s.bq)
 mG:pZ s.aR
 bq:∀f∈s.bq,iH im f
 first:∀f,s.bq[0]? =some f->f.bH=0
 uJ:∀(k:Nat)(f g:bW),s.bq[k]? =some f->s.bq[k+1]? =some g->0<=g.bH/\g.bH<f.bI.length/\bt f.bI g.bH=0
 eO:∀a,jI s.aR a->eU s.bq a=1
 qV:∀a,¬jI s.aR a->eU s.bq a=0
def iH.Ql(h:iH c f):∀o∈f.bI,0<=o:=λo b=>by
 let⟨k,a⟩:=cH.1 b;have e:=br a;have:=h.lo;have:=h.lr;let⟨w,d⟩:=dU f.aU k;exact(h.bI k o w a d).1
def KF{c:da}:∀{b:an},(∀f∈b,iH c f)->∀a,0<=jX b a
 |[],_,a=>by simp[jX]
 |f::b,h,a=>by
  have:=KF (λg d=>h g (aX _ d)) a;have:=vd (aU:=f.aU) (h f cK).Ql a;simp only[jX];omega
def dZ.split(h:dZ c s)(b:s.eC=3):∃a f,s.bq=a++[f]:=by
 have:s.bq≠[]:=λe=>by have:=h.cy.2 e;omega
 exact⟨s.bq.dropLast,s.bq.getLast this,(nH this).symm⟩
theorem iH.Kw(j:iB c)(h:iH c f):∃p,c.di[f.fP.toNat]? =some p/\dG c f.fP=p/\pd c p/\p.eA[f.pc.toNat]? =some (fE c f)/\iP c p f.pc.toNat (fE c f):=by
 let⟨p,b⟩:=dU c.di f.fP.toNat (oh h.fP);have e:dG c f.fP=p:=by simp[dG,b]
 have g:=j.eR p (aZ b);have k:=h.pc;rw[e]at k;let⟨i,a⟩:=dU p.eA f.pc.toNat;have d:fE c f=i:=by simp[fE,e,a]
 exact⟨p,b,e,g,d▸a,d▸g.eR _ _ a⟩
def YV(l:an):Prop:=∀(k:Nat)(f g:bW),l[k]? =some f->l[k+1]? =some g->0<=g.bH/\g.bH<f.bI.length/\bt f.bI g.bH=0
section
variable{l r d:an}{a b:bW}
def YV.Od(h:YV (l++[a]))(e:b.bH=a.bH):YV (l++[b]):=λk p q c d=>by
 have:=h k;grind
def YV.iJ(h:YV (l++[a]))(e:0<=b.bH/\b.bH<a.bI.length/\bt a.bI b.bH=0):YV (l++[a,b]):=λk p q c d=>by
 have:=h k;grind
def YV.ry(h:YV (l++[a]++[b])):YV (l++[a]):=λk p q c d=>by
 have:=h k;grind
def PM(h:∀x,(l++a::r)[0]? =some x->x.bH=0)(e:b.bH=a.bH)(x:bW)(c:(l++b::d)[0]? =some x):x.bH=0:=by
 cases l<;>grind
end
def dZ.jN(h:dZ c s)(r:s.eC=3){b:an}{g:bW}(e:s.bq=b++[f]){d:ah}{cw:ab}(q:iH c g)(hd:g.bH=f.bH)
 (k:jd d (jX (b++[g])))(n:pZ d)(l:∀a,jI d a->eU (b++[g]) a=1)(o:∀a,¬jI d a->eU (b++[g]) a=0)(m:∀a∈cw,lg a){dg:Int}(j:s.dg<=dg/\dg<=s.dL):
 dZ c {s with aR:=d,cw:=cw,dg:=dg,bq:=b++[g]}:=by
 have p:=h.dg
 have a:=h.kU
 rw[e]at a
 refine⟨h.iG,h.eC,⟨λi=>by simp at i;omega,sx⟩,h.iQ,h.Cj,h.dL,⟨by simp only[];omega,j.2⟩,by simp at a⊢;omega,m,k,n,λt i=>?_,PM (e▸h.first) hd,YV.Od (e▸h.uJ) hd,l,o⟩
 grind [dZ.bq,List.mem_append_left]
end
section
variable{h:ah}{a:Nat}{c d:dt}{w:Int}{e e':Nat->Int}
def jI.ne{b:Nat}(d:b≠a):jI (h.set a c) b<->jI h b:=by grind [jI,ph]
def jI.GK(hd:h[a]? =some d):jI (h.set a c) a<->c.bS<0:=by grind [jI,lz]
theorem jI.dX(hd:h[a]? =some d)(g:0<=d.bS)(i:0<=c.bS)(b:Nat):jI (h.set a c) b<->jI h b:=by
 by_cases f:b=a
 .subst f;rw[jI.GK hd];refine⟨λj=>V,λ⟨e,l,k⟩=>?_⟩;grind
 .exact jI.ne f
def jI.aae(b:jI h a):¬jq h a:=λ⟨c,e,g⟩=>by
 let⟨d,hd,f⟩:=b;grind
theorem jI.iU(c:iI h w)(b:Nat):jI (iU h w) b<->jI h b:=by
 let⟨a,d⟩:=dz c;exact jI.dX a V cB b
def jI.qv(c:iI h w)(b:Nat):jI (qv h w) b<->jI h b:=by
 let⟨a,d⟩:=dz c;exact jI.dX a V cB b
def jI.Wm(a:iI h w)(b:Nat):jI (h.set (ix w) kW) b<->jI h b:=by
 let⟨c,d⟩:=dz a;grind [jI.dX,kW]
theorem jI.jK:∀(n:Nat)(h:ah)(i:ab),DV h+i.length<=n->∀b,jI (jK h i) b<->jI h b
 |n,h,[],_,b=>by rw[uq]
 |0,h,w::r,c,b=>by simp at c
 |n+1,h,w::r,c,b=>by
  simp only[dy]at c;rcases gJ (iI h w)with a|a
  .let⟨f,g⟩:=dz a;by_cases d:(bz h w).bS=1
   .have e:=mr (d:=kW) f;simp only[bn g,kW]at e;simp at e;rw[ur a d,jI.jK n _ _ (by simp[kW];omega) b,jI.Wm a]
   .have e:=mr (d:={bz h w with bS:=(bz h w).bS -1}) f;simp only[bn g]at e;rw[bn V]at e;rw[sF a d,jI.jK n _ _ (by simp only[Go.Proofs.YtbbbdejieenniaaGreat.iU];omega) b,jI.iU a]
  .rw[sG a,jI.jK n _ _ V b]
theorem jI.pG{h:ah}(b:Nat):jI (pG h) b<->jI h b:=by
 grind [xW,List.length,jI,pG,br,List.length_take,List.getElem?_take_of_lt,xV]
def jd.qv(c:jd h e)(d:iI h w)(i:(bz h w).bS<999999)(g:∀b,e' b=e b+if b=ix w then 1 else 0):jd (qv h w) e':=by
 let⟨a,f⟩:=dz d;refine c.OZ a f V V (λb=>?_) ?_
 .grind
 .grind [ix]
def Ul(a:iI h w){v:Int}(c:1000<=v):(bz (qv h w) v).bS=(bz h v).bS+(if v=w then 1 else 0):=by
 let⟨d,f⟩:=dz a;unfold qv;by_cases e:v=w
 .grind [bz,lz]
 .rw[aW e];conv=>lhs;unfold bz
  rw[ph (λb=>e (Ws c a.1 b))];simp[bz]
theorem jq.qv{h:ah}{w:Int}(a:iI h w){b:Nat}:jq (qv h w) b<->jq h b:=by
 let⟨c,d⟩:=dz a;by_cases e:b=ix w
 .subst e;unfold Go.Proofs.YtbbbdejieenniaaGreat.qv;rw[jq.GK c];exact⟨λ_=>a.2,λ_=>by simp only[];omega⟩
 .exact jq.ne e
def lB(a:1000<=w)(r:ab)(b:Nat):iW (w::r) b=(if b=ix w then 1 else 0)+iW r b:=by
 grind [iW,lD,ix,sK]
def jd.kV:∀(a:ab)(h:ah)(e e':Nat->Int),jd h e->(∀w∈a,iI h w/\(bz h w).bS+iW a (ix w)<=999999)->(∀b,e' b=e b+iW a b)->jd (kV h a) e'/\(∀b,jI (kV h a) b<->jI h b)/\(kV h a).length=h.length
 |[],h,e,e',i,_,g=>⟨i.congr λb=>by rw[g];simp[iW],λ_=>Rb,O⟩
 |w::a,h,e,e',i,k,g=>by
  let⟨c,p⟩:=k w cK;rw[lB c.1,bn O]at p;have:=lC a (ix w);let⟨m,n,o⟩:=jd.kV a (Go.Proofs.YtbbbdejieenniaaGreat.qv h w) (λb=>e b+if b=ix w then 1 else 0) e' (i.qv c V λb=>O) (λv q=>by
   let⟨d,j⟩:=k v (aX _ q);refine⟨⟨d.1,(jq.qv c).2 d.2⟩,?_⟩;rw[Ul c d.1];rw[lB c.1]at j;split
   .rename_i f;subst f;rw[bn O]at j;omega
   .rename_i f;rw[aW (λl=>f (Ws d.1 c.1 l))]at j;omega) (λb=>by rw[g,lB c.1];omega)
  refine⟨m,λb=>by rw[Go.Proofs.YtbbbdejieenniaaGreat.kV,n,jI.qv c],by rw[Go.Proofs.YtbbbdejieenniaaGreat.kV,o];simp[Go.Proofs.YtbbbdejieenniaaGreat.qv]⟩
theorem nT{l:ab}:w∈oC l<->w∈l/\1000<=w:=by simp[oC]
theorem jd.iZ{h:ah}{e e':Nat->Int}(j:jd h e){w:Int}(o:iI h w)(H:0<e (ix w))(t:(bz h w).bS=1\/oH h (bz h w).bJ)
 (A:∀b,e' b=e b -(if b=ix w then 1 else 0)+iW (bz h w).bJ b)(K:pZ h):jd (iZ h w) e'/\(∀b,jI (iZ h w) b<->jI h b)/\pZ (iZ h w):=by
 let⟨g,J⟩:=dz o
 unfold Go.Proofs.YtbbbdejieenniaaGreat.iZ
 by_cases r:(bz h w).bS=1
 .rw[bn r]
  exact⟨(j.Wm g r H (c':=kW) cD cD O (by simp[kW]) (by simp[kW]) (λ_=>O) A).pG,λb=>by rw[jI.pG,jI.Wm o],Lv⟩
 .rw[aW r]
  have t:oH h (bz h w).bJ:=by rcases t with m|m;exact absurd m r;exact m
  have R:=(j.gZ _ (aZ g)).hi
  have I:jd (Go.Proofs.YtbbbdejieenniaaGreat.iU h w) (λb=>e b -if b=ix w then 1 else 0):=j.OZ g J V V (λb=>by split<;>omega) eX
  have u:∀b,jq h b->jq (Go.Proofs.YtbbbdejieenniaaGreat.iU h w) b:=λb f=>by
   by_cases k:b=ix w
   .subst k;unfold Go.Proofs.YtbbbdejieenniaaGreat.iU;rw[jq.GK g];simp only[];omega
   .exact(jq.ne k).2 f
  let⟨m,y,z⟩:=jd.kV (oC (bz h w).bJ) _ _ e' I (λv x=>by
   let⟨s,p⟩:=nT.1 x;have a:=j.qd (aZ g) s p;refine⟨⟨a.1,u _ a.2⟩,?_⟩;have:=t v s p;rw[Ew];have P:(bz (Go.Proofs.YtbbbdejieenniaaGreat.iU h w) v).bS<=(bz h v).bS:=by
    by_cases k:ix v=ix w
    .have i:=Ws p o.1 k;subst i;unfold Go.Proofs.YtbbbdejieenniaaGreat.iU;conv=>lhs;unfold bz
     rw[lz g];show(bz h v).bS -1<=(bz h v).bS;omega
    .unfold Go.Proofs.YtbbbdejieenniaaGreat.iU;conv=>lhs;unfold bz
     rw[ph k];exact dT _
   omega) (λb=>by rw[A,Ew])
  refine⟨m,λb=>by rw[y,jI.iU o],λc n=>?_⟩
  intro M
  rw[z]at n
  have B:(Go.Proofs.YtbbbdejieenniaaGreat.iU h w).length=h.length:=by simp[Go.Proofs.YtbbbdejieenniaaGreat.iU]
  rw[B]at n
  have f:=br n
  rw[z,B]at f
  let⟨d,hd⟩:=dU h (h.length -1)
  have N:=K d hd
  have G:=j.gZ d (aZ hd)
  have Q:=G.lo
  rcases gJ (0<d.bS)with C|C
  .have F:∀(q:ab)(l:ah),(∀v∈q,iI l v)->∀b,jq l b->jq (Go.Proofs.YtbbbdejieenniaaGreat.kV l q) b:=by
    intro q;induction q with
    |nil=>intro l _ b f;exact f
    |cons v q L=>
     intro l i b f;have a:=i v cK;exact L _ (λE D=>⟨(i E (aX _ D)).1,(jq.qv a).2 (i E (aX _ D)).2⟩) b ((jq.qv a).2 f)
   let⟨D,i,E⟩:=F (oC (bz h w).bJ) (Go.Proofs.YtbbbdejieenniaaGreat.iU h w) (λv x=>by
    let⟨s,p⟩:=nT.1 x;have a:=j.qd (aZ g) s p;exact⟨a.1,u _ a.2⟩) _ (u _ ⟨d,hd,C⟩)
   rw[n]at i;simp at i;subst i;omega
  .have l:jI h (h.length -1):=⟨d,hd,V⟩
   let⟨D,i,q⟩:=(y (h.length -1)).2 ((jI.iU o _).2 l)
   rw[n]at i;simp at i;subst i;omega
def sV:∀(h:ah),fF h<=h.length
 |[]=>bY
 |c::h=>by have:=sV h;simp only[fF,dy];split<;>omega
def Bf:∀(h:ah)(c:dt),h[fF h]? =some c->c.bS=0
 |[],c,a=>by simp[fF]at a
 |d::h,c,a=>by
  simp only[fF]at a;split at a
  .rename_i b;simp at a;subst a;exact b
  .exact Bf h c (sp a)
def jd.aax(k:jd h e){t:Int}{f:ab}(s:∀w∈f,vK h w)(m:f.length<=3)(r:0<=t/\t<=99)(n:∀b,iW f b<=e b)
 (l:∀b,e' b=e b -iW f b+if b=fF h then 1 else 0)(u:pZ h):
 jd (kC h (fF h) ⟨1,t,f⟩) e'/\(∀b,jI (kC h (fF h) ⟨1,t,f⟩) b<->jI h b)/\pZ (kC h (fF h) ⟨1,t,f⟩):=by
 unfold kC
 have o:¬jq h (fF h):=λ⟨c,a,v⟩=>by have:=Bf h c a;omega
 by_cases i:fF h=h.length
 .rw[bn i]
  have q:(h++[⟨1,t,f⟩])[fF h]? =some ⟨1,t,f⟩:=by rw[i];simp
  have p:∀b,b≠fF h->(h++[⟨1,t,f⟩])[b]? =h[b]? :=λb g=>by
   rcases dJ b h.length with j|j
   .rw[dY j]
   .rw[lp eX,lp j]
  refine⟨k.Wt o q p (λb=>by rw[yR];simp[jz]) s m r n l,λb=>?_,λc a=>?_⟩
  .by_cases g:b=fF h
   .rw[g];unfold jI;rw[q,i];simp
   .unfold jI;rw[p b g]
  .simp at a;subst a;simp
 .rw[aW i]
  have q:fF h<h.length:=by have:=sV h;omega
  let⟨d,hd⟩:=gD q
  have j:=Bf h d hd
  have p:=((k.gZ d (aZ hd)).LN V).2.2 j
  refine⟨k.Wt o (lz hd) (λb g=>ph g) (λb=>by rw[EC _ hd,p];simp[iW]) s m r n l,λb=>jI.dX hd V bO b,λc a=>?_⟩
  rw[pJ]at a
  by_cases g:h.length -1=fF h
  .rw[g,lz hd]at a;simp at a;subst a;simp
  .rw[ph g]at a;exact u c a
end
section
variable{c:da}{w n g j:Int}{e:ab}{s:St}{d:an}{f:bW}
theorem uF{c:da}{x:Instr}:∀{l:ab}{k:Nat}{r:Int},r∈jV c x k l->r∈l
 |[],k,r,h=>by simp[jV]at h
 |y::l,k,r,h=>by
  simp only[jV]at h;split at h
  .exact aX _ (uF h)
  .rcases bo.1 h with rfl|h
   .exact cK
   .exact aX _ (uF h)
def wS{x:Instr}{r:Int}(h:r∈cO c x):r∈x.aO:=by
 unfold cO at h;split at h
 .exact h
 split at h
 .exact gW h
 split at h
 .exact uF h
 .simp at h
def DZ{a:af}(h:eT a)(c:Int):(cW a c).length<=3:=by
 unfold cW;split
 .cases g:(gR a)[c.toNat]? with
  |none=>simp
  |some f=>
   have d:=aZ g;unfold gR at d;let⟨e,hd,b⟩:=List.mem_flatMap.1 d;let⟨k,i⟩:=cH.1 hd;have:=(h.eR k e i).ju (adi b);exact(this.2.2.2 f b).1
 .simp
def iH.cG{c:da}{g:bW}(h:iH c g){r w o:Int}(f:lg w\/1000<=w)(d:0<=o)(e:0<o->1000<=w):iH c (g.cG r w o):=by
 refine⟨h.fP,h.pc,by simp only[bW.cG,jO];exact h.lr,by simp only[bW.cG,jO];exact h.lo,h.lh,λy a=>?_,λk q y b a=>?_,h.cC⟩
 .rcases tO a with rfl|a
  .exact f
  .exact h.XJ y a
 .simp only[bW.cG]at b a;rw[EG]at b a;have:=h.lr;have:=h.lo;split at b<;>split at a
  .simp at b a;subst b;subst a;exact⟨d,e⟩
  .omega
  .omega
  .exact h.bI k q y b a
def Ml:0<=iV w:=by unfold iV;split<;>omega
def IP(h:0<iV w):1000<=w:=by unfold iV at h;split at h<;>omega
def Bv(w:Int)(b:Nat):(if w=1000+(b:Int)then iV w else 0)=iW [w] b:=by
 simp only[iW,iV];split
 .rw[bn V];rfl
 .rfl
def LJ:lg (J4 n):=by unfold J4 lg;split<;>(try split)<;>omega
def Qn(c a b:Int):lg (Tw c a b):=by
 unfold Tw;split
 .exact LJ
 split
 .exact LJ
 split
 .exact LJ
 split<;>(unfold lg;omega)
theorem mf(df:ab):∀(e:ab)(k:Nat),(fI df k e).length=e.length
 |[],k=>O
 |w::e,k=>by simp only[fI,dy,mf df e]
def NH(df:ab):∀(e:ab)(k j:Nat)(o w:Int),(fI df k e)[j]? =some o->e[j]? =some w->0<=o/\(0<o->1000<=w)
 |[],k,j,o,w,_,h=>by simp at h
 |v::e,k,0,o,w,a,b=>by
  simp[fI]at a b;subst b;split at a
  .subst a;omega
  .subst a;exact⟨Ml,IP⟩
 |v::e,k,j+1,o,w,a,b=>NH df e (k+1) j o w (by simpa[fI]using a) (sp b)
theorem lG(n:Nat):(eP n).length=n:=by simp[eP]
theorem pR{n:Nat}(h:w∈eP n):w=0:=abj h
def yP{p:eE}(m:iB c)(l:0<=g)(h:c.di[g.toNat]? =some p)(q:e.length=p.aY.length)(n:∀w∈e,lg w\/1000<=w):iH c (cz c g j e):=by
 have d:dG c g=p:=by simp[dG,h]
 have i:=m.eR p (aZ h);have t:=i.aU;have r:=i.aT;have s:=br h;refine⟨⟨l,by simp only[cz];omega⟩,⟨by simp[cz],by simp only[cz,d];omega⟩,?_,?_,?_,λw a=>?_,λk o w b a=>?_,λw a=>bC (pR a)⟩
 .simp only[cz,d,dH,lG];omega
 .simp only[cz,d,dH,lG,mf];omega
 .simp only[cz,d,lG];omega
 .simp only[cz]at a;rcases bU.1 a with a|a
  .exact n w a
  .rw[pR a];exact bC (by unfold lg;omega)
 .simp only[cz]at b a;rcases dJ k e.length with f|f
  .rw[dY (by rw[mf];exact f)]at b;rw[dY f]at a;exact NH _ e 0 k o w b a
  .rw[dP (by rw[mf];exact f)]at b;rw[pR (kQ b)];omega
theorem uO(c:da)(g j:Int)(e:ab)(b:Nat):fA (cz c g j e).aU (cz c g j e).bI b=fA e (fI (dG c g).df 0 e) b:=by
 simp only[cz];rw[KD _ _ (mf _ _ _).symm,xC (λn a=>pR a)];omega
def tP(b:Nat):eU [cz c g j e] b=0:=by
 rw[lU];exact Yz
def Mk{c:da}{d:Instr}(f:bW):∀(e:ab)(k:Nat)(b:Nat),fA (dQ f e) (fI (dG c d.cE).df k (dQ f e)) b=iW ((jV c d k e).map (bt f.aU)) b
 |[],k,b=>by simp[dQ,fA,jV,iW]
 |r::h,k,b=>by
  have g:=Mk (c:=c) (d:=d) f h (k+1) b;simp only[dQ,eK,fI,fA,jV]at g⊢;rw[g];by_cases a:lA c d k=true
  .rw[bn a];unfold lA at a;rw[bn a];split<;>omega
  .rw[aW a];unfold lA at a;rw[aW a];simp only[eK,iW];have:=Bv (bt f.aU r) b;simp only[iW]at this;omega
def NI:∀(e:ab)(k:Nat)(b:Nat),fA e (fI [] k e) b=iW e b
 |[],k,b=>by simp[fA,iW]
 |w::e,k,b=>by
  have:=NI e (k+1) b;have a:=Bv w b;simp only[iW]at a;simp only[fI,fA,iW,this,Vv,oT,nv];omega
def dZ.uw{e:ah}{g:bW}(i:dZ c s)(l:s.bq=d++[f])(m:g.cC=f.cC)(j:∀b,jI e b<->jI s.aR b):
 (∀a,jI e a->eU (d++[g]) a=1)/\(∀a,¬jI e a->eU (d++[g]) a=0):=by
 have h:∀a,eU (d++[g]) a=eU s.bq a:=λa=>by rw[l,iT,iT,lU,lU,m]
 exact⟨λa b=>by rw[h];exact i.eO a ((j a).1 b),λa b=>by rw[h];exact i.qV a λk=>b ((j a).2 k)⟩
def Ts:∀{l:ab}{k:Nat}{v:Int}(w:Int)(b:Nat),l[k]? =some v->iW (l.set k w) b=iW l b -(if v=1000+(b:Int)then 1 else 0)+(if w=1000+(b:Int)then 1 else 0)
 |[],k,v,w,b,h=>by simp at h
 |y::l,0,v,w,b,h=>by simp at h;subst h;simp only[ni,iW];omega
 |y::l,k+1,v,w,b,h=>by have:=Ts w b (sp h);simp only[vU,iW,this];omega
def pZ.dX{h:ah}{a:Nat}{c:dt}(t:pZ h)(b:c.bS≠0):pZ (h.set a c):=by
 grind [pZ]
def Tt{b:Nat}(h:1000<=w):(if w=1000+(b:Int)then n else 0)=if b=ix w then n else 0:=by grind [lD,sK]
def abQ{l:ab}(h:1<=l.length):l.take 1=[bt l 0]:=by
 cases l with
 |nil=>simp at h
 |cons v l=>rfl
def Wy(j:dZ c s)(P:s.eC=3)(u:s.bq=d++[f])
 (I:pb c s f (fE c f) (cL f.aU f.bI (cO c (fE c f))))(a4:¬(qM (fE c f).op/\s.dg=s.dL)):
 dZ c (eD c s d f (fE c f) (cL f.aU f.bI (cO c (fE c f)))):=by
 have E:iH c f:=j.bq f (by rw[u];simp)
 let⟨Z,hp,aj,hP,aJ,hI⟩:=E.Kw j.iG
 generalize fE c f=x at*
 have⟨lr,lo,lh⟩:(f.aU.length:Int)=Z.aU/\(f.bI.length:Int)=Z.aU/\(f.cC.length:Int)=Z.aU:=⟨aj▸E.lr,aj▸E.lo,aj▸E.lh⟩
 have aa:∀p∈x.aO,0<=p/\p<f.aU.length:=λp q=>by have:=hI.aO p q;omega
 have aH:∀m∈cO c x,0<=m/\m<f.aU.length:=λm P=>aa m (wS P)
 have a_:=Cf (aU:=f.aU) (cO c x) f.bI aH V
 have a9:=my f.aU (cO c x) f.bI
 have a8:=ou (aU:=f.aU) (cO c x) f.bI
 generalize cL f.aU f.bI (cO c x)=bI at*
 have ay:∀M∈d,iH c M:=λM J=>j.bq M (by rw[u];exact dN _ J)
 have ac:∀e,0<=jX d e+fA f.aU bI e:=λe=>by
  have:=KF ay e;have:=vd (aU:=f.aU) I.nn e;omega
 have C:jd s.aR (λe=>jX d e+fA f.aU bI e+iW ((cO c x).map (bt f.aU)) e):=j.aR.congr λe=>by
  rw[u,jL,nR,a_];omega
 have aS:∀L:Int,0<=L->L<Z.eA.length->iH c {f with bI:=bI,pc:=L}:=λL h0 k=>
  ⟨E.fP,⟨h0,by rw[aj];exact k⟩,E.lr,by simp only[a9];exact E.lo,E.lh,E.XJ,λX Y w T o=>by
   let⟨M,J,y⟩:=a8 X Y T;have z:=E.bI X M w J o;exact⟨I.nn Y (kQ T),λv=>z.2 V⟩,E.cC⟩
 have aw:=j.first
 have au:YV s.bq:=j.uJ
 rw[u]at aw au
 have ba:=E.pc
 rw[aj]at ba
 have aP:x.op≠23->x.op≠24->f.pc+1<Z.eA.length:=λk z=>by
  rcases gJ (f.pc+1<Z.eA.length)with D|D
  .exact D
  .have R:f.pc.toNat=Z.eA.length -1:=V;rw[R]at aJ;have:=hP.Od x aJ;omega
 have W:x.op≠23->x.op≠24->iH c {f with bI:=bI,pc:=f.pc+1}:=λk z=>aS _ V (aP k z)
 have ae:∀m:Int,0<=m->m<f.aU.length->lg (bt f.aU m)\/1000<=bt f.aU m:=λm h0 k=>E.XJ _ (iS h0 k)
 have aN:∀m:Int,0<=m->m<f.aU.length->bt f.aU m<1000->lg (bt f.aU m):=λm h0 k z=>by rcases ae m h0 k with D|D;exact D;omega
 have av:=hI.bH
 have aK:lL x.op->bt bI x.bH=0:=λK=>by
  have k:=I.bH K;have z:=I.nn _ (iS (l:=bI) av.1 V);omega
 have bc:∀m∈cO c x,vK s.aR (bt f.aU m):=λm aT=>by
  have aV:=aH m aT;rcases ae m aV.1 aV.2 with D|D
  .exact bC D
  .refine bR ⟨D,C.lv _ ?_⟩;have:=ac (ix (bt f.aU m));have:=wG (l:=(cO c x).map (bt f.aU)) (f:=ix (bt f.aU m)) (by rw[lD D];exact gK.2 ⟨m,aT,O⟩);omega
 have al:∀(L:Int)(aL:ab)(w Y:Int),lL x.op->∀e,jX (d++[bW.cG {f with bI:=bI,pc:=L,cC:=aL} x.bH w Y]) e=jX d e+fA f.aU bI e+(if w=1000+(e:Int)then Y else 0):=λL aL w Y K e=>by
  rw[jL,nR];simp only[bW.cG];rw[Sq av.1 V V (aK K)];omega
 have ap:∀(w:Int)(cw:ab),lL x.op->x.op≠23->x.op≠24->cO c x=[]->(lg w\/1000<=w)->(∀n∈cw,lg n)->dZ c {s with cw:=cw,bq:=d++[bW.cG {f with bI:=bI,pc:=f.pc+1} x.bH w 0]}:=λw cw K k z v o T=>by
  let⟨F,N⟩:=j.uw u (g:=bW.cG {f with bI:=bI,pc:=f.pc+1} x.bH w 0) O (λe=>Rb);refine j.jN P u (hd:=O) ((W k z).cG o (dT _) (λD=>V)) (C.congr λe=>?_) j.mG F N T (dg:=s.dg) ⟨dT _,j.dg.2⟩;rw[al _ _ _ _ K,v];simp[iW]
 have ar:∀L:Int,0<=L->L<Z.eA.length->cO c x=[]->dZ c {s with bq:=d++[{f with bI:=bI,pc:=L}]}:=λL h0 k v=>by
  let⟨F,N⟩:=j.uw u (g:={f with bI:=bI,pc:=L}) O (λe=>Rb);refine j.jN P u (hd:=O) (aS L h0 k) (C.congr λe=>?_) j.mG F N j.cw (dg:=s.dg) ⟨dT _,j.dg.2⟩;rw[jL,nR,v];simp[iW]
 have y:=hI.op
 unfold mJ at y
 by_cases e0:x.op=0
 .simp(disch:=omega) only[eD,aW,bn]at y⊢
  exact ap _ _ (by unfold lL;omega) V V (by simp[cO,e0]) (bC y.2) j.cw
 by_cases e1:x.op=1\/x.op=2\/x.op=3\/x.op=4
 .simp(disch:=omega) only[eD,aW,bn]
  exact ap _ _ (by unfold lL;omega) V V (by simp(disch:=omega) only[cO,aW]) (bC (Qn _ _ _)) j.cw
 have af:1<=x.aO.length->0<=bt x.aO 0/\bt x.aO 0<f.aU.length:=λk=>aa _ (iS V V)
 by_cases e5:x.op=5
 .simp(disch:=omega) only[eD,aW,bn]at y⊢
  have q:=af V
  have ag:lg (bt f.aU (bt x.aO 0)):=aN _ q.1 q.2 (I.oL V _ (iS V V))
  refine ap _ _ (by unfold lL;omega) V V (by simp[cO,e5]) (bC ag) λn B=>?_
  rcases bU.1 B with B|B
  .exact j.cw n B
  .simp at B;subst B;exact ag
 have aX:(cO c x=x.aO)->∀w∈dQ f x.aO,vK s.aR w:=λv w o=>by
  obtain⟨m,U,rfl⟩:=gK.1 o;exact bc m (v▸U)
 have aC:∀ak,cO c x=x.aO->x.op≠23->x.op≠24->lL x.op->x.aO.length<=3->0<=ak/\ak<=99->dZ c {s with aR:=kC s.aR (fF s.aR) ⟨1,ak,dQ f x.aO⟩,bq:=d++[bW.cG {f with bI:=bI,pc:=f.pc+1} x.bH (1000+fF s.aR) 1]}:=λak v k z K D aA=>by
  let⟨Q,k2,k3⟩:=C.aax (t:=ak) (f:=dQ f x.aO) (e':=jX (d++[bW.cG {f with bI:=bI,pc:=f.pc+1} x.bH (1000+fF s.aR) 1])) (aX v) (by simpa[dQ]using D) aA (λe=>by rw[v];have:=ac e;simp only[dQ];omega) (λe=>by
   rw[al _ _ _ _ K,v];simp only[dQ];have:(if(1000+(fF s.aR:Int))=1000+(e:Int)then(1:Int)else 0)=if e=fF s.aR then 1 else 0:=by
    by_cases A:e=fF s.aR
    .rw[bn A,bn V]
    .rw[aW A,aW V]
   rw[this];omega) j.mG
  let⟨F,N⟩:=j.uw u (g:=bW.cG {f with bI:=bI,pc:=f.pc+1} x.bH (1000+fF s.aR) 1) O k2;exact j.jN P u (hd:=O) ((W k z).cG (bR V) V (λ_=>V)) Q k3 F N j.cw (dg:=s.dg) ⟨dT _,j.dg.2⟩
 have bg:(gR c.bT).length<=12:=by
  have:=tE j.iG.mT.dm c.bT.length;rw[qI _ _ bY]at this;exact this
 have bi:=j.iG.mT.aT
 by_cases e6:x.op=6
 .simp(disch:=omega) only[eD,aW,bn]at y⊢
  have v:cO c x=x.aO:=by simp(disch:=omega) only[cO,aW,bn]
  have K:lL x.op:=by unfold lL;omega
  have am:x.aO.length<=3:=by rw[y.2.1];exact DZ j.iG.mT.dm _
  split
  .rename_i aB
   have G:0<=x.dh -1/\x.dh -1<f.cC.length:=V
   have hv:=E.cC _ (iS (l:=f.cC) G.1 G.2)
   have S:1000<=bt f.cC (x.dh -1):=V
   have az:0<eU s.bq (ix (bt f.cC (x.dh -1))):=by
    rw[u,iT,lU];have:=zU d (ix (bt f.cC (x.dh -1)));have:=wG (l:=f.cC) (f:=ix (bt f.cC (x.dh -1))) (by rw[lD S];exact iS G.1 G.2);omega
   have ai:jI s.aR (ix (bt f.cC (x.dh -1))):=iC λB=>by have:=j.qV _ B;omega
   have ao:=j.eO _ ai
   let⟨ad,hd,aq⟩:=ai
   have ax:∀e,iW ad.bJ e=0:=λe=>rX λo=>by
    have:=((C.gZ ad (aZ hd)).LN V).2.1 _ o;omega
   have Q:=C.Wt (t:=x.cE) (a:=dQ f x.aO) (e':=jX (d++[bW.cG {f with bI:=bI,pc:=f.pc+1,cC:=gX f.cC (x.dh -1) 0} x.bH (bt f.cC (x.dh -1)) 1])) (f:=ix (bt f.cC (x.dh -1))) (g:=s.aR.set (ix (bt f.cC (x.dh -1))) ⟨1,x.cE,dQ f x.aO⟩)
    (jI.aae ⟨ad,hd,aq⟩) (lz hd) (λe A=>ph A) (λe=>by rw[EC _ hd,ax];simp only[];omega) (aX v) (by simpa[dQ]using am) V (λe=>by rw[v];have:=ac e;simp only[dQ];omega) (λe=>by
     rw[al _ _ _ _ K,v];simp only[dQ];rw[Tt S];omega)
   have H:∀e,eU (d++[bW.cG {f with bI:=bI,pc:=f.pc+1,cC:=gX f.cC (x.dh -1) 0} x.bH (bt f.cC (x.dh -1)) 1]) e=eU s.bq e -(if e=ix (bt f.cC (x.dh -1))then 1 else 0):=λe=>by
    rw[u,iT,iT,lU,lU];simp only[bW.cG,gX];rw[Ts _ _ (jT G.1 G.2),Tt S,aW (show¬0=1000+(e:Int)by omega)];omega
   have an:iH c {f with bI:=bI,pc:=f.pc+1,cC:=gX f.cC (x.dh -1) 0}:=by
    have k:=W V V;exact⟨k.fP,k.pc,k.lr,k.lo,by simp only[jO];exact k.lh,k.XJ,k.bI,λw o=>by rcases tO o with o|o;exact bC o;exact k.cC w o⟩
   refine j.jN P u (hd:=O) (an.cG (bR S) V (λ_=>S)) Q (j.mG.dX bO) (λp q=>?_) (λp q=>?_) j.cw (dg:=s.dg) ⟨dT _,j.dg.2⟩
   .rw[H]
    by_cases A:p=ix (bt f.cC (x.dh -1))
    .subst A;rw[jI.GK hd]at q;simp at q
    .rw[aW A];rw[jI.ne A]at q;have:=j.eO p q;omega
   .rw[H]
    by_cases A:p=ix (bt f.cC (x.dh -1))
    .subst A;rw[bn O];omega
    .rw[aW A];rw[jI.ne A]at q;have:=j.qV p q;omega
  .exact aC _ v V V K am V
 by_cases bd:x.op=10
 .simp(disch:=omega) only[eD,aW,bn]at y⊢
  obtain⟨⟨M,am,ad,an⟩,_⟩:=y
  have D:=(j.iG.mT.eR M (aZ ad)).1
  have:=br ad
  exact aC _ (by simp(disch:=omega) only[cO,aW,bn]) V V (by unfold lL;omega) V (by unfold cF;omega)
 by_cases aD:x.op=14
 .simp(disch:=omega) only[eD,aW,bn]at y⊢
  have q:=af V
  have v:cO c x=[]:=by simp[cO,aD]
  let⟨B,aq⟩:=I.dup aD
  let⟨F,N⟩:=j.uw u (g:={f with bI:=gX bI (bt x.aO 0) (bt bI (bt x.aO 0)+1),pc:=f.pc+1}) O (λe=>jI.qv B e)
  have k:=W V V
  refine j.jN P u (hd:=O) (g:={f with bI:=gX bI (bt x.aO 0) (bt bI (bt x.aO 0)+1),pc:=f.pc+1}) ⟨k.fP,k.pc,k.lr,by simp only[jO];exact k.lo,k.lh,k.XJ,λX Y w T o=>?_,k.cC⟩ (C.qv B aq λe=>?_) ?_ F N j.cw (dg:=s.dg) ⟨dT _,j.dg.2⟩
  .simp only[]at T o
   rw[EG]at T
   split at T
   .rename_i G
    simp at T
    have R:bt f.aU (bt x.aO 0)=w:=by rw[bt,fG,<-G.1,o];rfl
    have:=I.nn _ (iS (l:=bI) q.1 V)
    have:=B.1
    exact⟨V,λ_=>V⟩
   .exact k.bI X Y w T o
  .rw[jL,nR,v]
   simp only[]
   rw[Mi q.1 q.2 V]
   have G:=lD B.1
   simp only[ji,iW]
   rw[Tt B.1];omega
  .let⟨S,ai⟩:=dz B
   exact j.mG.dX eX
 have aq:x.aO.length=1->x.aO=[bt x.aO 0]:=λk=>by
  let⟨bk,hv⟩:=Nm.1 k;rw[hv];rfl
 by_cases be:x.op=15
 .simp(disch:=omega) only[eD,aW,bn]at y⊢
  have v:cO c x=[bt x.aO 0]:=by simp(disch:=omega) only[cO,bn];exact aq V
  rw[v]at C
  have Q:=jd.jK _ s.aR [bt f.aU (bt x.aO 0)] (λe=>jX d e+fA f.aU bI e) bY (C.congr λe=>O) ac
  let⟨F,N⟩:=j.uw u (g:={f with bI:=bI,pc:=f.pc+1}) O (λe=>(jI.pG (h:=jK s.aR [bt f.aU (bt x.aO 0)]) e).trans (jI.jK _ _ _ bY e))
  exact j.jN P u (hd:=O) (W V V) (Q.pG.congr λe=>by rw[jL,nR]) Lv F N j.cw (dg:=s.dg) ⟨dT _,j.dg.2⟩
 by_cases a0:x.op=16\/x.op=17
 .simp(disch:=omega) only[eD,aW,bn]at y⊢
  have q:=af V
  have v:cO c x=[bt x.aO 0]:=by simp(disch:=omega) only[cO,aW,bn,abQ]
  let⟨B,aF,ax,aO⟩:=I.Qi a0
  let⟨S,ai⟩:=dz B
  have aG:∀m∈x.aO.drop 1,0<=m/\m<bI.length/\1000<=bt f.aU m:=λm U=>by
   have k:=aa m (ue U);have z:bt f.aU m∈oC (bz s.aR (bt f.aU (bt x.aO 0))).bJ:=by rw[aF];exact gK.2 ⟨m,U,O⟩
   exact⟨k.1,V,(nT.1 z).2⟩
  have k:=W V V
  have X:iH c {f with bI:=fe bI (x.aO.drop 1),pc:=f.pc+1}:=⟨k.fP,k.pc,k.lr,by simp only[uW];exact k.lo,k.lh,k.XJ,Py (aU:=f.aU) _ bI aG k.bI,k.cC⟩
  have aY:∀e,fA f.aU (fe bI (x.aO.drop 1)) e=fA f.aU bI e+iW (bz s.aR (bt f.aU (bt x.aO 0))).bJ e:=λe=>by
   rw[JZ (aU:=f.aU) _ _ (λm U=>oh (aG m U)) V,<-Ew (bz s.aR _).bJ,aF];rfl
  have aB:0<jX d (ix (bt f.aU (bt x.aO 0)))+fA f.aU bI (ix (bt f.aU (bt x.aO 0)))+iW ((cO c x).map (bt f.aU)) (ix (bt f.aU (bt x.aO 0))):=by
   rw[v];have:=ac (ix (bt f.aU (bt x.aO 0)));simp only[eK,ji,lB B.1,bn,iW];omega
  have az:∀e,jX d e+fA f.aU (fe bI (x.aO.drop 1)) e=(jX d e+fA f.aU bI e+iW ((cO c x).map (bt f.aU)) e) -(if e=ix (bt f.aU (bt x.aO 0))then 1 else 0)+iW (bz s.aR (bt f.aU (bt x.aO 0))).bJ e:=λe=>by
   rw[aY,v];simp only[eK,ji,lB B.1,iW];omega
  split
  .rename_i ao
   have aM:=aO ao.2
   have Q:=C.Wm S ao.1 aB (c':=⟨-1,0,eP (bz s.aR (bt f.aU (bt x.aO 0))).bJ.length⟩) bO bO O (λw o=>pR o) (by simp only[lG];exact(C.gZ _ (aZ S)).fl) sx (e':=jX (d++[{f with bI:=fe bI (x.aO.drop 1),pc:=f.pc+1,cC:=gX f.cC (bt x.aO 0) (bt f.aU (bt x.aO 0))}])) (λe=>by rw[jL,nR];exact az e)
   have aI:bt x.aO 0<f.cC.length:=V
   have H:∀e,eU (d++[{f with bI:=fe bI (x.aO.drop 1),pc:=f.pc+1,cC:=gX f.cC (bt x.aO 0) (bt f.aU (bt x.aO 0))}]) e=eU s.bq e+(if e=ix (bt f.aU (bt x.aO 0))then 1 else 0):=λe=>by
    rw[u,iT,iT,lU,lU];have aE:=jT (l:=f.cC) q.1 aI;rw[aM]at aE;simp only[gX];rw[Ts _ _ aE,Tt B.1,aW V];omega
   have aQ:¬jI s.aR (ix (bt f.aU (bt x.aO 0))):=λF=>F.aae B.2
   refine j.jN P u (hd:=O) (g:={f with bI:=fe bI (x.aO.drop 1),pc:=f.pc+1,cC:=gX f.cC (bt x.aO 0) (bt f.aU (bt x.aO 0))}) ⟨X.fP,X.pc,X.lr,X.lo,by simp only[jO];exact X.lh,X.XJ,X.bI,λw o=>?_⟩ Q (j.mG.dX bO) (λp G=>?_) (λp G=>?_) j.cw (dg:=s.dg) ⟨dT _,j.dg.2⟩
   .rcases tO o with o|o
    .rw[o];exact bR B.1
    .exact E.cC w o
   .rw[H]
    by_cases A:p=ix (bt f.aU (bt x.aO 0))
    .rw[bn A,A,j.qV _ aQ];rfl
    .rw[aW A];rw[jI.ne A]at G;have:=j.eO p G;omega
   .rw[H]
    by_cases A:p=ix (bt f.aU (bt x.aO 0))
    .subst A;rw[jI.GK S]at G;simp at G
    .rw[aW A];rw[jI.ne A]at G;have:=j.qV p G;omega
  .let⟨Q,k2,k3⟩:=C.iZ B aB ax (e':=jX (d++[{f with bI:=fe bI (x.aO.drop 1),pc:=f.pc+1}])) (λe=>by rw[jL,nR];exact az e) j.mG
   let⟨F,N⟩:=j.uw u (g:={f with bI:=fe bI (x.aO.drop 1),pc:=f.pc+1}) O k2
   exact j.jN P u (hd:=O) X Q k3 F N j.cw (dg:=s.dg) ⟨dT _,j.dg.2⟩
 by_cases bf:x.op=18
 .simp(disch:=omega) only[eD,aW,bn]at y⊢
  have q:=af V
  have v:cO c x=[bt x.aO 0]:=by simp(disch:=omega) only[cO,bn];exact aq V
  have K:lL x.op:=by unfold lL;omega
  let⟨F,N⟩:=j.uw u (g:=bW.cG {f with bI:=bI,pc:=f.pc+1} x.bH (bt f.aU (bt x.aO 0)) (iV (bt f.aU (bt x.aO 0)))) O (λe=>Rb)
  refine j.jN P u (hd:=O) ((W V V).cG (ae _ q.1 q.2) Ml IP) (C.congr λe=>?_) j.mG F N j.cw (dg:=s.dg) ⟨dT _,j.dg.2⟩
  rw[al _ _ _ _ K,v,Bv];rfl
 by_cases aE:x.op=19
 .simp(disch:=omega) only[eD,aW,bn]at y⊢
  let⟨B,A⟩:=I.tL aE
  let⟨S,ai⟩:=dz B
  refine ap _ _ (by unfold lL;omega) V V (by simp[cO,aE]) ?_ j.cw
  rcases((C.gZ _ (aZ S)).wW ai).1 _ (iS y.2.1 A)with z|z
  .exact bC z
  .exact bR z.1
 by_cases a1:x.op=20
 .simp(disch:=omega) only[eD,aW,bn]at y⊢
  have:=aP V V
  exact ar _ (by split<;>omega) (by split<;>omega) (by simp[cO,a1])
 by_cases aF:x.op=21
 .simp(disch:=omega) only[eD,aW,bn]at y⊢
  let⟨B,aA⟩:=I.xS aF
  have X:tG (cX c.bT x.cE) (bz s.aR (bt f.aU (bt x.aO 0))).jx<(cX c.bT x.cE).length:=mB ⟨_,aA,bO⟩
  let⟨ao,A⟩:=y.2.2
  have:=A _ (iS (l:=x.gE) (i:=(tG (cX c.bT x.cE) (bz s.aR (bt f.aU (bt x.aO 0))).jx:Nat)) V V)
  exact ar _ V V (by simp[cO,aF])
 by_cases a2:x.op=22
 .simp(disch:=omega) only[eD,aW,bn]at y⊢
  exact ar _ V V (by simp[cO,a2])
 have aY:∀w∈dQ f x.aO,lg w\/1000<=w:=λw o=>by
  obtain⟨m,U,rfl⟩:=gK.1 o;exact ae m (aa m U).1 (aa m U).2
 have az:qM x.op->s.dg<s.dL:=λS=>by
  have:=j.dg;have:s.dg≠s.dL:=λR=>a4 ⟨S,R⟩;omega
 have aO:∀(hp:ah),s.dg<s.dL->x.op≠23->x.op≠24->∀(g:bW),iH c g->lL x.op->g.bH=x.bH->jd hp (jX (d++[{f with bI:=bI,pc:=f.pc+1},g]))->pZ hp->(∀e,jI hp e<->jI s.aR e)->(∀e,eU [g] e=0)->
  dZ c {s with dg:=s.dg+1,aR:=hp,bq:=d++[{f with bI:=bI,pc:=f.pc+1},g]}:=λhp bh k z g hg K a6 hH hT hK a7=>by
  have aI:=j.dg
  have X:=j.kU
  rw[u]at X
  have H:∀e,eU (d++[{f with bI:=bI,pc:=f.pc+1},g]) e=eU s.bq e:=λe=>by
   have:=a7 e;simp only[u,iT,eU]at this⊢;omega
  refine⟨j.iG,j.eC,⟨λR=>by simp at R;omega,sx⟩,j.iQ,j.Cj,j.dL,⟨by simp only[];omega,by simp only[];omega⟩,by simp at X⊢;omega,j.cw,hH,hT,λM J=>?_,PM aw O,(au.Od (b:={f with bI:=bI,pc:=f.pc+1}) O).iJ (by rw[a6];exact⟨av.1,by simp only[];omega,aK K⟩),λp q=>by rw[H];exact j.eO p ((hK p).1 q),λp q=>by rw[H];exact j.qV p λD=>q ((hK p).2 D)⟩
  have:=W k z
  grind
 by_cases e9:x.op=9
 .simp(disch:=omega) only[eD,aW,bn]at y⊢
  let⟨M,am,ad,an⟩:=y
  have v:cO c x=jV c x 0 x.aO:=by simp(disch:=omega) only[cO,aW,bn]
  refine aO s.aR (az (bC e9)) V V (cz c x.cE x.bH (dQ f x.aO)) (yP j.iG am ad (by simp[dQ,an]) aY) (by unfold lL;omega) O (C.congr λe=>?_) j.mG (λ_=>Rb) tP
  rw[jL,v]
  simp only[jX]
  rw[uO,Mk];omega
 by_cases aG:x.op=24
 .simp(disch:=omega) only[eD,aW,bn]at y⊢
  let⟨M,am,ad,an⟩:=y
  have v:cO c x=jV c x 0 x.aO:=by simp(disch:=omega) only[cO,aW,bn]
  let⟨ao,aB⟩:=I.ov (bC aG)
  have H:∀e,eU (d++[cz c x.cE f.bH (dQ f x.aO)]) e=eU s.bq e:=λe=>by
   rw[u,iT,iT,tP,lU,rX (λo=>oh (aB _ o))]
  have A:=az (bR (bR aG))
  refine j.jN P u (hd:=O) (yP j.iG am ad (by simp[dQ,an]) aY) (C.congr λe=>?_) j.mG (λp q=>by rw[H];exact j.eO p q) (λp q=>by rw[H];exact j.qV p q) j.cw (dg:=s.dg+1) V
  rw[jL,nR,uO,Mk,v,xC ao];omega
 by_cases am:x.op=11
 .simp(disch:=omega) only[eD,aW,bn]at y⊢
  have v:cO c x=x.aO:=by simp(disch:=omega) only[cO,aW,bn]
  have a3:x.aO=[bt x.aO 0,bt x.aO 1]:=by
   cases A:x.aO with
   |nil=>rw[A]at y;simp at y
   |cons an ad=>cases ad with
    |nil=>rw[A]at y;simp at y
    |cons aM ad=>cases ad with
     |nil=>rfl
     |cons _ _=>rw[A]at y;simp at y
  have an:0<=bt x.aO 1/\bt x.aO 1<f.aU.length:=aa _ (iS V V)
  let⟨B,bb,bj,a5,aM,ax⟩:=I.apply am
  let⟨S,ai⟩:=dz B
  let⟨M,J⟩:=dU c.di (((bz s.aR (bt f.aU (bt x.aO 0))).jx -cF c).toNat)
  have aQ:dG c ((bz s.aR (bt f.aU (bt x.aO 0))).jx -cF c)=M:=by simp[dG,J]
  rw[aQ]at a5 aM
  have ad:∀e,iW ((cO c x).map (bt f.aU)) e=(if e=ix (bt f.aU (bt x.aO 0))then 1 else 0)+iW [bt f.aU (bt x.aO 1)] e:=λe=>by
   rw[v,a3];simp only[eK,ji];rw[lB]
   .rfl
   .exact B.1
  let⟨Q,k2,k3⟩:=C.iZ B (by simp only[ad,bn];have:=ac (ix (bt f.aU (bt x.aO 0)));have:=lC [bt f.aU (bt x.aO 1)] (ix (bt f.aU (bt x.aO 0)));omega) ax
   (e':=jX (d++[{f with bI:=bI,pc:=f.pc+1},cz c ((bz s.aR (bt f.aU (bt x.aO 0))).jx -cF c) x.bH ((bz s.aR (bt f.aU (bt x.aO 0))).bJ++[bt f.aU (bt x.aO 1)])])) (λe=>by
    rw[jL,ad];simp only[jX];rw[uO,aQ,cp.1 aM,NI,pB];omega) j.mG
  refine aO _ (az (bR (bC am))) V V _ (yP j.iG bb J eX λw o=>?_) (by unfold lL;omega) O Q k3 k2 tP
  rcases bU.1 o with o|o
  .rcases((C.gZ _ (aZ S)).wW ai).1 w o with z|z
   .exact bC z
   .exact bR z.1
  .simp at o;subst o;exact ae _ an.1 an.2
 have ai:x.op=23:=iC λ_=>by simp(disch:=omega) only[aW]at y
 simp(disch:=omega) only[eD,aW,bn]at y⊢
 have q:=af V
 have v:cO c x=[bt x.aO 0]:=by simp(disch:=omega) only[cO,bn];exact aq V
 let⟨ao,aB⟩:=I.ov (bR ai)
 have an:∀e,eU [f] e=0:=λe=>by rw[lU];exact rX (λo=>oh (aB _ o))
 split
 .rename_i A
  have ad:d=[]:=List.getLast?_eq_none_iff.1 A
  subst ad
  have B:=I.tT ai
  have ag:=aN _ q.1 q.2 (by rcases B with k|k;(rw[u]at k;simp at k);exact k)
  have aI:=j.dg
  refine⟨j.iG,⟨bO,bO⟩,bO,ag,bO,j.dL,j.dg,eX,j.cw,C.congr λe=>?_,j.mG,bO,bO,bO,λp G=>?_,λp G=>?_⟩
  .rw[v,xC ao]
   simp only[jX,eK,ji]
   rw[rX (by simp;have:=ag.2;omega)];rfl
  .have k:=j.eO p G
   rw[u]at k
   have z:=an p
   simp only[iA]at k
   omega
  .simp[eU]
 .rename_i B A
  have ad:d=d.dropLast++[B]:=by
   have ax:d≠[]:=λR=>by rw[R]at A;simp at A
   rw[rB ax]at A;simp at A;rw[<-A];exact(nH ax).symm
  generalize d.dropLast=fs' at ad
  subst ad
  have ag:iH c B:=ay B bO
  let⟨aM,aQ,a3⟩:=j.uJ fs'.length B f (by rw[u];simp) (by rw[u];simp)
  have a5:f.bH<B.aU.length:=by have:=ag.lr;have:=ag.lo;omega
  have aI:=j.dg
  have X:=j.kU
  rw[u]at X
  have H:∀e,eU (fs'++[B.cG f.bH (bt f.aU (bt x.aO 0)) (iV (bt f.aU (bt x.aO 0)))]) e=eU s.bq e:=λe=>by
   rw[u,iT,iT,an,iT,lU,lU];simp[bW.cG]
  refine⟨j.iG,j.eC,⟨λR=>by simp at R;omega,sx⟩,j.iQ,j.Cj,j.dL,j.dg,by simp at X⊢;omega,j.cw,C.congr λe=>?_,j.mG,λM J=>?_,PM (l:=fs') (a:=B) (r:=[f]) (sp aw) O,au.ry.Od O,λp G=>by rw[H];exact j.eO p G,λp G=>by rw[H];exact j.qV p G⟩
  .rw[jL,nR,jL,nR,v,xC ao]
   simp only[bW.cG,eK,ji]
   rw[Sq aM a5 aQ a3,Bv];omega
  .rcases bU.1 J with J|J
   .exact ay M (dN _ J)
   .simp at J;subst J
    exact ag.cG (ae _ q.1 q.2) Ml IP
def O1(h:dZ c s):dZ c (qy c s):=by
 unfold qy;by_cases b:s.eC=3
 .rw[aW (sp b)];let⟨d,f,a⟩:=h.split b;have i:s.bq.getLast?=some f:=by rw[a];simp
  have j:s.bq.dropLast=d:=by rw[a];simp
  rw[i,j];simp only[];have g:∀n,1<=n->n<=2->dZ c {s with eC:=n}:=λn l m=>
   ⟨h.iG,⟨by simp only[];omega,by simp only[];omega⟩,⟨λe=>by simp only[]at e;omega,λe=>by simp only[]at e;rw[a]at e;simp at e⟩,h.iQ,λe=>oh (h.Cj e),h.dL,h.dg,h.kU,h.cw,h.aR,h.mG,h.bq,h.first,h.uJ,h.eO,h.qV⟩
  split
  .exact g 1 V V
  .rename_i e;split
   .rename_i k;exact Wy h b a k e
   .exact g 2 V V
 .rw[bn (sp b)];exact h
end
section
variable{a:da}{s:St}
def we(a:da):an->Int
 |[]=>0
 |f::b=>((dG a f.fP).eA.length -f.pc)+we a b
def qN(a:da):∀(l r:an),we a (l++r)=we a l+we a r
 |[],r=>by simp[we]
 |f::l,r=>by simp only[eS,we,qN a l r];omega
def AR(a:da)(s:St):Int:=we a s.bq+(s.dL -s.dg)*2000
def Z1{a:da}:∀{b:an},(∀f∈b,iH a f)->0<=we a b
 |[],_=>by simp[we]
 |f::b,h=>by
  have:=Z1 (λg c=>h g (aX _ c));have:=(h f cK).pc;simp only[we];omega
def aa3(h:dZ a s):0<=AR a s:=by
 have:=Z1 h.bq;have:=h.dg;unfold AR;omega
def Tv{d:an}{f:bW}(I:dZ a s)(m:s.bq=d++[f])
 (M:pb a s f (fE a f) (cL f.aU f.bI (cO a (fE a f)))):
 AR a (eD a s d f (fE a f) (cL f.aU f.bI (cO a (fE a f))))<AR a s:=by
 have K:iH a f:=by grind [dZ.bq]
 let⟨ac,hp,N,hP,aa,T⟩:=K.Kw I.iG
 have U:=K.pc
 generalize fE a f=x at*
 generalize cL f.aU f.bI (cO a x)=bI at*
 rw[N]at U
 have mM:∀(g:bW)(b:St),b.bq=d++[g]->g.fP=f.fP->f.pc<g.pc->b.dL=s.dL->b.dg=s.dg->AR a b<AR a s:=λg b e J R h j=>by
  unfold AR;rw[m,e,h,j,qN,qN];grind [we]
 have eA:∀q:Int,0<=q->q<a.di.length->((dG a q).eA.length:Int)<=2000:=λq Z J=>by
  let⟨P,W⟩:=dU a.di q.toNat;have:=(I.iG.eR P (aZ W)).aT;have Q:dG a q=P:=by grind [dG]
  rw[Q];omega
 have Nj:∀(g n:bW)(b:St),b.bq=d++[g,n]->g.fP=f.fP->f.pc<g.pc->0<=n.fP->n.fP<a.di.length->n.pc=0->b.dL=s.dL->b.dg=s.dg+1->AR a b<AR a s:=λg n b e J R r t S h j=>by
  have:=eA n.fP r t;unfold AR;rw[m,e,h,j,qN,qN];grind [we]
 have tail:∀(n:bW)(b:St),b.bq=d++[n]->0<=n.fP->n.fP<a.di.length->n.pc=0->b.dL=s.dL->b.dg=s.dg+1->AR a b<AR a s:=λn b e r t S h j=>by
  have:=eA n.fP r t;unfold AR;rw[m,e,h,j,qN,qN];grind [we]
 have c:=T.op
 unfold mJ at c
 unfold eD
 simp only[]
 by_cases u:x.op=0
 .rw[bn u];exact mM _ _ O O (by show f.pc<f.pc+1;omega) O O
 rw[aW u]at c⊢
 by_cases v:x.op=1\/x.op=2\/x.op=3\/x.op=4
 .rw[bn v];exact mM _ _ O O (by show f.pc<f.pc+1;omega) O O
 rw[aW v]
 by_cases G:x.op=5
 .rw[bn G];exact mM _ _ O O (by show f.pc<f.pc+1;omega) O O
 rw[aW G]
 by_cases k:x.op=6
 .rw[bn k]
  split
  .exact mM _ _ O O (by show f.pc<f.pc+1;omega) O O
  .exact mM _ _ O O (by show f.pc<f.pc+1;omega) O O
 rw[aW k]
 by_cases w:x.op=10
 .rw[bn w];exact mM _ _ O O (by show f.pc<f.pc+1;omega) O O
 rw[aW w]
 by_cases y:x.op=14
 .rw[bn y];exact mM _ _ O O cB O O
 rw[aW y]
 by_cases z:x.op=15
 .rw[bn z];exact mM _ _ O O cB O O
 rw[aW z]
 by_cases A:x.op=16\/x.op=17
 .rw[bn A]
  split
  .exact mM _ _ O O cB O O
  .exact mM _ _ O O cB O O
 rw[aW A]
 by_cases B:x.op=18
 .rw[bn B];exact mM _ _ O O (by show f.pc<f.pc+1;omega) O O
 rw[aW B]
 by_cases C:x.op=19
 .rw[bn C];exact mM _ _ O O (by show f.pc<f.pc+1;omega) O O
 rw[aW C]
 by_cases D:x.op=20
 .rw[bn D]
  simp(disch:=omega) only[aW,bn]at c
  exact mM _ _ O O cB O O
 rw[aW D]
 by_cases p:x.op=21
 .rw[bn p]
  simp(disch:=omega) only[aW,bn]at c
  let⟨L,E⟩:=M.xS p
  have F:tG (cX a.bT x.cE) (bz s.aR (bt f.aU (bt x.aO 0))).jx<(cX a.bT x.cE).length:=mB ⟨_,E,bO⟩
  let⟨H,o⟩:=c.2.2
  have:=o _ (iS (l:=x.gE) (i:=(tG (cX a.bT x.cE) (bz s.aR (bt f.aU (bt x.aO 0))).jx:Nat)) V V)
  exact mM _ _ O O cB O O
 rw[aW p]
 by_cases E:x.op=22
 .rw[bn E]
  simp(disch:=omega) only[aW,bn]at c
  exact mM _ _ O O cB O O
 rw[aW E]
 by_cases H:x.op=9
 .rw[bn H]
  rw[aW V,aW V,aW k,bn V]at c
  let⟨q,X,o,Y⟩:=c
  have:=br o
  exact Nj _ _ _ O O cB (by simp only[cz];omega) (by simp only[cz];omega) O O O
 rw[aW H]
 by_cases F:x.op=24
 .rw[bn F]
  rw[aW V,aW V,aW k,bn V]at c
  let⟨q,X,o,Y⟩:=c
  have:=br o
  exact tail _ _ O (by simp only[cz];omega) (by simp only[cz];omega) O O O
 rw[aW F]
 by_cases o:x.op=11
 .rw[bn o]
  obtain⟨L,X,Y,_⟩:=M.apply o
  exact Nj _ _ _ O O cB (by simp only[cz];omega) (by simp only[cz];omega) O O O
 rw[aW o]
 split
 .grind [List.getLast?_eq_none_iff,AR,we]
 .rename_i X Y
  have L:d=d.dropLast++[X]:=by
   have ab:d≠[]:=cB;grind [List.getLast?_eq_some_getLast,List.dropLast_concat_getLast]
  generalize d.dropLast=fs' at L
  subst L
  unfold AR
  rw[m]
  simp only[qN,we,bW.cG,N];omega
def YK(h:dZ a s)(k:s.eC=3)(b:(qy a s).eC=3):AR a (qy a s)<AR a s:=by
 let⟨g,f,j⟩:=h.split k;have d:s.bq.getLast?=some f:=cB;have e:s.bq.dropLast=g:=cB;unfold qy at b⊢;rw[aW cB,d,e]at b⊢;simp only[]at b⊢;split at b
 .simp at b
 .rename_i i;rw[aW i];split at b
  .rename_i c;rw[bn c];exact Tv h j c
  .simp at b
noncomputable def bA (a:da):Nat->St->St
 |0,s=>s
 |n+1,s=>bA a n (qy a s)
theorem xR(a:da):∀(n:Nat)(s:St),bA a (n+1) s=qy a (bA a n s)
 |0,s=>O
 |n+1,s=>by rw[bA,xR a n,bA]
def xQ{a:da}:∀(n:Nat){s:St},dZ a s->dZ a (bA a n s)
 |0,s,h=>h
 |n+1,s,h=>xQ n (O1 h)
theorem tZ(h:s.eC≠3):qy a s=s:=by grind [qy]
theorem pV{a:da}:∀(n:Nat){s:St},s.eC≠3->bA a n s=s
 |0,s,_=>O
 |n+1,s,h=>by rw[bA,tZ h,pV n h]
def QW{a:da}:∀(n:Nat){s:St},dZ a s->AR a s<n->(bA a n s).eC≠3
 |0,s,h,d=>by have:=aa3 h;omega
 |n+1,s,h,d=>by
  rcases gJ (s.eC=3)with b|b
  .rcases gJ ((qy a s).eC=3)with c|c
   .have:=YK h b c;exact QW n (O1 h) V
   grind [bA,pV]
  .grind [pV]
def jC(a:da)(dL:Int):St:=⟨3,0,0,dL,[],[],[cz a 0 0 []]⟩
def AO{dL:Int}(b:iB a)(j:0<=dL/\dL<=40):dZ a (jC a dL):=by
 have n:=b.mT.aT;let⟨p,g⟩:=dU a.di 0;have m:=b.mT.first p g;have l:=yP (j:=0) (e:=[]) b (dT 0) g cB bO;have f:∀h,jX [cz a 0 0 []] h=0:=by grind [nR,uO,fA]
 refine⟨b,by simp[jC],by simp[jC],by simp[jC,lg],by simp[jC],j,by simp[jC];omega,by simp[jC],by simp[jC],⟨by simp[jC],⟨λ_=>0,by simp[jC]⟩,by simp[jC],λc=>by simp only[jC];rw[f];omega,λc d=>by simp only[jC]at d;rw[f]at d;omega⟩,?_,?_,?_,?_,λc⟨i,d,_⟩=>by simp[jC]at d,λc _=>tP _⟩
 .intro i d;simp[jC]at d
 .grind [jC]
 .intro k e;simp[jC]at e;subst e;rfl
 .grind [jC]
def WU{dL:Int}(b:iB a)(c:0<=dL/\dL<=40):AR a (jC a dL)<=82000:=by
 grind [iB.mT,nD.aT,dU,iB.eR,aZ,pd.aT,dG,AR,jC,we,cz]
end
section
variable{k:Nat}{m:bh}
theorem qG{a:af}{d:cR}:zf a k d<->((zL a.length d.qe/\zL a.length d.to/\d.eB.length<=3/\(0<d.eB.length->d.qe=0/\d.to=0))/\
 (∀f∈d.eB,f.length<=3/\HI a.length f)/\∀e∈a.take k,¬(d.eB.length=0/\e.eB.length=0/\e.qe=d.qe/\e.to=d.to)):=by
 constructor
 .grind [Nat.eq_zero_or_pos,List.length,zf.Qf,List.length_eq_zero_iff,zf.ju,zL]
 .rintro⟨⟨f,g,h,c⟩,i,j⟩
  exact⟨λb=>⟨h,(c b).1,(c b).2,i⟩,λb=>⟨λe l m=>j e l ⟨b,m⟩,f,g⟩⟩
def Iy{bT:E}{a:af}(hd:dE m bT a):fX dO 42 [bT.v] m (eT a):=by
 apply CO;simp -zeta only[dR];have r:=hd.aT;have aj:=hd.ms;refine⟨λJ=>?_,λJ=>?_⟩
 .grind [eT.aT,D.cT]
 simp only[dk]at J;refine gP (n:=a.length) V (λk b=>D m b/\∀(j:Nat)(d:cR),j<k->a[j]? =some d->zf a j d) ⟨cY,bO⟩ ?_;rintro j C ag μ hj ⟨z,Z⟩ ae
 refine dit (λU=>?_) λU=>?_
 .let⟨d,X⟩:=dU a j;let⟨u,y,T,g1,g2⟩:=(dE.ext z hd).bt X;have am:=y.aT;refine⟨V,V,_,T,_,g1,u,g2,?_⟩;intro m2 s;have A:D C s:=by grind [D.cT,D.bZ,D.aV]
  have M:∀i∈[C.size],i<s.size:=by grind [bD]
  have ab:=z.J A;have q:∀{b:bh},D s b->¬zf a j d->∃H:Bool,vb false=.bool H/\(H=true<->eT a)/\D m b:=by grind [eT.eR,D.J]
  refine⟨λb=>D s b/\zL a.length d.qe/\zL a.length d.to/\d.eB.length<=3/\(0<d.eB.length->d.qe=0/\d.to=0),?_,?_⟩
  .refine(tH).bL cY M λi m4 e K l=>⟨_,O,λc=>q l λg=>nb e c (r▸(qG.1 g).1.1),λc=>?_⟩;have w:=yb e c;refine(tH).bL l M λi t e v f=>⟨_,O,λh=>q f λg=>nb e h (r▸(qG.1 g).1.2.1),λh=>?_⟩;have x:=yb e h;rw[r]at w x;refine⟨λo=>?_,λo=>?_⟩
   .grind [qG]
   simp only[dk]at o;refine⟨λp=>?_,λp=>?_⟩
   .grind [qG,bne_eq_false_iff_eq]
   grind [decide_eq_false_iff_not]
  .rintro m4 ⟨P,al⟩;have ak:=tq.ext (A.J P) y;refine gP (n:=d.eB.length) V (λk b=>D s b/\∀u∈d.eB.take k,u.length<=3/\HI a.length u) ⟨P,bO⟩ ?_;rintro B t I2 μ2 hi ⟨o,N⟩ ac;refine dit (λK=>?_) λK=>?_
   .let⟨I,p⟩:=dU d.eB B;let⟨Q,L,R⟩:=(tq.ext (A.J o) y).bt p;have W:=L.aT;refine⟨V,V,Q,R,?_⟩;intro F G;have w:D t G:=by grind [D.cT,D.bZ,D.aV]
    have S:∀i∈[t.size,C.size],i<G.size:=by
     grind [D.lt,Array.size,bD]
    refine dit (λl=>?_) λl=>?_
    .exact q (o.J w) λg=>by have:=((qG.1 g).2.1 I (aZ p)).1;omega
    exact(zW (L.ext w)).bL cY S λi x e c v=>⟨_,O,λf=>q ((o.J w).J c) λg=>nb e f (r▸((qG.1 g).2.1 I (aZ p)).2),λf=>ac V _ ⟨(o.J w).J c,dK p N ⟨V,r▸yb e f⟩⟩⟩
   .have ah:=gH V N;refine⟨V,V,V,?_⟩;have W:dE t (bT.cut 0 j 3) (a.take j):=by grind [fW.SW,dE.ext,D.J]
    have ai:(bT.cut 0 j 3).len=j:=by grind [fW.aT]
    simp -zeta only[fR,Int.toNat_zero];refine gP (n:=j) V (λk b=>D t b/\∀e∈a.take k,¬(d.eB.length=0/\e.eB.length=0/\e.qe=d.qe/\e.to=d.to)) ⟨cY,bO⟩ ?_;rintro p F R μ3 ao ⟨w,aa⟩ ad;refine dit (λl=>?_) λl=>?_
    .let⟨e,I⟩:=dU a p;have L:(a.take j)[p]? =some e:=by rw[lP,bn V];exact I
     let⟨S,Y,q0,q1,q2⟩:=(dE.ext w W).bt L;have an:=Y.aT;refine⟨V,V,_,q0,_,q1,S,q2,?_⟩;intro G x;have Q:D F x:=by grind [D.cT,D.bZ,D.aV]
     have ap:¬(d.eB.length=0/\e.eB.length=0/\e.qe=d.qe/\e.to=d.to)->R (eI ((p:Int)+1)) x/\μ3 (eI ((p:Int)+1)) x<μ3 p F:=λhq=>ad V _ ⟨w.J Q,dK I aa hq⟩;refine⟨λc=>?_,λc=>?_⟩
     .simp only[bP]at c;refine⟨λv=>?_,λv=>?_⟩
      .simp only[bP]at v;refine⟨λf=>?_,λf=>?_⟩
       .simp only[bP]at f;refine⟨λh=>?_,λh=>?_⟩
        .simp only[bP]at h;exact q ((o.J w).J Q) λg=>(qG.1 g).2.2 e (aZ L) ⟨V,V,f,h⟩
        grind [beq_eq_false_iff_ne]
       grind [beq_eq_false_iff_ne]
      grind [beq_eq_false_iff_ne]
     grind [beq_eq_false_iff_ne]
    .have:p=j:=V;subst this;refine ae V _ ⟨(ab.J o).J w,λg c f e=>?_⟩
     grind [qG]
 .exact oO ⟨V,λB d dA=>Z B d (oh (br dA)) dA⟩ z
def SH(m:bh)(b:ae)(p:eE):Prop:=∃a l,b=[.s a,.s l,.i p.bQ]/\be m a p.aY/\be m l p.df
def SH.ext{m d:bh}(b:D m d)(a:ae)(c:eE):SH m a c->SH d a c:=λ⟨f,g,e,h,i⟩=>⟨f,g,e,h.ext b,i.ext b⟩
abbrev oW(m:bh)(s:E)(l:av):Prop:=fW m 3 (SH m) s l
def oW.ext{m b:bh}(a:D m b){s:E}{l:av}(h:oW m s l):oW b s l:=h.aP a (SH.ext a)
theorem oW.bt{s:E}{l:av}(h:oW m s l){x:eE}(f:l[k]? =some x):
 ∃a b,be m a x.aY/\be m b x.df/\aS m s.bu (s.off+k*3)=some a.v/\aS m s.bu (s.off+k*3+1)=some b.v/\aS m s.bu (s.off+k*3+2)=some (vi x.bQ):=by
 obtain⟨g,⟨a,b,rfl,d,e⟩,c⟩:=h.kY k x f
 exact⟨a,b,d,e,c 0 (.s a) O,c 1 (.s b) O,c 2 (.i x.bQ) O⟩
def Kr{L M:E}{f:af}{b:av}(hd:dE m L f)(C:oW m M b):
 fX dO 78 [L.v,M.v] m (nD f b/\∀p∈b,Im p.aY p.df):=by
 apply Em
 simp -zeta only[dR]
 have B:=hd.aT
 have ax:=C.aT
 refine(Iy hd).cg λh m1 c F=>⟨_,O,λu=>fy (λa=>nb c u a.1.dm) F,λu=>?_⟩
 have ht:=yb c u
 refine⟨λR=>?_,λR=>?_⟩
 .grind [nD.aT]
 simp only[dk]at R
 refine⟨λS=>?_,λS=>?_⟩
 .grind [nD.aT]
 simp only[dk]at S
 let⟨p0,ak⟩:=dU b 0
 let⟨a0,l0,aj,az,g0,g1,g2⟩:=(oW.ext F C).bt ak
 have au:=aj.aT
 refine⟨V,V,a0,g0,λT=>?_,λT=>?_⟩
 .grind [nD.first]
 simp only[dk]at T
 refine⟨V,V,_,g2,λU=>?_,λU=>?_⟩
 .grind [nD.first]
 simp only[nX]at U
 refine gP (n:=b.length) V (λj H=>D m H/\∀p∈b.take j,(p.aY.length<=3/\HI f.length p.aY/\zL f.length p.bQ)/\Im p.aY p.df) ⟨F,bO⟩ ?_
 rintro j I aq μ hj ⟨q,Y⟩ ap
 refine dit (λh6=>?_) λh6=>?_
 .let⟨p,o⟩:=dU b j
  let⟨ae,an,A,l,q0,q1,q2⟩:=(oW.ext q C).bt o
  have aw:=A.aT
  have aB:=l.aT
  have aA:=l.kM
  refine⟨V,V,ae,q0,an,q1,_,q2,?_⟩
  intro m3 m4
  have r:D I m4:=by grind [D.cT,D.bZ,D.aV]
  have X:∀h∈[I.size],h<m4.size:=by grind [bD]
  refine⟨λW=>?_,λW=>?_⟩
  .grind [nD.eR,aZ,D.J]
  simp only[dk]at W
  refine(zW (A.ext r)).bL cY X λh m5 c h8 h9=>⟨_,O,λw=>fy (λa=>nb c w (B▸(a.1.eR p (aZ o)).2.1)) ((q.J r).J h8),λw=>?_⟩
  have ab:=yb c w
  refine(tH).bL h9 X λh J c ar N=>⟨_,O,λy=>fy (λa=>nb c y (B▸(a.1.eR p (aZ o)).2.2)) ((q.J r).J N),λy=>?_⟩
  have aa:=yb c y
  rw[B]at ab aa
  have am:D m J:=by grind [D.J]
  have G:D I J:=r.J N
  refine gP (n:=p.df.length) V (λk H=>H=J/\∀(j:Nat)(v:Int),j<k->p.df[j]? =some v->(∃t,0<=v/\p.aY[v.toNat]? =some t/\t≠0)/\(∀ac:Int,0<j->p.df[j -1]? =some ac->ac<v)) ⟨O,bO⟩ ?_
  rintro k m7 I2 μ2 hk ⟨rfl,Z⟩ ao
  have i:¬Im p.aY p.df->∃K:Bool,vb false=.bool K/\(K=true<->nD f b/\∀p∈b,Im p.aY p.df)/\D m m7:=by grind [aZ]
  refine dit (λah=>?_) λah=>?_
  .let⟨x,e⟩:=dU p.df k
   refine⟨V,V,x,by simpa using G.aS (l.bt e),dit (λai=>?_) λai=>?_⟩
   .exact i λa=>by obtain⟨⟨t,P,_⟩,_⟩:=a k x e;omega
   refine dit (λP=>?_) λP=>?_
   .refine i λa=>?_
    obtain⟨⟨t,_,g,_⟩,_⟩:=a k x e
    have:=br g;omega
   let⟨t,al⟩:=dU p.aY x.toNat
   refine⟨V,V,t,by simpa using G.aS (A.bt al),λg=>?_,λg=>?_⟩
   .simp only[bP]at g
    refine i λa=>?_
    obtain⟨⟨d,_,z,Q⟩,_⟩:=a k x e
    grind
   simp only[ba]at g
   refine⟨λz=>?_,λz=>?_⟩
   .simp only[bg]at z
    have e2:eI ((k:Int) -1)=((k -1:Nat):Int):=by grind [de]
    let⟨ad,hy⟩:=dU p.df (k -1)
    rw[e2]
    refine⟨V,V,ad,by simpa using G.aS (l.bt hy),dit (λQ=>?_) λQ=>?_⟩
    .exact i λa=>by have:=(a k x e).2 ad V hy;omega
    .refine ao V _ ⟨O,λs v ay d=>?_⟩
     by_cases ag:s=k
     .subst ag
      rw[e]at d;simp at d;subst d
      constructor<;>grind
     .exact Z s v V d
   grind [decide_eq_false_iff_not]
  .exact ap V _ ⟨am,dK o Y ⟨⟨V,ab,aa⟩,λs v d=>Z s v (oh (br d)) d⟩⟩
 .have d:=gH V Y
  refine oO ⟨⟨ht,V,λp a=>(d p a).1,λp a=>?_⟩,λp a=>(d p a).2⟩ q
  grind
end
section
variable{c:bh}{d f a j:E}{b:da}{i:Instr}
def yN{I:E}(B:gY c d I b):
 bK dO 47 [.agg #[E.v d,E.v I]] c λam s=>∃T f e,am=.tuple #[.agg #[E.v T,E.v f],vb e]/\(e=true<->nD b.bT b.di/\∀I∈b.di,Im I.aY I.df)/\
  (e=true->T=d/\oW s f b.di)/\D c s:=by
 apply Ek
 simp -zeta only[kJ,nO]
 intro N h
 have ap:=B.di.aT
 have s1:=pz N
 have s2:h.size=c.size+2:=by simp[h,N]
 have ab:D c h:=((D.cT c).bZ _).bZ _
 refine dit (λh1=>?_) λh1=>?_
 .intro g
  exact⟨_,_,_,O,⟨sx,λB=>oh B.1.aT⟩,sx,ab.aV V _ _⟩
 intro m4 H
 have s5:H.size=c.size+3:=by simp[H,m4,bD,s2]
 have ak:D c H:=(ab.bZ _).aV V _ _
 have ag:dF H h.size pH [.s d,.s .nil]:=dF.aV (m:=m4) (o:=0) (r:=[.s d,.s .nil]) (dF.push h _ _)
 refine gP (n:=b.di.length) V (λM s=>D c s/\H.size<=s.size/\∃g w,dF s h.size pH [.s d,.s g]/\jw c s uc 3 g w.flatten/\iy 3 (SH c) w (b.di.take M)/\(g≠.nil->h.size<g.bu)/\g.len=M)
  ⟨ak,bY,.nil,[],ag,jw.gN _ _ _ _,by simpa using iy.gN 3 (SH c),bO,O⟩ ?_
 rintro M t an μ hk ⟨j,aq,g,w,q,K,L,R,aa⟩ al
 refine dit (λh2=>?_) λh2=>?_
 .let⟨P,Y⟩:=dU b.di M
  let⟨a,e,ac,ha,l,y,g0,g1,g2,g3,g4⟩:=B.di.bt Y
  refine⟨V,V,a,by simpa using j.aS g0,e,by simpa using j.aS g1,_,by simpa using j.aS g2,_,by simpa using j.aS g3,ac,by simpa using j.aS g4,?_⟩
  intro m7 k
  obtain⟨F,s8⟩:=pv k
  clear_value k
  refine⟨g,(q.ext F).dx 1,?_⟩
  intro u
  have S:D t u:=F.bZ _
  have s9:u.size=t.size+2:=by simp[u,s8]
  have mu:jF u k.size 0 [.s a,.s e,.i P.bQ]:=(dF.push k _ _).kY
  clear_value u
  refine jw.fw (c:=[.s .nil,.s .nil,.i 0]) (i:=[.s a,.s e,.i P.bQ]) (K.ext S) (j.J S) O mu (by simp[aa];omega) ?_
  intro v A h7 h8 U ao ad ae
  have Z:v≠.nil->h.size<v.bu:=by
   intro z;rcases ae with⟨_,x⟩|⟨ai,x,_⟩|x
   .exact absurd x z
   .have:=R ai;omega
   .omega
  have J:∀i,i<u.size->i<=h.size\/i=t.size/\(g=.nil\/g.bu<t.size)->A[i]? =u[i]? :=by
   intro i p y;refine ad i p λz=>?_;have:=R z;rcases y with y|⟨rfl,y|y⟩
   .omega
   .exact absurd y z
   .omega
  have ah:g=.nil\/g.bu<t.size:=K.lt
  have W:dF A h.size pH [.s d,.s g]:=(q.ext S).congr (J _ V (bC bY))
  refine⟨λi p=>?_,W.jb bO,?_⟩
  .simp at p
   rcases p with rfl|rfl|rfl
   .exact J _ V (bR ⟨O,ah⟩)
   .exact J _ V (bC V)
   .exact J _ V (bC V)
  intro G
  have ar:G.size=A.size:=by simp[G,bD]
  have af:dF G h.size pH [.s d,.s v]:=dF.aV (m:=A) (o:=1) (r:=[.s v]) W
  have X:∀e,e≠h.size->G[e]? =A[e]? :=λe l=>cq _ _ _ _ l
  have aj:D c G:=h8.aV V _ _
  refine⟨λi p=>?_,?_⟩
  .simp at p
   rcases p with rfl|rfl|rfl<;>exact X _ V
  refine al V _ ⟨aj,V,v,w++[[.s a,.s e,.i P.bQ]],af,?_,?_,Z,by simp[U,aa]⟩
  .rw[uH]
   have Q:jw c A uc 3 v (w.flatten++[[.s a,.s e,.i P.bQ]].flatten):=sp h7
   rcases Q.lt with x|x
   .subst x;exact⟨Q.aT,bC O⟩
   .refine Q.congr (X _ λe2=>?_)
    by_cases C:v=.nil
    .subst C
     have:=U
     simp at this
    .have:=Z C;omega
  .rw[bX Y]
   exact L.Dd O ⟨a,e,O,ha,l⟩
 .rw[eQ V]at L
  have x:oW t g b.di:=(fW.jA K L V V).aP cY (SH.ext j)
  refine⟨d,q.dx 0,g,q.dx 1,g,q.dx 1,?_⟩
  have u:∀e∈[N.size,c.size],e<t.size:=eX
  refine(Kr (dE.ext j B.bT) x).bL cY u λe m7 l i _=>⟨_,O,i.cZ (q.dx 0),i.cZ (q.dx 1),?_⟩
  intro k
  have z:∀e,e≠N.size->k[e]? =m7[e]? :=λe l=>cq _ _ _ _ l
  have F:D c k:=(j.J i).aV V _ _
  refine⟨d,g,e,O,l,λ_=>⟨O,?_⟩,F⟩
  have p:=K.ext i
  have v:jw c k uc 3 g w.flatten:=by
   by_cases C:g=.nil
   .subst C;exact⟨p.aT,bC O⟩
   .exact p.congr (z _ (oh (R C)))
  exact(fW.jA v L V V).aP cY (SH.ext F)
def tw(b:da)(i:Instr)(a:Int->Prop):Prop:=
 if i.op=0 then -999<=i.cE/\i.cE<=999
 else if i.op=6 then 0<=i.cE/\i.cE<(gR b.bT).length
 else if i.op=9\/i.op=24 then 0<=i.cE/\i.cE<b.di.length
 else if i.op=10 then 0<=i.cE/\∃q,b.di[i.cE.toNat]? =some q/\q.df.length=0
 else if i.op=19 then 0<=i.cE/\i.cE<3
 else if i.op=20\/i.op=22 then a i.cE
 else if i.op=21 then 0<(cX b.bT i.cE).length/\i.gE.length=(cX b.bT i.cE).length
 else i.cE=0
def LZ(hd:dE c d b.bT)(x:eT b.bT)(z:oW c f b.di)(K:be c a i.aO)(F:be c j i.gE)(q:Nat)(v t:Array Value)(E:GL.elem q=true)(l:Int->Prop)
 (G:∀e,D c e->fX dO q (v.toList++[vi i.cE]++t.toList) e (l i.cE)):
 fX dO 83 [.agg #[d.v,f.v],.agg #[vi i.op,vi i.bH,vi i.cE,vi i.dh,a.v,j.v],.func (.func q) v t] c (tw b i l):=by
 apply uy d f i.op i.bH i.cE i.dh a j (.func q,v,t)
 simp -zeta only[dR]
 intro A s
 have e:D c s:=((D.cT c).bZ _).bZ _
 have w:∀y∈[A.size,c.size],y<s.size:=cB
 have M:=z.aT
 have N:=F.aT
 have C:dF s A.size fx [.i i.op,.i i.bH,.i i.cE,.i i.dh,.s a,.s j]:=dF.push _ _ _
 refine⟨λm=>?_,λm=>?_⟩
 .grind [tw]
 simp only[ba]at m
 refine⟨λk=>?_,λk=>?_⟩
 .simp only[bP]at k
  rw[show tw b i l<->0<=i.cE/\i.cE<(gR b.bT).length by rw[tw,aW m,bn k]]
  refine⟨λh=>?_,λh=>fy ?_ e⟩<;>simp at h
  .refine(rh (dE.ext e hd) x.aT (OT x)).bL cY w λB g _=>⟨_,O,g.cZ (C.dx 2),kX ?_ (e.J g)⟩
   simp;omega
  .omega
 simp only[ba]at k
 refine⟨λn=>?_,λn=>?_⟩
 .grind [tw,List.length]
 simp only[cU,ba]at n
 replace n:¬(i.op=9\/i.op=24):=V
 refine⟨λo=>?_,λo=>?_⟩
 .simp only[bP]at o
  rw[show tw b i l<->0<=i.cE/\∃p,b.di[i.cE.toNat]? =some p/\p.df.length=0 by rw[tw,aW m,aW k,aW n,bn o]]
  refine⟨λh=>⟨λr=>?_,λr=>?_⟩,λh=>fy ?_ e⟩<;>simp at h
  .simp at r
   let⟨p,H⟩:=dU b.di i.cE.toNat
   let⟨I,P,L,u,J,g1,g2⟩:=(oW.ext e z).bt H
   have:=u.aT
   constructor<;>grind
  .grind [br]
  .omega
 simp only[ba]at o
 refine⟨λr=>?_,λr=>?_⟩
 .grind [tw]
 simp only[ba]at r
 refine⟨λp=>?_,λp=>?_⟩
 .simp only[eG,bP]at p
  rw[show tw b i l<->l i.cE by rw[tw,aW m,aW k,aW n,aW o,aW r,bn p]]
  exact⟨q,O,E,(G s e).bL cY w λy B u g _=>⟨_,O,kX u (e.J g)⟩⟩
 simp only[cU,ba]at p
 replace p:¬(i.op=20\/i.op=22):=V
 refine⟨λu=>?_,λu=>?_⟩
 .simp only[bP]at u
  rw[show tw b i l<->0<(cX b.bT i.cE).length/\i.gE.length=(cX b.bT i.cE).length by rw[tw,aW m,aW k,aW n,aW o,aW r,aW p,bn u]]
  refine(xh (dE.ext e hd) x _).bL cY w ?_
  rintro _ B ⟨I,rfl,H,g⟩
  have:=H.aT
  refine⟨g,_,O,λh=>kX ?_ (e.J g),λh=>fy ?_ (e.J g)⟩<;>simp at h
  .grind
  .omega
 .grind [beq_eq_false_iff_ne,tw]
def wT(b:da)(i:Instr)(c a:Int):Prop:=
 if i.op=0\/i.op=22 then c=0/\a=0
 else if i.op=1\/i.op=2\/i.op=3\/i.op=4\/i.op=11 then c=2/\a=2
 else if i.op=6 then c=(cW b.bT i.cE).length/\a=(cW b.bT i.cE).length
 else if i.op=9\/i.op=24 then∃q,b.di[i.cE.toNat]? =some q/\c=q.aY.length/\a=q.aY.length
 else if i.op=10 then∃q,b.di[i.cE.toNat]? =some q/\c=(q.aY.length:Int) -1/\a=(q.aY.length:Int) -1
 else if i.op=16\/i.op=17 then c=1/\a=4
 else c=1/\a=1
def PW(hd:dE c d b.bT)(t:eT b.bT)(o:oW c f b.di){E:Int->Prop}(l:tw b i E):
 bK dO 84 [.agg #[d.v,f.v],.agg #[vi i.op,vi i.bH,vi i.cE,vi i.dh,a.v,j.v]] c λH F=>∃u s:Int,H=.tuple #[vi u,vi s]/\wT b i u s/\D c F:=by
 apply vF
 simp -zeta only[dR]
 intro G v
 have p:D c v:=((D.cT c).bZ _).bZ _
 have A:∀x∈[G.size,c.size],x<v.size:=cB
 have K:=o.aT
 refine⟨λg=>?_,λg=>?_⟩
 .grind [wT]
 simp only[cU,ba]at g
 refine⟨λr=>?_,λr=>?_⟩
 .grind [wT]
 simp only[cU,ba]at r
 refine⟨λe=>?_,λe=>?_⟩
 .simp only[bP]at e
  rw[tw,aW g.1,bn e]at l
  have h:=tE t b.bT.length
  rw[qI _ _ bY]at h
  refine(ux (dE.ext p hd) t V).bL cY A ?_
  grind [fW.aT,wT,D.J]
 simp only[ba]at e
 refine⟨λh=>?_,λh=>?_⟩
 .simp only[eG,bP]at h
  rw[tw,aW g.1,aW e,bn h]at l
  let⟨w,m⟩:=dU b.di i.cE.toNat
  let⟨q,C,k,B,z,g1,g2⟩:=(oW.ext p o).bt m
  have:=k.aT
  grind [wT]
 simp only[cU,ba]at h
 have y:¬(i.op=9\/i.op=24):=V
 refine⟨λn=>?_,λn=>?_⟩
 .simp only[bP]at n
  rw[tw,aW g.1,aW e,aW y,bn n]at l
  obtain⟨J,w,m,_⟩:=l
  let⟨q,C,k,B,z,g1,g2⟩:=(oW.ext p o).bt m
  have:=k.aT
  have:=k.kM
  have:=br m
  have I:eI ((q.len:Int) -1)=(w.aY.length:Int) -1:=by grind [de]
  grind [wT]
 grind [beq_eq_false_iff_ne,wT,Bool.or_eq_false_iff]
end
section
variable{m:bh}{x k:Int}{a b1:Nat}{c:E}
def Co(b:aS m a 0=some (vi k))(d:aS m b1 4=some c.v):
 fX dO 80 [vi x,vp a 0,vp b1 0] m (k+1<=x/\x<=(c.len:Int) -1):=by
 apply sI (a,0) (b1,0)
 refine⟨k,b,λh=>⟨c,d,kX ?_ cY⟩,λh=>fy ?_ cY⟩<;>simp at h
 .simp;omega
 .omega
def Ob{b2:Nat}(b:aS m a 0=some (vi k))(d:aS m b1 4=some c.v)
 (e:aS m b2 0=some (.func (.func 80) #[] #[vp a 0,vp b1 0])):
 fX dO 82 [vi x,vp b2 0] m (¬(k+1<=x/\x<=(c.len:Int) -1)):=by
 apply sJ (b2,0)
 refine⟨(.func 80,#[],#[vp a 0,vp b1 0]),e,_,O,O,?_⟩
 refine(Co b d).cg λh i f g=>⟨_,O,kX ?_ g⟩
 rw[<-f];simp
theorem Nx{a:da}{p:eE}{k:Nat}{i:Instr}(m:∀q∈a.di,q.aY.length<=3):
 iP a p k i<->((0<=i.op/\i.op<=24/\i.op≠7/\i.op≠8/\i.op≠12/\i.op≠13)/\(0<=i.bH/\i.bH<p.aU/\(i.bH=0\/lL i.op)/\0<=i.dh/\i.dh<=p.aU/\(i.dh=0\/i.op=6))/\
  (∀b∈i.aO,0<=b/\b<p.aU)/\(i.gE.length=0\/i.op=21)/\(∀t∈i.gE,(k:Int)+1<=t/\t<=(p.eA.length:Int) -1)/\
  tw a i (λt=>(k:Int)+1<=t/\t<=(p.eA.length:Int) -1)/\∀c b,wT a i c b->c<=i.aO.length/\(i.aO.length:Int)<=b):=by
 have L:=λq(h:a.di[i.cE.toNat]? =some q)=>br h
 have G:0<=i.cE/\i.cE<a.di.length->∃q,a.di[i.cE.toNat]? =some q:=λh=>gD V
 unfold tw wT
 constructor
 .rintro⟨e,a2,a3,a4,f,b⟩
  unfold mJ rQ JV at b
  refine⟨?_,?_,?_,?_,?_,?_,?_⟩<;>grind (splits:=24)
 .rintro⟨j,l,n,o,r,s,b⟩
  have g:=b 0 0
  have e:=b 1 1
  have a2:=b 2 2
  have a3:=b 1 4
  have a4:=b (cW a.bT i.cE).length (cW a.bT i.cE).length
  have f:∀q,a.di[i.cE.toNat]? =some q->(i.op=9\/i.op=24->q.aY.length=i.aO.length)/\(i.op=10->q.aY.length=i.aO.length+1):=λq d=>by
   refine⟨λc=>?_,λc=>?_⟩
   .have:=b q.aY.length q.aY.length (by rw[aW V,aW V,aW V,bn c];exact⟨q,d,O,O⟩);omega
   .have:=b (q.aY.length -1) (q.aY.length -1) (by rw[aW V,aW V,aW V,aW V,bn c];exact⟨q,d,O,O⟩);omega
  refine⟨?_,?_,?_,?_,?_,?_⟩
  rotate_right
  .unfold mJ rQ JV
   grind (splits:=24)
  all_goals grind
end
section
variable{b:bh}{d:E}{c:da}
def IG{R ad al Q:E}(hd:dE b d c.bT)(ht:eT c.bT)(hf:oW b R c.di)(aF:c.di.length<=4)(h3:∀q∈c.di,q.aY.length<=3)
 {q:eE}(hc:je b Q q.eA)(hr:q.aU<=2000){l:Nat}{e:Instr}{G N:E}(S:be b G e.aO)(Z:be b N e.gE):
 fX dO 48 [.agg #[d.v,R.v],.agg #[ad.v,al.v,vi q.bQ,vi q.aU,Q.v],vi l,.agg #[vi e.op,vi e.bH,vi e.cE,vi e.dh,G.v,N.v]] b (iP c q l e):=by
 apply tI
 simp -zeta only[dR]
 intro F A H v
 have s1:=pz F
 have s2:A.size=b.size+2:=cB
 have s3:H.size=b.size+3:=cB
 have s4:v.size=b.size+4:=cB
 have u:D b v:=by grind [D.cT,D.bZ]
 have ag:dF v A.size bB [.i l]:=(dF.push A _ _).ext (D.push _ _)
 have ah:dF v F.size nW [.s ad,.s al,.i q.bQ,.i q.aU,.s Q]:=(dF.push F _ _).ext ((D.push A _).bZ _)
 have K:=Nx (a:=c) (p:=q) (k:=l) (i:=e) h3
 have ap:=hc.aT
 have aB:=S.aT
 have aE:=Z.aT
 refine⟨λh=>fy (λf=>?_) u,λc0=>⟨λh=>fy (λf=>?_) u,λc1=>⟨λh=>fy (λf=>?_) u,λc2=>⟨λh=>fy (λf=>?_) u,λc3=>⟨λh=>fy (λf=>?_) u,λc4=>⟨λh=>fy (λf=>?_) u,λc5=>?_⟩⟩⟩⟩⟩⟩
 any_goals (have:=(K.1 f).1;simp at h;omega)
 simp at c0 c1 c2 c3 c4 c5
 have f1:0<=e.op/\e.op<=24/\e.op≠7/\e.op≠8/\e.op≠12/\e.op≠13:=V
 refine⟨λs=>D v s/\(0<=e.bH/\e.bH<q.aU/\(e.bH=0\/lL e.op)/\0<=e.dh/\e.dh<=q.aU/\(e.dh=0\/e.op=6)),?_,?_⟩
 .refine⟨λh=>fy (λf=>?_) u,λz=>⟨λh=>fy (λf=>?_) u,λB=>?_⟩⟩
  .grind
  .grind
  simp at z B
  have tail:∀s,D v s->(e.bH=0\/lL e.op)->((decide (e.dh<(0:Int)))=true->∃g:Bool,Value.bool false=.bool g/\(g=true<->iP c q l e)/\D b s)/\((decide (e.dh<(0:Int)))=false->
   ((decide (e.dh>q.aU))=true->∃g:Bool,Value.bool false=.bool g/\(g=true<->iP c q l e)/\D b s)/\((decide (e.dh>q.aU))=false->
   ((e.dh !=(0:Int))=true->((e.op !=(6:Int))=true->∃g:Bool,Value.bool false=.bool g/\(g=true<->iP c q l e)/\D b s)/\((e.op !=(6:Int))=false->D v s/\(0<=e.bH/\e.bH<q.aU/\(e.bH=0\/lL e.op)/\0<=e.dh/\e.dh<=q.aU/\(e.dh=0\/e.op=6))))/\
   ((e.dh !=(0:Int))=false->D v s/\(0<=e.bH/\e.bH<q.aU/\(e.bH=0\/lL e.op)/\0<=e.dh/\e.dh<=q.aU/\(e.dh=0\/e.op=6))))):=by
   intro s C M
   have t:=u.J C
   refine⟨λh=>fy (λf=>?_) t,λJ=>⟨λh=>fy (λf=>?_) t,λL=>⟨λx=>⟨λh=>fy (λf=>?_) t,λI=>⟨C,?_⟩⟩,λx=>⟨C,?_⟩⟩⟩⟩
   .grind
   .grind
   .grind
   .grind
   .grind
  refine⟨λh=>?_,λh=>tail v cY (bC cB)⟩
  refine(qL e.op v ⟨V,V⟩).bL cY cB λy s hb C _=>⟨y,O,λw=>fy (λf=>?_) (u.J C),λw=>tail s C (bR (yb hb w))⟩
  have:=(K.1 f).2.1.2.2.1
  grind
 .rintro s ⟨C,f2⟩
  refine gP (n:=e.aO.length) (oh S.kM) (λaa U=>D v U/\∀B∈e.aO.take aa,0<=B/\B<q.aU) ⟨C,bO⟩ ?_
  rintro aa I aA μ hn ⟨w,an⟩ ay
  have W:=u.J w
  refine dit (λh=>?_) λh=>?_
  .let⟨B,t⟩:=dU e.aO aa
   refine⟨V,V,B,by simpa using(S.ext W).bt t,λx=>fy (λf=>?_) W,λx=>⟨λz=>fy (λf=>?_) W,λz=>ay V _ ⟨w,dK t an ?_⟩⟩⟩
   .have:=(K.1 f).2.2.1 B (aZ t);simp at x;omega
   .have:=(K.1 f).2.2.1 B (aZ t);simp at z;omega
   .simp at x z;omega
  .have ao:∀B∈e.aO,0<=B/\B<q.aU:=cB
   intro m7 J
   have s8:J.size=I.size+1:=by grind [bD]
   have z:D I J:=by grind [D.cT,D.bZ,D.aV]
   have ak:=W.J z
   have af:aS J I.size 0=some (.func (.func 80) #[] #[vp A.size 0,vp F.size 0]):=
    (dF.aV (m:=m7) (o:=0) (r:=[.fn (.func 80) #[] #[vp A.size 0,vp F.size 0]]) (dF.push I _ _)).dx 0
   have aG:=w.aQ
   have aw:∀L,D J L->∀t,fX dO 80 [vi t,vp A.size 0,vp F.size 0] L ((l:Int)+1<=t/\t<=(q.eA.length:Int) -1):=λL x t=>by
    rw[<-ap];exact Co (ag.ext (w.J (z.J x))|>.dx 0) (ah.ext (w.J (z.J x))|>.dx 4)
   have kN:(e.gE.length=0\/e.op=21)->bK dO 81 [N.v,.func (.func 82) #[] #[vp I.size 0]] J λaz P=>
    gS [H.size,b.size] J P/\∃ab:Bool,az=vb ab/\(ab=true->∃g:Bool,Value.bool false=.bool g/\(g=true<->iP c q l e)/\D b P)/\
    (ab=false->∃M:Fn×Array Value×Array Value,aS P I.size 0=some (.func M.1 M.2.1 M.2.2)/\
    bK dO 83 [.agg #[d.v,R.v],.agg #[vi e.op,vi e.bH,vi e.cE,vi e.dh,G.v,N.v],.func M.1 M.2.1 M.2.2] P λai T=>
    gS [H.size,b.size] P T/\∃Y:Bool,ai=vb Y/\((!Y)=true->∃g:Bool,Value.bool false=.bool g/\(g=true<->iP c q l e)/\D b T)/\
    ((!Y)=false->bK dO 84 [.agg #[d.v,R.v],.agg #[vi e.op,vi e.bH,vi e.cE,vi e.dh,G.v,N.v]] T λaj X=>
    gS [H.size,b.size] T X/\∃ac:Int,∃ae:Int,aj=.tuple #[vi ac,vi ae]/\
    ((decide ((G.len:Int)>=ac))=true->∃g:Bool,Value.bool (decide ((G.len:Int)<=ae))=.bool g/\(g=true<->iP c q l e)/\D b X)/\
    ((decide ((G.len:Int)>=ac))=false->∃g:Bool,Value.bool false=.bool g/\(g=true<->iP c q l e)/\D b X))):=by
    intro aq
    have hl:∀y∈[H.size,b.size],y<J.size:=cB
    refine(jU (Z.ext ak) 82 #[] #[vp I.size 0] cD (λt=>¬((l:Int)+1<=t/\t<=(Q.len:Int) -1)) (λt _ L x=>Ob (ag.ext (w.J (z.J x))|>.dx 0) (ah.ext (w.J (z.J x))|>.dx 4) (x.aS af))).bL cY hl ?_
    intro y L hb x _
    have g:=ak.J x
    refine⟨y,O,λaD=>fy (λf=>?_) g,λaC=>?_⟩
    .grind
    have ar:∀t∈e.gE,(l:Int)+1<=t/\t<=(q.eA.length:Int) -1:=λt aH=>by
     grind [E.len]
    refine⟨(.func 80,#[],#[vp A.size 0,vp F.size 0]),x.aS af,?_⟩
    have av:∀y∈[H.size,b.size],y<L.size:=by grind [D.lt]
    refine(LZ (dE.ext g hd) ht (oW.ext g hf) (S.ext g) (Z.ext g) 80 #[] #[vp A.size 0,vp F.size 0] cD (λt=>(l:Int)+1<=t/\t<=(q.eA.length:Int) -1) (λU M=>by simpa using aw U (x.J M) e.cE)).bL cY av ?_
    intro b2 ax ae am _
    have U:=g.J am
    refine⟨b2,O,λh=>fy (λf=>nb ae h (K.1 f).2.2.2.2.2.1) U,λh=>?_⟩
    have ai:=yb ae h
    have au:∀y∈[H.size,b.size],y<ax.size:=by grind [D.lt]
    refine(PW (dE.ext U hd) ht (oW.ext U hf) (a:=G) (j:=N) ai).bL cY au ?_
    rintro _ aJ ⟨lo,hi,rfl,Y,ac⟩
    have aj:=U.J ac
    have aI:∀X T,wT c e X T->X=lo/\T=hi:=λX T M=>by
     unfold wT at Y M;repeat' (split at Y)
     all_goals simp_all
     all_goals (obtain⟨q1,e1,e2,e3⟩:=Y;simp_all)
    refine⟨ac,lo,hi,O,λh=>kX ?_ aj,λh=>fy (λf=>?_) aj⟩
    .rw[K]
     simp only[bg]at h⊢
     refine⟨λM=>⟨f1,f2,ao,aq,ar,ai,λX T h2=>?_⟩,λM=>?_⟩
     .grind
     grind
    .grind
   constructor<;>grind
def pt{aa:E}(s:gY b d aa c):fX dO 24 [.agg #[d.v,aa.v]] b (iB c):=by
 apply CL;simp -zeta only[dR];intro m1;obtain⟨ai,s1⟩:=pu m1;refine(yN (s.ext ai)).bL cY cB ?_;rintro _ X ⟨d',ac,ab,rfl,N,ah,L⟩;refine⟨L,d',ac,ab,O,?_⟩;intro m3 A;have s4:A.size=X.size+1:=by grind [bD]
 have h4:D X A:=by grind [D.cT,D.bZ,D.aV]
 have T:D b A:=by grind [D.J]
 have:=L.aQ;have az:=s.di.aT;have aA:=s.di.kM;refine⟨λQ=>fy (λe=>nb N Q ⟨e.mT,λq u=>(e.eR q u).df⟩) T,λhy=>?_⟩;let⟨y,ag⟩:=yb N hy;obtain⟨rfl,hf⟩:=ah cB;refine gP (n:=c.di.length) V (λH w=>D A w/\∀q∈c.di.take H,pd c q) ⟨cY,bO⟩ ?_;rintro H Y an μ Q ⟨x,M⟩ am
 have F:=T.J x;refine dit (λax=>?_) λar=>?_
 .let⟨q,u⟩:=dU c.di H;let⟨I,U,J,ha,hl,t,g0,g1,g2,g3,g4⟩:=(s.ext F).di.bt u;refine⟨V,V,I,sp g0,U,sp g1,_,sp g2,_,sp g3,J,sp g4,?_⟩;intro m6 B;have s7:B.size=Y.size+1:=by grind [bD]
  have o:D Y B:=by grind [D.cT,D.bZ,D.aV]
  have r:=F.J o;have ao:=ha.aT;have ap:=t.aT;have aq:=t.kM;have C:=aZ u;refine⟨λg=>fy (λe=>?_) r,λe1=>⟨λg=>fy (λe=>?_) r,λe2=>⟨λg=>fy (λe=>?_) r,λe3=>⟨λg=>fy (λe=>?_) r,λe4=>?_⟩⟩⟩⟩
  .grind [iB.eR,pd.aU]
  .grind [iB.eR,pd.aU]
  .grind [iB.eR,pd.aT]
  .grind [iB.eR,pd.aT]
  have R:(q.aY.length:Int)<=q.aU/\1<=q.aU/\q.aU<=2000:=by
   grind
  have af:1<=q.eA.length/\q.eA.length<=2000:=cB;let⟨z,P⟩:=dU q.eA (q.eA.length -1);obtain⟨a0,j0,_,_,G,_⟩:=(je.ext o t).bt P;refine⟨λw=>D B w/\(z.op=23\/z.op=24),?_,?_⟩
  .have g:eI ((J.len:Int) -1)=((q.eA.length -1:Nat):Int):=by grind [de]
   rw[g];refine⟨V,V,z.op,sp G,λf=>⟨λh=>fy (λe=>?_) r,λh=>⟨cY,bR cB⟩⟩,λf=>⟨cY,bC cB⟩⟩;have:=(e.eR q C).Od z P;simp at f h;omega
  .rintro m8 ⟨h8,aw⟩;refine gP (n:=q.eA.length) V (λv w=>D B w/\∀(j:Nat)(f:Instr),j<v->q.eA[j]? =some f->iP c q j f) ⟨h8,λj f hj=>V⟩ ?_;rintro v Z I2 μ2 hk ⟨h,ae⟩ al;refine dit (λay=>?_) λau=>?_
   .let⟨f,p⟩:=dU q.eA v;let⟨xa,xj,aj,ak,G,k1,k2,k3,k4,k5⟩:=(je.ext (o.J h) t).bt p;refine⟨V,V,_,sp G,_,sp k1,_,sp k2,_,sp k3,xa,sp k4,xj,sp k5,?_⟩;intro aB W;have aD:W.size=Z.size+1:=by grind [bD]
    have m:D Z W:=by grind [D.cT,D.bZ,D.aV]
    have S:=(r.J h).J m;have q1:=h.aQ;have q2:=x.aQ;refine(IG (ad:=I) (al:=U) (dE.ext S s.bT) y.dm (oW.ext (h4.J (x.J (o.J (h.J m)))) hf) y.aT.2 (λq' K=>(y.eR q' K).1) (je.ext (o.J (h.J m)) t) R.2.2 (l:=v) (e:=f) (aj.ext m) (ak.ext m)).bL cY cB ?_;intro b' aC ad K _;refine⟨b',O,λg=>fy (λe=>nb ad g ((e.eR q C).eR v f p)) (S.J K),λg=>al V _ ⟨h.J (m.J K),λj i' hj av=>?_⟩⟩;grind [Nat.lt_succ_iff_lt_or_eq]
   .refine am V _ ⟨x.J (o.J h),dK u M ⟨ag q C,R,af,λj f p=>ae j f (oh (br p)) p,λf p=>?_⟩⟩
    grind
 .exact oO ⟨y,gH V M⟩ F
end
section
variable{m:bh}{s:E}{k:Nat}{γ σ:Type}
def TZ(m:bh)(a:ae)(c:dt):Prop:=∃f,a=[.i c.bS,.i c.jx,.s f]/\be m f c.bJ
def Pe(m:bh)(a:ae)(f:bW):Prop:=∃r o h,a=[.i f.fP,.i f.pc,.i f.bH,.s r,.s o,.s h]/\be m r f.aU/\be m o f.bI/\be m h f.cC
abbrev gC(m:bh)(s:E)(l:ah):Prop:=fW m 3 (TZ m) s l
abbrev oZ(m:bh)(s:E)(l:an):Prop:=fW m 6 (Pe m) s l
def TZ.ext{m b:bh}(g:D m b)(a:ae)(c:dt):TZ m a c->TZ b a c:=λ⟨f,d,e⟩=>⟨f,d,e.ext g⟩
def gC.ext{m b:bh}(a:D m b){s:E}{l:ah}(h:gC m s l):gC b s l:=h.aP a (TZ.ext a)
def Pe.ext{m d:bh}(a:D m d)(b:ae)(c:bW):Pe m b c->Pe d b c:=λ⟨r,o,h,e,f,g,i⟩=>⟨r,o,h,e,f.ext a,g.ext a,i.ext a⟩
def oZ.ext{m b:bh}(a:D m b){s:E}{l:an}(h:oZ m s l):oZ b s l:=h.aP a (Pe.ext a)
theorem gC.bt{l:ah}(h:gC m s l){x:dt}(c:l[k]? =some x):
 ∃f,be m f x.bJ/\aS m s.bu (s.off+k*3)=some (vi x.bS)/\aS m s.bu (s.off+k*3+1)=some (vi x.jx)/\aS m s.bu (s.off+k*3+2)=some f.v:=by
 obtain⟨d,⟨f,rfl,b⟩,a⟩:=h.kY k x c
 exact⟨f,b,a 0 (.i x.bS) O,a 1 (.i x.jx) O,a 2 (.s f) O⟩
theorem oZ.bt{l:an}(h:oZ m s l){x:bW}(b:l[k]? =some x):
 ∃r o e,be m r x.aU/\be m o x.bI/\be m e x.cC/\aS m s.bu (s.off+k*6)=some (vi x.fP)/\aS m s.bu (s.off+k*6+1)=some (vi x.pc)/\aS m s.bu (s.off+k*6+2)=some (vi x.bH)/\
  aS m s.bu (s.off+k*6+3)=some r.v/\aS m s.bu (s.off+k*6+4)=some o.v/\aS m s.bu (s.off+k*6+5)=some e.v:=by
 obtain⟨f,⟨r,o,e,rfl,d,c,a⟩,mu⟩:=h.kY k x b
 exact⟨r,o,e,d,c,a,mu 0 (.i x.fP) O,mu 1 (.i x.pc) O,mu 2 (.i x.bH) O,mu 3 (.s r) O,mu 4 (.s o) O,mu 5 (.s e) O⟩
theorem _root_.Go.Vc.fW.tB{l:ab}(h:fW m 1 aav s l){i:Int}(a:0<=i)(b:i<l.length):aS m s.bu (s.off+i.toNat*1)=some (vi (bt l i)):=be.bt h (jT a b)
@[grind cases] structure RV (m:bh) (mb o:Nat) (d p cw hp fr:E) (im:da) (s:St):Prop where
 iG:gY m d p im
 bT:aS m mb 0=some d.v
 di:aS m mb 1=some p.v
 eC:aS m mb o=some (vi s.eC)
 iQ:aS m mb (o+1)=some (vi s.iQ)
 dg:aS m mb (o+2)=some (vi s.dg)
 dL:aS m mb (o+3)=some (vi s.dL)
 afj:aS m mb (o+4)=some cw.v
 wc:aS m mb (o+5)=some hp.v
 Tc:aS m mb (o+6)=some fr.v
 cw:be m cw s.cw
 aR:gC m hp s.aR
 bq:oZ m fr s.bq
def RV.ext{m f:bh}{g o:Nat}{d p cw c b:E}{e:da}{s:St}(h:RV m g o d p cw c b e s)(a:D m f):RV f g o d p cw c b e s:=
 ⟨h.iG.ext a,a.aS h.bT,a.aS h.di,a.aS h.eC,a.aS h.iQ,a.aS h.dg,a.aS h.dL,a.aS h.afj,a.aS h.wc,a.aS h.Tc,h.cw.ext a,gC.ext a h.aR,oZ.ext a h.bq⟩
def ac5{P:Nat->Prop}:∀(n:Nat),P n->∃k,P k/\∀j,P j->k<=j:=by
 intro n;induction n using Nat.strongRecOn with
 |_ n c=>
  intro d;rcases gJ (∃j,j<n/\P j)with⟨j,a,b⟩|e
  .exact c j a b
  .grind
def Pd{p:σ}{j:(σ->bh->Prop)->(σ->bh->Nat)->σ->bh->Prop}(J:γ->σ->bh->Prop)(ν:γ->Nat)(l:γ)(r:J l p m)
 (q:∀(g:γ)(s:σ)(a:bh)(I:σ->bh->Prop)(μ:σ->bh->Nat),J g s a->(∀b d c,J b d c->ν b<ν g->I d c/\μ d c<μ s a)->j I μ s a):
 ∃(I:σ->bh->Prop)(μ:σ->bh->Nat),I p m/\∀s a,I s a->j I μ s a:=by
 classical
 let I:σ->bh->Prop:=λs m=>∃g,J g s m
 have h:∀s m,I s m->∃k,(∃g,J g s m/\ν g=k)/\∀o,(∃g,J g s m/\ν g=o)->k<=o:=λs m⟨g,i⟩=>ac5 (ν g) ⟨g,i,O⟩
 let μ:σ->bh->Nat:=λs m=>if e:I s m then Classical.choose (h s m e)else 0
 refine⟨I,μ,⟨l,r⟩,λs a e=>?_⟩
 let⟨g,i,u⟩:=(jD (h s a e)).1
 refine q g s a I μ i λb d c f t=>⟨⟨b,f⟩,?_⟩
 have n:I d c:=⟨b,f⟩
 simp only[μ,dif_pos e,dif_pos n]
 exact vV ((jD (h d c n)).2 _ ⟨b,f,O⟩) (u▸t)
def aba{d:(bh->Prop)->(bh->Nat)->bh->Prop}(J:γ->bh->Prop)(ν:γ->Nat)(e:γ)(f:J e m)
 (h:∀(g:γ)(a:bh)(I:bh->Prop)(μ:bh->Nat),J g a->(∀c b,J c b->ν c<ν g->I b/\μ b<μ a)->d I μ a):
 ∃(I:bh->Prop)(μ:bh->Nat),I m/\∀a,I a->d I μ a:=by
 let⟨I,μ,i,j⟩:=Pd (σ:=Unit) (p:=()) (j:=λI μ _ a=>d (I ()) (μ ()) a) (λg _ m=>J g m) ν e f (λg _ a I μ k l=>h g a (I ()) (μ ()) k λc b=>l c () b)
 exact⟨I (),μ (),i,j ()⟩
def abb{τ:Type}{i:σ}{j:τ}{h:(σ->τ->bh->Prop)->(σ->τ->bh->Nat)->σ->τ->bh->Prop}(J:γ->σ->τ->bh->Prop)(ν:γ->Nat)(k:γ)(n:J k i j m)
 (l:∀(g:γ)(s:σ)(t:τ)(a:bh)(I:σ->τ->bh->Prop)(μ:σ->τ->bh->Nat),J g s t a->(∀f d e c,J f d e c->ν f<ν g->I d e c/\μ d e c<μ s t a)->h I μ s t a):
 ∃(I:σ->τ->bh->Prop)(μ:σ->τ->bh->Nat),I i j m/\∀s t a,I s t a->h I μ s t a:=by
 let⟨I,μ,o,p⟩:=Pd (σ:=σ×τ) (p:=(i,j)) (j:=λI μ b a=>h (λs t=>I (s,t)) (λs t=>μ (s,t)) b.1 b.2 a) (λg b m=>J g b.1 b.2 m) ν k n (λg b a I μ q r=>l g b.1 b.2 a (λs t=>I (s,t)) (λs t=>μ (s,t)) q λf d e c=>r f (d,e) c)
 exact⟨λs t=>I (s,t),λs t=>μ (s,t),o,λs t=>p (s,t)⟩
end
section
variable{m g:bh}{s d p a j t o e:E}{b r:ab}{f:Nat}{h:ap}{K:aj}{w:Int}{c:da}{x:Instr}
def _root_.Go.Vc.fW.Mr(h:fW m 1 aav s b):jF m s.bu s.off (b.map Ce.i):=λi d a=>by
 rw[eJ]at a;obtain⟨x,c,rfl⟩:=jR.1 a;have:=be.bt h c;rw[nu]at this;exact this
def sC(f:Nat)(h:ap)(m:bh)(b:ab):Prop:=bK dO f h m λv a=>∃s,v=s.v/\jw m a bB 1 s (b.map Ce.i)/\D m a
def sC.cg(c:sC f h m b)(i:b.length<=1000000000)(e:∀s a,jw m a bB 1 s (b.map Ce.i)->be a s b->D m a->K s.v a):bK dO f h m K:=
 c.aP λ_ _⟨s,d,a,g⟩=>d▸e s _ a (be.jA a V) g
def sC.bL{c:ad}(g:sC f h m b)(l:b.length<=1000000000)(i:∀a∈c,a<m.size)(k:∀s a,jw m a bB 1 s (b.map Ce.i)->be a s b->D m a->K s.v a):bK dO f h m λv a=>gS c m a/\K v a:=
 g.aP λ_ _⟨s,j,d,e⟩=>⟨e.eW i,j▸k s _ d (be.jA d V) e⟩
def jm:fX dO 162 [vi w] m (1000<=w):=by
 apply Fc;exact kX bO cY
def oR{a:E}{h:ah}(j:gC m a h)(B: -9223372036854775808<=w/\w<=9223372036854775807):fX dO 171 [a.v,vi w] m (iI h w):=by
 apply La;have y:=j.aT;have z:=j.kM;have o:eI ((a.len:Int) -1)=(a.len:Int) -1:=iz;rw[o];refine(dj).cg λn C i c=>⟨n,O,λu=>?_,λt=>?_⟩
 .refine(jm).cg λb2 D l g=>⟨b2,O,λs=>?_,λr=>fy (λb=>fb l r b.1) (c.J g)⟩;have k:=l.1 s;have p:eI (w -1000)=w -1000:=iz;rw[p]at i⊢;have A:=i.1 u;let⟨e,b⟩:=dU h ((w -1000).toNat);obtain⟨f,x,q,_⟩:=(gC.ext (c.J g) j).bt b;refine⟨V,V,e.bS,q,kX ?_ (c.J g)⟩;simp only[bg];refine⟨λa=>⟨k,e,b,a⟩,λ⟨_,v,d,a⟩=>?_⟩;unfold ix at d;rw[b]at d;simp at d;subst d;exact a
 .refine fy (λ⟨k,e,b,_⟩=>fb i t ?_) c;have:=br b;unfold ix at this;rw[iz];omega
def QP{a:Int}:fX dO 115 [vi a] m (qM a):=by
 apply KZ;refine⟨λh=>oO ?_ cY,λh=>⟨λb=>oO ?_ cY,λb=>kX ?_ cY⟩⟩<;>simp[qM]at* <;>omega
def P5{q:eE}(a:c.di[x.cE.toNat]? =some q)(k:Nat):lA c x k=true<->(k:Int)∈q.df:=by
 grind [lA,dG,List.any_eq_true]
def DH(c:da)(x:Instr):Prop:=(x.op=9\/x.op=24)->0<=x.cE/\∃q,c.di[x.cE.toNat]? =some q
theorem iP.jE{p:eE}{k:Nat}(h:iP c p k x):DH c x:=λe=>by
 have a:=h.op;unfold mJ at a;rw[aW V,aW V,aW V,aW V,bn e]at a;obtain⟨q,b,d,_⟩:=a;exact⟨b,q,d⟩
def vO(h:gY m d p c)(z:DH c x)(a j:E)(k:Nat):
 fX dO 164 [.agg #[d.v,p.v],.agg #[vi x.op,vi x.bH,vi x.cE,vi x.dh,a.v,j.v],vi k] m ((x.op=9\/x.op=24)/\lA c x k=true):=by
 apply Jr
 simp -zeta only[dR]
 intro o f
 have n:D m f:=((D.cT m).bZ _).bZ _
 have A:∀b∈[o.size,m.size],b<f.size:=by simp[f,o];omega
 have M:=h.di.aT
 have q:∀e:x.op=9\/x.op=24,(0:Int)<=x.cE/\x.cE<(p.len:Int)/\∃u:E,aS f p.bu (p.off+x.cE.toNat*5+1)=some u.v/\
  bK dO 174 [u.v,vi k] f λr s=>gS [o.size,m.size] f s/\∃t:Bool,r=vb t/\∃b:Bool,vb t=.bool b/\(b=true<->((x.op=9\/x.op=24)/\lA c x k=true))/\D m s:=λe=>by
  let⟨v,P,l⟩:=z e
  let⟨F,C,G,K,B,L,H,g1,g2,I,J⟩:=(h.ext n).di.bt l
  have:=br l
  refine⟨v,V,C,g1,(fH B _).bL cY A λb N y w _=>⟨b,O,kX ?_ (n.J w)⟩⟩
  rw[y,P5 l]
  exact⟨λh=>⟨e,h⟩,λh=>h.2⟩
 refine⟨λi=>q (bC (sp i)),λi=>⟨λg=>q (bR (sp g)),λg=>fy (λ⟨e,_⟩=>?_) n⟩⟩
 simp at i g;omega
def MC{a:Int}:fX dO 163 [vi a] m (a=6\/a=9\/a=10\/a=11):=by
 apply wh;refine⟨λh=>oO ?_ cY,λh=>⟨λb=>oO ?_ cY,λb=>⟨λc=>oO ?_ cY,λc=>kX ?_ cY⟩⟩⟩<;>simp at* <;>omega
def lR(c:da)(x:Instr)(n:Nat):ab:=jV c x 0 (x.aO.take n)
theorem sg(c:da)(x:Instr):∀(b r:ab)(k:Nat),jV c x k (b++r)=jV c x k b++jV c x (k+b.length) r
 |[],r,k=>by simp[jV]
 |a::b,r,k=>by
  have:=sg c x b r (k+1);grind [jV,List.length_cons,List.length]
theorem xX(c:da)(x:Instr):∀(b:ab)(k:Nat),(jV c x k b).length<=b.length
 |[],k=>bY
 |a::b,k=>by
  have:=xX c x b (k+1);grind [jV]
def Ni(c:da)(x:Instr):(cO c x).length<=x.aO.length:=by
 grind [cO,xX]
def D.wH{a c:bh}(f:D g a)(h:D g c){b:ad}(d:∀x∈b,x<g.size):gS b a c:=λx e=>by rw[f.bG x (d x e),h.bG x (d x e)]
def rY{v:Int}{K:E->bh->Prop}(c:jw g m bB 1 s (b.map Ce.i))(d:D g m)(n:b.length<1000000000)
 (l:∀r a,jw g a bB 1 r ((b++[v]).map Ce.i)->D g a->K r a):
 mj (m.push (.cells (db [.i v]) bB)) bB [.i (0:Int)] 8 s (E.mk m.size 0 1 1) K:=by
 have o:s.len=b.length:=by have:=c.aT;simp at this;omega
 refine jw.fw (c:=[.i 0]) (i:=[.i v]) (c.ext (D.push _ _)) (d.bZ _) O (dF.push m _ _).kY eX λr a e f h i j k=>?_
 grind
def OQ(P:gY m d p c)(U:DH c x)(A:be m a x.aO)(ai:x.aO.length<=1000000)(Q:(x.op=16\/x.op=17)->1<=x.aO.length):
 sC 117 [.agg #[d.v,p.v],.agg #[vi x.op,vi x.bH,vi x.cE,vi x.dh,a.v,j.v]] m (cO c x):=by
 apply JD
 simp -zeta only[dR]
 intro G f M
 have q:D m f:=((D.cT m).bZ _).bZ _
 have s2:f.size=m.size+2:=cB
 have R:=px M
 have C:jw f M bB 1 (.mk f.size 0 0 0) []:=by grind [jw.bF,D.cT]
 have s1:=pz G
 have ac:=A.aT
 have w:∀o∈[G.size,m.size],o<f.size:=cB
 have ad:∀{h s b},jw f h bB 1 s b->jw m h bB 1 s b:=λC=>C.cV q.aQ
 refine⟨λN h=>D f h/\jw f h bB 1 (.mk f.size 0 0 0) []/\(N=true<->(x.op=15\/x.op=6\/x.op=10\/x.op=11\/x.op=18\/x.op=23\/x.op=9\/x.op=24)),?_,?_⟩
 .refine(MC).bL R w λo t v i F=>⟨o,O,λB=>⟨F,C.ext i,by have:=v.1 B;simp;omega⟩,λI=>?_⟩
  have g:=fb v I
  constructor<;>grind [jw.ext]
 .rintro N t ⟨i,J,K⟩
  refine⟨λY=>?_,λX=>?_⟩
  .have T:=K.1 Y
   refine gL (n:=x.aO.length) V (λk s h=>D f h/\jw f h bB 1 s ((if x.op=9\/x.op=24 then lR c x k else x.aO.take k).map Ce.i)) ⟨i,by simpa[lR,jV]using J⟩ ?_
   rintro k s m5 ab μ hk ⟨H,W⟩ aa
   have L:=q.J H
   refine dit (λag=>?_) λae=>?_
   .let⟨y,g⟩:=dU x.aO k
    have aj:lR c x (k+1)=lR c x k++jV c x k [y]:=by
     grind [lR,bX,sg]
    refine(vO (P.ext L) U a j k).bL H w λo m6 v S z=>⟨o,O,λB=>?_,λI=>?_⟩
    .have ah:=nb v B
     refine⟨V,V,y,by simpa using(A.ext (q.J z)).bt g,?_⟩
     intro m7
     have af:(if x.op=9\/x.op=24 then lR c x k else x.aO.take k).length<=k:=by
      split
      .refine fC (xX _ _ _ _) ?_;simp;omega
      .simp;omega
     refine rY (W.ext S) z V λr Z q1 u=>?_
     refine⟨D.wH (z.bZ _) u w,aa V _ _ ⟨u,?_⟩⟩
     grind [jV,bX]
    grind [jw.ext,jV]
   .refine⟨s,O,?_,L⟩
    have B:cO c x=if x.op=9\/x.op=24 then lR c x k else x.aO.take k:=by
     have v:x.aO.take k=x.aO:=eQ V;unfold cO lR;rw[v];by_cases e:x.op=9\/x.op=24
     .rw[aW V,aW V,bn e,bn e]
     .grind
    grind
  .have T:¬(x.op=15\/x.op=6\/x.op=10\/x.op=11\/x.op=18\/x.op=23\/x.op=9\/x.op=24):=λe=>by have:=K.2 e;rw[X]at this;simp at this
   have F:=q.J i
   have mM:∀e:x.op=16\/x.op=17,(0:Int)<=(0:Int)/\(0:Int)<(a.len:Int)/\∃v:Int,aS t a.bu (a.off+Int.toNat (0:Int)*1)=some (vi v)/\
    mj (t.push (.cells (db [.i v]) 3)) 3 [.i (0:Int)] 8 (E.mk f.size 0 0 0) (E.mk t.size 0 1 1) λH k=>gS [G.size,m.size] (t.push (.cells (db [.i v]) 3)) k/\∃s,H.v=s.v/\jw m k bB 1 s ((cO c x).map Ce.i)/\D m k:=λe=>by
    have I:=Q e
    let⟨y,g⟩:=dU x.aO 0
    refine⟨V,V,y,by simpa using(A.ext F).bt g,rY (b:=[]) J i bO λr Z q1 u=>⟨D.wH (i.bZ _) u w,r,O,?_,q.J u⟩⟩
    have B:cO c x=[y]:=by
     unfold cO;rw[aW V,bn e];cases z:x.aO with
     |nil=>rw[z]at g;simp at g
     |cons L b=>rw[z]at g;simp at g;subst g;rfl
    grind
   constructor<;>grind [cO]
def oQ(c:be m s b)(l:b.length<=1000000000):sC 55 [s.v] m b:=by
 apply rH;intro d;have a:=px d;have g:jw m d bB 1 (.mk m.size 0 0 0) []:=by grind [jw.bF,D.cT]
 have f:=c.aT;refine jw.fw (c:=[.i 0]) (i:=b.map Ce.i) g a (by simp[f]) (c.ext a).Mr cB λr n a e h i j k=>⟨r,O,sp a,e⟩
def QL(h:be m s b)(c:be m t r)(p:b.length+r.length<=1000000000):sC 215 [s.v,t.v] m (b++r):=by
 apply yW;refine(oQ h V).cg V λq w d e a=>⟨q,O,?_⟩;have i:=c.aT;have o:=e.aT;refine jw.fw (c:=[.i 0]) (i:=r.map Ce.i) d a (by simp[i]) (c.ext a).Mr V λu v f g j k l n=>⟨u,O,sp f,g⟩
def sq(c:be m s b):fX dO 169 [s.v] m (Yd b):=by
 apply I8;have g:=c.aT;refine gP (n:=b.length) (g▸c.kM) (λk a=>D m a/\∀y∈b.take k,y=0) ⟨cY,bO⟩ ?_;rintro k o I μ l ⟨a,f⟩ j
 refine⟨λh=>?_,λh=>oO (gH cB f) a⟩;simp only[bg]at h;let⟨x,d⟩:=dU b k;refine⟨V,V,x,by simpa using a.aS (c.bt d),λe=>fy (λi=>?_) a,λe=>j V _ ⟨a,dK d f cB⟩⟩;have:=i x (aZ d);simp at e;omega
def Fm(c:be m s b):fX dO 165 [s.v] m (∀o∈b,0<=o):=by
 apply AI;have g:=c.aT;refine gP (n:=b.length) (g▸c.kM) (λk a=>D m a/\∀y∈b.take k,0<=y) ⟨cY,bO⟩ ?_;rintro k p I μ l ⟨a,f⟩ j
 refine⟨λh=>?_,λh=>oO (gH cB f) a⟩;simp only[bg]at h;let⟨x,d⟩:=dU b k;refine⟨V,V,x,by simpa using a.aS (c.bt d),λe=>fy (λi=>?_) a,λe=>j V _ ⟨a,dK d f cB⟩⟩;have:=i x (aZ d);simp at e;omega
def uE(d:be m s b)(f:be m t r):fX dO 210 [s.v,t.v] m (b=r):=by
 apply Ht;have j:=d.aT;have q:=f.aT;refine⟨λh=>fy (λe=>by subst e;simp at h;omega) cY,λh=>?_⟩;simp at h;refine gP (n:=b.length) (j▸d.kM) (λk a=>D m a/\b.take k=r.take k) ⟨cY,bO⟩ ?_;rintro k u I μ p ⟨a,l⟩ o
 refine⟨λh=>?_,λh=>oO cB a⟩;simp only[bg]at h;let⟨x,g⟩:=dU b k;let⟨y,i⟩:=dU r k;refine⟨V,V,x,by simpa using a.aS (d.bt g),V,V,y,by simpa using a.aS (f.bt i),λc=>fy (λe=>?_) a,λc=>o V _ ⟨a,?_⟩⟩
 .grind
 .rw[bX g,bX i,l];simp at c;rw[c]
abbrev fv(f:bW)(r o h:E):Value:=.agg #[vi f.fP,vi f.pc,vi f.bH,r.v,o.v,h.v]
abbrev xv(x:Instr)(a j:E):Value:=.agg #[vi x.op,vi x.bH,vi x.cE,vi x.dh,a.v,j.v]
def I7{f:bW}{r:E}(s:be m r f.aU)(c:be m a x.aO)(w:∀y∈x.aO,0<=y/\y<f.aU.length):
 fX dO 166 [fv f r o e,xv x a j] m (∀y∈x.aO,bt f.aU y<1000):=by
 apply Df
 simp -zeta only[dR]
 intro A i
 have u:D m i:=((D.cT m).bZ _).bZ _
 have z:∀b∈[A.size,m.size],b<i.size:=cB
 have v:=c.aT
 have K:=s.aT
 refine gP (n:=x.aO.length) (v▸c.kM) (λk d=>D i d/\∀y∈x.aO.take k,bt f.aU y<1000) ⟨cY,bO⟩ ?_
 rintro k M I μ J ⟨t,q⟩ B
 have d:=u.J t
 refine⟨λl=>?_,λl=>oO (gH cB q) d⟩
 simp only[bg]at l
 let⟨y,g⟩:=dU x.aO k
 have h:=w y (aZ g)
 refine⟨V,V,y,by simpa using d.aS (c.bt g),h.1,V,bt f.aU y,by simpa using d.aS (s.tB h.1 h.2),?_⟩
 refine(jm).bL t z λb N F C p=>⟨b,O,λH=>fy (λL=>?_) (u.J p),λG=>B V _ ⟨p,dK g q ?_⟩⟩
 .grind [aZ]
 .grind
theorem sY(b r:ab):oC (b++r)=oC b++oC r:=by simp[oC]
def rZ(b:ab):(oC b).length<=b.length:=List.length_filter_le _ _
def sN(c:be m s b)(z:b.length<=100000000):sC 209 [s.v] m (oC b):=by
 apply Dr;intro g;have l:=px g;have q:jw m g bB 1 (.mk m.size 0 0 0) []:=by grind [jw.bF,D.cT]
 have y:=c.aT;refine gL (n:=b.length) V (λk s a=>D m a/\jw m a bB 1 s ((oC (b.take k)).map Ce.i)) ⟨l,by simpa[oC]using q⟩ ?_;rintro k s A I μ w ⟨d,t⟩ i
 refine⟨λh=>?_,λh=>?_⟩
 .simp only[bg]at h;let⟨x,e⟩:=dU b k;refine⟨V,V,x,by simpa using d.aS (c.bt e),?_⟩;refine(jm).cg λj B o a=>⟨j,O,λv=>?_,λp=>?_⟩
  .have f:=d.J a;refine⟨V,V,x,by simpa using f.aS (c.bt e),?_⟩;intro C;refine rY (t.ext a) f (by have:=rZ (b.take k);simp at this;omega) λr E F u=>i V _ _ ⟨u,?_⟩
   grind [bX,sY,oC]
  .refine i V _ _ ⟨d.J a,?_⟩
   rw[bX e,sY];have:oC [x]=[]:=by simp[oC];have:=fb o p;omega
   grind [jw.ext]
 .grind [decide_eq_false_iff_not,eQ]
def vR{f:bW}{r:E}(i:be m r f.aU)(j:be m s b)(v:∀y∈b,0<=y/\y<f.aU.length)(J:b.length<=100000000):
 sC 211 [fv f r o e,s.v] m (dQ f b):=by
 apply JL
 simp -zeta only[dR]
 intro a p
 have A:=px a
 have u:=px p
 have x:jw a p bB 1 (.mk a.size 0 0 0) []:=by grind [jw.bF,D.cT]
 have w:∀t∈[m.size],t<a.size:=by simp[a]
 have H:=j.aT
 have G:=i.aT
 refine gL (n:=b.length) V (λk s c=>D a c/\jw a c bB 1 s ((dQ f (b.take k)).map Ce.i)) ⟨u,by simpa[dQ]using x⟩ ?_
 rintro k s K I μ F ⟨c,z⟩ B
 have l:=A.J c
 refine⟨λh=>?_,λh=>?_⟩
 .simp only[bg]at h
  let⟨y,d⟩:=dU b k
  have g:=v y (aZ d)
  refine⟨V,V,y,by simpa using l.aS (j.bt d),g.1,V,bt f.aU y,by simpa using l.aS (i.tB g.1 g.2),?_⟩
  intro L
  refine rY z c (by simp[dQ];omega) λN M C q=>⟨D.wH (c.bZ _) q w,B V _ _ ⟨q,?_⟩⟩
  rw[bX d]
  simpa[dQ]using C
 .grind [decide_eq_false_iff_not,eQ,jw.cV,D.aQ]
end
section
variable{g:bh}{b:bW}{t v d p h u j:E}{s:St}{c:ab}{q:Nat}{k:da}{w:Int}{e:Nat->Int}{x:Instr}
def MS{e:E}(L:be g t b.aU)(ho:be g v b.bI){s:E}(B:be g s c)(ac:∀y∈c,0<=y/\y<b.aU.length)(al:b.aU.length=b.bI.length)(av:b.bI.length<=1000000)(ar:c.length<=1000000)
 (J:∀w∈b.bI,-1000000000<=w/\w<=1000000000):sC 116 [fv b t v e,s.v] g (cL b.aU b.bI c):=by
 apply Hp
 simp -zeta only[dR]
 intro u
 have I:=px u
 have G:∀F∈[g.size],F<u.size:=by simp[u]
 have au:=B.aT
 have aq:=L.aT
 refine(oQ (ho.ext I) V).bL V G λz m2 o2 i2 U=>⟨z,O,?_⟩
 have K:=i2.aT
 have nE:∀(d C bI:ab),cL b.aU bI (d++C)=cL b.aU (cL b.aU bI d) C:=by
  intro d;induction d with
  |nil=>intro C bI;rfl
  |cons y d k=>intro C bI;simp only[eS,cL,k]
 have lo:∀(d bI:ab)(x:Int),(∀w∈bI,x<=w)->∀w∈cL b.aU bI d,x -d.length<=w:=by
  intro d;induction d with
  |nil=>intro bI x h w p;have:=h w p;simp;omega
  |cons y d k=>
   intro bI x h w p;simp only[cL]at p;have:=k _ (x -1) (λH j=>by
    split at j
    .rcases gJ (y.toNat<bI.length)with q|q
     .rcases tO j with j|j
      .have:=h _ (kQ (i:=y.toNat) (a:=bt bI y) (by obtain⟨M,A⟩:=gD q;rw[Ps A];exact A));omega
      grind
     grind [gX,bt,List.set_eq_of_length_le]
    .have:=h H j;omega) w p
   simp only[dy];omega
 refine gP (n:=c.length) V (λk j=>D u j/\jw u j bB 1 z ((cL b.aU b.bI (c.take k)).map Ce.i)) ⟨U,o2⟩ ?_
 rintro k m3 ah μ hk ⟨M,ae⟩ R
 have N:=I.J M
 refine⟨λh=>?_,λh=>?_⟩
 .simp only[bg]at h
  let⟨y,q⟩:=dU c k
  have j:=ac y (aZ q)
  have am:=my b.aU (c.take k) b.bI
  refine⟨V,V,y,by simpa using N.aS (B.bt q),j.1,V,bt b.aU y,by simpa using N.aS (L.tB j.1 j.2),?_⟩
  refine(jm).bL M G λF Q X W A=>⟨F,O,λZ=>?_,λai=>?_⟩
  .have P:=I.J A
   have H:=ae.ext W
   have i4:be Q z (cL b.aU b.bI (c.take k)):=be.jA H V
   refine⟨V,V,y,by simpa using P.aS (B.bt q),V,V,y,by simpa using P.aS (B.bt q),j.1,V,bt (cL b.aU b.bI (c.take k)) y,i4.tB j.1 V,j.1,V,?_⟩
   have ao:=lo (c.take k) b.bI (-1000000000) (λw p=>(J w p).1) _ (iS (l:=cL b.aU b.bI (c.take k)) j.1 V)
   have aj:bt (cL b.aU b.bI (c.take k)) y<=1000000000:=by
    let⟨q',ag,ak⟩:=ou (c.take k) b.bI y.toNat _ (jT (l:=cL b.aU b.bI (c.take k)) j.1 V);have:=(J q' (aZ ag)).2;omega
   have an:(c.take k).length<=1000000:=cB
   rw[iz]
   rcases H.bt with ad|⟨p,T,tail,e1,e2,e3,e4,e5⟩
   .rw[ad]at K;simp at K;omega
   .have af:z.off=0:=by rw[e1];rfl
    have Y:z.bu=p:=by rw[e1];rfl
    rw[af,Y]
    have aa:0+y.toNat*1=y.toNat:=V
    rw[aa]
    have ap:y.toNat<((cL b.aU b.bI (c.take k)).map Ce.i).length:=cB
    refine⟨e3.jb cB,?_⟩
    intro m5
    have S:D u m5:=A.aV e2 _ _
    refine⟨D.wH A S G,R V _ ⟨S,?_⟩⟩
    rw[bX q,nE]
    simp only[cL,bn (X.1 Z)]
    refine⟨by rw[jW,jO,<-jW (f:=Ce.i)];exact H.aT,bR ⟨p,T,tail,e1,e2,?_,?_,e5⟩⟩
    .have:=dF.aV (m:=Q) (o:=y.toNat) (r:=[.i (bt (cL b.aU b.bI (c.take k)) y -1)]) e3
     have e6:kH ((cL b.aU b.bI (c.take k)).map Ce.i++tail) y.toNat [.i (bt (cL b.aU b.bI (c.take k)) y -1)]=(gX (cL b.aU b.bI (c.take k)) y (bt (cL b.aU b.bI (c.take k)) y -1)).map Ce.i++tail:=by
      grind [kH,gX,List.map_set,List.set_append_left]
     grind
    grind [List.length_append,List.length_map,jO]
  .refine R V _ ⟨A,?_⟩
   rw[bX q,nE]
   grind [cL,jw.ext]
 .grind [decide_eq_false_iff_not,eQ,jw.cV,D.aQ]
def jG{cw o x:E}(a:RV g q 2 d p cw o x k s)(L:1000<=w){c:dt}(i:s.aR[ix w]? =some c):
 bK dO 172 [vp q 0,vi w] g λB u=>∃b,B=.agg #[vi c.bS,vi c.jx,b.v]/\be u b c.bJ/\D g u:=by
 apply yz (q,0)
 simp -zeta only[dR]
 intro z
 have l:=px z
 have j:=gC.ext l a.aR
 let⟨b,F,n,g1,g2⟩:=j.bt i
 have J:=j.aT
 have K:=j.kM
 have y:=br i
 unfold ix at y n g1 g2
 have e:eI (w -1000)=w -1000:=iz
 rw[e]
 refine⟨o,l.aS a.wc,V,V,c.bS,n,c.jx,g1,b,g2,?_⟩
 intro A
 have r:D g A:=by grind [D.aV]
 let⟨v,G,M,N,t⟩:=(gC.ext r a.aR).bt i
 unfold ix at t
 have I:v=b:=by
  obtain⟨C,H,_,_,m⟩:=a.aR.bt i;unfold ix at m;have f:=l.aS m;have h:=r.aS m;rw[g2]at f;rw[t]at h;simp at f h;rw[E.Lz]at f h;rw[f,h]
 grind
def yV{cw L C:E}(B:RV g q 2 d p cw L C k s)(H:jd s.aR e){z:E}(m:be g z c)(J:∀w∈c,iI s.aR w)(Z:c.length<=1000000):
 fX dO 208 [vp q 0,z.v] g (oH s.aR c):=by
 apply vQ (q,0)
 have Y:=m.aT
 refine gP (n:=c.length) V (λo a=>D g a/\∀w∈c.take o,1000<=w->(bz s.aR w).bS+iW c (ix w)<=999999) ⟨cY,bO⟩ ?_
 rintro o m1 N μ T ⟨u,t⟩ M
 refine⟨λh=>?_,λh=>oO (gH cB t) u⟩
 simp only[bg]at h
 let⟨x,f⟩:=dU c o
 have l:=J x (aZ f)
 have X:=lD l.1
 refine gL (n:=c.length) V (λj(v:Int) a=>D g a/\v=iW (c.take j) (ix x)) ⟨u,by simp[iW]⟩ ?_
 rintro j v m2 P μ2 S ⟨a,rfl⟩ y
 refine dit (λF=>?_) λF=>?_
 .let⟨A,r⟩:=dU c j
  have K:=pC (c.take j) (ix x)
  have I:=lC (c.take j) (ix x)
  have G:(c.take j).length<=1000000:=cB
  have Q:iW (c.take (j+1)) (ix x)=iW (c.take j) (ix x)+if A=x then 1 else 0:=by
   rw[bX r,pB];grind [iW]
  refine⟨V,V,A,by simpa using a.aS (m.bt r),V,V,x,by simpa using a.aS (m.bt f),λi=>y V _ _ ⟨a,?_⟩,λi=>y V _ _ ⟨a,?_⟩⟩
  .grind [iz]
  grind
 .rw[eQ V]
  have K:=pC c (ix x)
  have I:=lC c (ix x)
  let⟨r,W⟩:=dz l
  have U:=(H.gZ _ (aZ r)).hi
  refine⟨V,V,x,by simpa using a.aS (m.bt f),?_⟩
  refine(jG (B.ext a) l.1 r).aP ?_
  rintro _ m3 ⟨b,rfl,R,i⟩
  have Q:eI ((bz s.aR x).bS+iW c (ix x))=(bz s.aR x).bS+iW c (ix x):=iz
  refine⟨_,_,_,O,λA=>fy (λG=>?_) (a.J i),λA=>M V _ ⟨a.J i,dK f t λ_=>?_⟩⟩
  .have:=G x (aZ f) l.1
   grind
  grind
theorem xc{h:ah}:oH h (oC c)<->oH h c:=by
 grind [oH,nT,Ew]
theorem aaF{s:E}(h:be g s c)(p:1<=c.length):be g (E.cut s 1 s.len 1) (c.drop 1):=by
 have b:=h.aT;have i:=h.ms;have l:=h.kM;cases s with
 |nil=>simp at b;omega
 |DG d v sp=>simp at b;omega
 |mk d v r o=>
  simp at b i l;refine⟨by simp[E.cut];omega,by simp[E.cut];omega,by simp[E.cut];omega,λn x a=>?_⟩;rw[rJ]at a;have q:=br a;let⟨f,j,mu⟩:=h.kY (1+n) x a;refine⟨f,j,λm e k=>?_⟩;have:=mu m e k;simp only[E.cut,E.lT,E.vL]at this⊢;rw[aW V];rw[<-this];congr 1;omega
def iH.tS(h:iH k b){t:Int}(d:0<=t)(e:t<b.aU.length)(f:∀w∈b.aU,w<=9223372036854775807): -9223372036854775808<=bt b.aU t/\bt b.aU t<=9223372036854775807:=by
 have c:=iS (l:=b.aU) d e;refine⟨?_,f _ c⟩;rcases h.XJ _ c with a|a
 .have:=a.1;omega
 .omega
def OD{cw U fr:E}(n:RV g q 2 d p cw U fr k s)(L:jd s.aR e)(N:be g t b.aU)(M:be g h b.cC)(l:be g u x.aO)
 (K:iH k b)(ai:∀w∈b.aU,w<=9223372036854775807)(ak:∀y∈x.aO,0<=y/\y<b.aU.length)(aw:1<=x.aO.length/\x.aO.length<=4)(ax:x.op=16\/x.op=17):
 fX dO 173 [vp q 0,fv b t v h,xv x u j] g (FX s.aR b x):=by
 apply xK (q,0)
 simp -zeta only[dR]
 intro m1 Z
 have a:D g Z:=((D.cT g).bZ _).bZ _
 have i:∀f∈[m1.size,g.size],f<Z.size:=cB
 have ap:=l.aT
 have az:=N.aT
 have av:=M.aT
 have ao:=l.ms
 have c:0<=bt x.aO 0/\bt x.aO 0<b.aU.length:=by grind [iS]
 have P:bt x.aO 0<b.cC.length:=by have:=K.lr;have:=K.lh;omega
 have al:=K.tS c.1 c.2 ai
 refine⟨V,V,bt x.aO 0,(l.ext a).tB V V,c.1,V,bt b.aU (bt x.aO 0),(N.ext a).tB c.1 c.2,U,a.aS n.wc,?_⟩
 unfold FX
 simp only[]
 generalize aA:bt b.aU (bt x.aO 0)=w at*
 refine(oR (gC.ext a n.aR) al).bL cY i λf m3 m A _=>⟨f,O,λag=>fy (λB=>nb m ag B.1) (a.J A),λaf=>?_⟩
 have r:=yb m af
 let⟨C,ay⟩:=dz r
 have ar:=(L.gZ _ (aZ C)).fl
 have am:=a.J A
 refine((jG (n.ext am) r.1 C)).bL A i ?_
 rintro _ m4 ⟨fl,rfl,aj,S⟩
 have Q:=A.J S
 refine⟨S,_,_,_,O,(sN aj V).bL (oh (rZ (bz s.aR w).bJ)) (λf m=>Q.lt (i f m)) λps m5 o5 Y h5=>⟨ps,O,V,V,V,?_⟩⟩
 have G:=Q.J h5
 have X:=a.J G
 have e1:(Int.toNat (1:Int))=1:=rfl
 have e2:(Int.toNat (u.len:Int))=u.len:=V
 rw[e1,e2]
 refine(vR (N.ext X) (aaF (l.ext X) V) (λy o=>ak y (ue o)) cB).bL (by simp[dQ];omega) (λf m=>G.lt (i f m)) λqs m6 o6 i6 I=>⟨qs,O,?_⟩
 have aa:=G.J I
 refine(uE (Y.ext I) i6).bL aa i λb2 m7 T h7 z=>⟨b2,O,λac=>?_,λab=>fy (λB=>fb T ab B.2.1) (a.J z)⟩
 have W:=T.1 ac
 refine(jG (n.ext (a.J z)) r.1 C).bL z i ?_
 rintro _ m8 ⟨an,rfl,au,J⟩
 have H:=z.J J
 refine⟨J,_,_,_,O,λy=>?_,λy=>?_⟩
 .simp at y
  have F:=a.J H
  refine⟨λo=>oO ⟨r,W,bC y,λe=>by simp at o;omega⟩ F,λo=>⟨V,V,bt x.aO 0,(l.ext F).tB V V,c.1,V,bt b.cC (bt x.aO 0),(M.ext F).tB c.1 P,kX ?_ F⟩⟩
  grind [beq_eq_false_iff_ne]
 .simp at y
  refine(yV (n.ext (a.J H)) L (Y.ext ((I.J h7).J J)) (λR F=>L.qd (aZ C) (nT.1 F).1 (nT.1 F).2) (oh (rZ (bz s.aR w).bJ))).bL H i λb3 m9 ad h9 R=>⟨b3,O,λae=>?_,λaq=>fy (λB=>?_) (a.J R)⟩
  .have ah:=xc.1 (ad.1 ae)
   have F:=a.J R
   refine⟨λo=>oO ⟨r,W,bR ah,λe=>by simp at o;omega⟩ F,λo=>⟨V,V,bt x.aO 0,(l.ext F).tB V V,c.1,V,bt b.cC (bt x.aO 0),(M.ext F).tB c.1 P,kX ?_ F⟩⟩
   grind [beq_eq_false_iff_ne]
  grind [xc]
def MK{cw P X:E}(a:RV g q 2 d p cw P X k s)(A:iB k)(x:jd s.aR e)(hw: -9223372036854775808<=w/\w<=9223372036854775807):
 fX dO 170 [vp q 0,vi w] g (zO k s.aR w):=by
 apply wL (q,0)
 simp -zeta only[dR]
 refine⟨P,a.wc,(oR a.aR hw).cg λf m1 j u=>⟨f,O,λae=>fy (λb=>nb j ae b.1) u,λad=>?_⟩⟩
 have N:=yb j ad
 let⟨z,ag⟩:=dz N
 have J:=x.gZ _ (aZ z)
 have ax:=(J.wW ag).2
 refine(jG (a.ext u) N.1 z).aP ?_
 rintro _ i ⟨t,rfl,M,h2⟩
 refine⟨_,_,_,O,?_⟩
 intro m3 n
 have ai:=u.J h2
 have C:D i n:=by grind [D.cT,D.bZ,D.aV]
 have s4:n.size=i.size+1:=by grind [bD]
 have hB:aS n i.size 1=some (vi (bz s.aR w).jx):=(dF.aV (m:=m3) (o:=0) (r:=[.i (bz s.aR w).bS,.i (bz s.aR w).jx,.s t]) (dF.push i _ _)).dx 1
 have l:∀f∈[i.size],f<n.size:=by simp[s4]
 have c:=ai.J C
 have K:=a.ext c
 have av:=a.iG.di.aT
 have au:=A.mT.aT
 have al:(gR k.bT).length<=12:=by
  have:=tE A.mT.dm k.bT.length;grind [qI]
 refine⟨d,K.bT,(uC K.iG.bT A.mT.dm).bL cY l λm5 v _=>⟨_,O,v.cZ hB,p,(a.ext (c.J v)).di,?_⟩⟩
 have T:eI ((bz s.aR w).jx -((gR k.bT).length:Int))=(bz s.aR w).jx -cF k:=iz
 have U:eI ((p.len:Int) -1)=(p.len:Int) -1:=iz
 rw[T,U]
 refine(dj).bL v l λb2 m6 L h6 h=>⟨b2,O,λac=>?_,λab=>fy (λb=>fb L ab ⟨b.2.1,oh b.2.2.1⟩) (c.J h)⟩
 have aw:=L.1 ac
 have B:=c.J h
 have y:=a.ext B
 let⟨aj,Q⟩:=dU k.di (((bz s.aR w).jx -cF k).toNat)
 have ah:dG k ((bz s.aR w).jx -cF k)=aj:=by simp[dG,Q]
 obtain⟨S,l',c',aa,af,ao,Y,g1,_⟩:=y.iG.di.bt Q
 have am:=aa.aT
 have ar:=af.aT
 have aq:=M.aT
 have ap:=J.fl
 have W:eI ((t.len:Int)+1)=(t.len:Int)+1:=iz
 rw[W]
 unfold zO
 rw[ah]
 refine⟨p,y.di,V,V,S,Y,λG=>⟨p,y.di,V,V,l',g1,λH=>⟨λI=>?_,λI=>?_⟩,λH=>fy (λb=>?_) B⟩,λG=>fy (λb=>?_) B⟩
 .grind
 .simp at G H I
  refine(sN (M.ext (C.J h)) V).bL (oh (rZ (bz s.aR w).bJ)) (λf j=>h.lt (l f j)) λps m7 o7 i7 Z=>⟨ps,O,?_⟩
  have F:=h.J Z
  refine(yV (a.ext (c.J F)) x i7 (λak R=>x.qd (aZ z) (nT.1 R).1 (nT.1 R).2) (oh (rZ (bz s.aR w).bJ))).bL F l λb3 m8 an ak R=>⟨b3,O,kX ?_ (c.J R)⟩
  grind [xc]
 .grind
 .grind
def ML{cw N G:E}(C:RV g q 2 d p cw N G k s)(B:be g h b.cC)(I:be g u x.aO)(U:0<=x.dh/\x.dh<=b.cC.length)(W:b.cC.length<=1000000)
 (L:∀w∈b.cC,w≠0->1000<=w/\∃o,s.aR[ix w]? =some o):
 fX dO 167 [vp q 0,fv b t v h,xv x u j] g (JW s.aR b x):=by
 apply wM (q,0)
 simp -zeta only[dR]
 intro m n
 have c:D g n:=((D.cT g).bZ _).bZ _
 have M:∀F∈[m.size,g.size],F<n.size:=by simp[n,m];omega
 have H:aS n m.size 4=some u.v:=(dF.push m _ _).dx 4
 have R:=I.aT
 have T:=B.aT
 unfold JW
 refine⟨λf=>oO (λr=>absurd (sp f) r) c,λf=>?_⟩
 simp at f
 have e:eI (x.dh -1)=x.dh -1:=iz
 rw[e]
 have A:=(B.ext c).tB (i:=x.dh -1) V V
 refine⟨V,V,bt b.cC (x.dh -1),A,λa=>oO (λ_ r=>absurd (sp a) r) c,λa=>?_⟩
 simp at a
 let⟨P,o,z⟩:=L _ (iS (l:=b.cC) (i:=x.dh -1) V V) a
 refine⟨V,V,bt b.cC (x.dh -1),A,(jG (C.ext c) P z).bL cY M ?_⟩
 rintro _ X ⟨Q,rfl,K,r⟩
 have S:=K.aT
 have J:bz s.aR (bt b.cC (x.dh -1))=o:=by simp[bz,z]
 refine⟨r,_,_,_,O,r.cZ H,kX ?_ (c.J r)⟩
 rw[J]
 simp
 exact⟨λy _ _=>V,λy=>oh (y f a)⟩
theorem ln(k:da)(x:Instr):∀(c t:ab)(a:Nat),fJ k x a (c++t)=fJ k x a c++fJ k x (a+c.length) t
 |[],t,a=>by simp[fJ]
 |u::c,t,a=>by
  have:=ln k x c t (a+1);grind [fJ,List.length_cons,List.length]
def AE{cw i Z:E}(o:RV g q 2 d p cw i Z k s)(S:be g t b.aU)(F:be g u x.aO)(hF:iH k b)(af:∀w∈b.aU,w<=9223372036854775807)
 (ag:∀y∈x.aO,0<=y/\y<b.aU.length)(hc:DH k x)(ai:x.op=9\/x.op=24):
 fX dO 168 [vp q 0,fv b t v h,xv x u j] g (Pl k s.aR b x):=by
 apply wK (q,0)
 simp -zeta only[dR]
 intro X m
 have I:D g m:=((D.cT g).bZ _).bZ _
 have H:∀r∈[X.size,g.size],r<m.size:=by simp[m,X];omega
 have aa:=F.aT
 have ak:=S.aT
 refine gP (n:=x.aO.length) (aa▸F.kM) (λa c=>D m c/\∀y∈fJ k x 0 (x.aO.take a),1000<=bt b.aU y->iI s.aR (bt b.aU y)) ⟨cY,by simp[fJ]⟩ ?_
 rintro a m3 aj μ hk ⟨U,R⟩ K
 have l:=I.J U
 refine⟨λh=>?_,λh=>oO (by simp at h;rwa[eQ V]at R) l⟩
 simp only[bg]at h
 let⟨y,J⟩:=dU x.aO a
 have f:=ag y (aZ J)
 have C:=o.ext l
 have T:fJ k x 0 (x.aO.take (a+1))=fJ k x 0 (x.aO.take a)++fJ k x a [y]:=by
  rw[bX J,ln];congr 2;simp;omega
 have G:(lA k x a=true->1000<=bt b.aU y->iI s.aR (bt b.aU y))->∀z∈fJ k x 0 (x.aO.take (a+1)),1000<=bt b.aU z->iI s.aR (bt b.aU z):=λhh z c=>by
  rw[T]at c;rcases bU.1 c with c|c
  .exact R z c
  .simp only[fJ]at c;split at c
   .rename_i e;simp at c;subst c;exact hh e
   .simp at c
 have ah:lA k x a=true->y∈fJ k x 0 x.aO:=λe=>by
  have Y:x.aO=x.aO.take (a+1)++x.aO.drop (a+1):=(j8 _ _).symm;rw[Y,ln,T];refine dN _ (mW _ ?_);simp only[fJ];rw[bn e];simp
 refine⟨V,V,y,by simpa using l.aS (F.bt J),f.1,V,bt b.aU y,by simpa using l.aS (S.tB f.1 f.2),d,C.bT,p,C.di,?_⟩
 refine(vO C.iG hc u j a).bL U H λr m4 N h4 L=>⟨r,O,λae=>?_,λad=>K V _ ⟨L,G λe=>absurd ⟨ai,e⟩ (fb N ad)⟩⟩
 have e:=(N.1 ae).2
 refine(jm).bL L H λb2 m5 P h5 A=>⟨b2,O,λac=>?_,λab=>K V _ ⟨A,G λ_ i=>absurd i (fb P ab)⟩⟩
 have W:=I.J A
 refine⟨i,(o.ext W).wc,(oR (gC.ext W o.aR) (hF.tS f.1 f.2 af)).bL A H λb3 m6 Q h6 M=>⟨b3,O,λB=>fy (λhM=>nb Q B (hM y (ah e) (P.1 ac))) (I.J M),λB=>K V _ ⟨M,G λ_ _=>yb Q B⟩⟩⟩
end
section
@[grind cases] structure vW (im:da) (s:St) (fs:an) (f:bW) (x:Instr):Prop where
 ok:dZ im s
 afs:s.eC=3
 fr:s.bq=fs++[f]
 cur:fE im f=x
 JQ:∀g∈s.bq,∀w∈g.aU,w<=9223372036854775807
section
variable{b:da}{s:St}{c:an}{f:bW}{x:Instr}
theorem vW.F(a:vW b s c f x):iH b f:=a.ok.bq f (by rw[a.fr];simp)
def vW.Rm(a:vW b s c f x):∀w∈f.aU,w<=9223372036854775807:=by grind [vW.JQ,vW.fr]
theorem vW.I(a:vW b s c f x):∃p,b.di[f.fP.toNat]? =some p/\dG b f.fP=p/\pd b p/\p.eA[f.pc.toNat]? =some x/\iP b p f.pc.toNat x:=by
 have:=a.F.Kw a.ok.iG;rwa[a.cur]at this
def vW.Tk(a:vW b s c f x):f.aU.length=f.bI.length/\f.cC.length=f.bI.length/\1<=f.bI.length/\f.bI.length<=2000:=by
 grind [vW.I,vW.F,iH.lr,iH.lo,iH.lh,pd.aU]
theorem vW.arg(a:vW b s c f x):∀y∈x.aO,0<=y/\y<f.aU.length:=λy d=>by
 grind [vW.I,vW.F,iH.lr,iP.aO]
def vW.bH(a:vW b s c f x):0<=x.bH/\x.bH<f.bI.length:=by
 grind [vW.I,vW.F,iH.lo,iP.bH]
def vW.jE(a:vW b s c f x):DH b x:=by grind [vW.I,iP.jE]
def vW.opc(a:vW b s c f x):0<=x.op/\x.op<=24/\x.op≠7/\x.op≠8/\x.op≠12/\x.op≠13:=by
 obtain⟨p,_,_,e,_,d⟩:=a.I;grind [Nx,pd.aU,vW.ok,dZ.iG,iB.mT,nD.aT,nD.eR]
def vW.oJ(g:vW b s c f x):x.aO.length<=4/\((x.op=5\/x.op=14\/x.op=15\/x.op=18\/x.op=23\/x.op=19\/x.op=20\/x.op=21)->x.aO.length=1)/\((x.op=1\/x.op=2\/x.op=3\/x.op=4\/x.op=11)->x.aO.length=2)/\
 ((x.op=16\/x.op=17)->1<=x.aO.length)/\(x.op=6->0<=x.dh/\x.dh<=f.cC.length/\0<=x.cE/\x.cE<12/\x.aO.length<=3)/\(x.op=10->0<=x.cE/\x.cE<4/\x.aO.length<=3)/\(x.op=0->-999<=x.cE/\x.cE<=999):=by
 obtain⟨y,_,m,w,_,t⟩:=g.I
 have a:=t.op
 have p:=g.F.lh
 rw[m]at p
 have d:=g.ok.iG.mT
 have u:(gR b.bT).length<=12:=by
  have:=tE d.dm b.bT.length;grind [qI]
 have v:=DZ d.dm x.cE
 unfold mJ at a
 by_cases h:x.op=0
 .rw[bn h]at a;omega
 rw[aW h]at a
 by_cases i:x.op=1\/x.op=2\/x.op=3\/x.op=4\/x.op=11
 .rw[bn i]at a;omega
 rw[aW i]at a
 by_cases j:x.op=5\/x.op=14\/x.op=15\/x.op=18\/x.op=23
 .rw[bn j]at a;omega
 rw[aW j]at a
 by_cases n:x.op=6
 .grind
 rw[aW n]at a
 by_cases k:x.op=9\/x.op=24
 .rw[bn k]at a
  let⟨q,o,e,r⟩:=a
  have:=(d.eR q (aZ e)).1;omega
 rw[aW k]at a
 by_cases l:x.op=10
 .rw[bn l]at a
  obtain⟨⟨q,o,e,r⟩,_⟩:=a
  have:=(d.eR q (aZ e)).1
  have:=br e
  have:=d.aT;omega
 rw[aW l]at a
 by_cases e:x.op=16\/x.op=17
 .grind
 rw[aW e]at a
 by_cases o:x.op=19
 .grind
 rw[aW o]at a
 by_cases q:x.op=20
 .grind
 grind
def vW.P3(d:vW b s c f x):∀w∈f.cC,w≠0->1000<=w/\∃e,s.aR[ix w]? =some e/\e.bS<0:=λw h k=>by
 have g:1000<=w:=by have:=d.F.cC w h;omega
 refine⟨g,?_⟩;have j:0<eU s.bq (ix w):=by
  rw[d.fr,iT,lU];have:=zU c (ix w);have:=wG (l:=f.cC) (f:=ix w) (by rw[lD g];exact h);omega
 exact iC λi=>by have:=d.ok.qV (ix w) i;omega
def vW.Tu(d:vW b s c f x):∀o∈f.bI,0<=o/\o<=999999:=λo h=>by
 refine⟨(d.F.Ql o h),?_⟩;rcases gJ (0<o)with i|i
 .let⟨k,e⟩:=cH.1 h;have:=d.Tk;let⟨w,j⟩:=dU f.aU k (oh (br e));have m:=KE d.F.Ql j e (c:=ix w) (by rw[lD ((d.F.bI k o w e j).2 i)]);have n:o<=jX s.bq (ix w):=by
   rw[d.fr,jL,nR];have:=KF (b:=c) (λg l=>d.ok.bq g cB) (ix w);omega
  let⟨g,hd,l⟩:=d.ok.aR.lv (ix w) V;have p:=d.ok.aR.ex _ g hd l;have q:=yS s.aR (ix w);have r:=(d.ok.aR.gZ g (aZ hd)).hi;omega
 .omega
def vW.O8(a:vW b s c f x):∀r∈cO b x,0<=r/\r<f.aU.length:=λr d=>a.arg r (wS d)
end
def QR{o:bh}{mb:Nat}{af aq cw d fr:E}{im:da}{X:St}(L:RV o mb 2 af aq cw d fr im X){fs:an}{n:bW}{x:Instr}(C:vW im X fs n x){W ac h Q aj ow:E}(N:be o W n.aU)(hh:be o h n.cC)(J:be o Q x.aO){bI:ab}(T:be o ow bI)(av:bI.length=n.bI.length):
 fX dO 118 [vp mb 0,fv n W ac h,xv x Q aj,ow.v] o (pb im X n x bI):=by
 apply yA (mb,0)
 simp -zeta only[dR]
 intro U P
 have b:D o P:=((D.cT o).bZ _).bZ _
 have i:∀g∈[U.size,o.size],g<P.size:=by simp[P,U];omega
 have ag:dF P U.size fx [.i x.op,.i x.bH,.i x.cE,.i x.dh,.s Q,.s aj]:=dF.push U _ _
 have al:dF P o.size iu [.i n.fP,.i n.pc,.i n.bH,.s W,.s ac,.s h]:=(dF.push o _ _).ext (D.push U _)
 have ar:=J.aT
 have ax:=N.aT
 have aw:=T.aT
 have hd:=C.bH
 have au:=C.Tk
 have H:=C.oJ
 have hI:=C.ok.aR
 refine⟨λK=>D P K/\(∀ac∈bI,0<=ac)/\(lL x.op->bt bI x.bH<=0),?_,?_⟩
 .refine(Fm (T.ext b)).bL cY i λg m3 c m _=>⟨g,O,λu=>fy (λl=>nb c u l.nn) (b.J m),λz=>?_⟩
  refine(BW _ _).bL m i λb2 A y w a=>⟨b2,O,λu=>?_,λv=>⟨a,yb c z,λe=>absurd e (fb y v)⟩⟩
  refine⟨hd.1,V,bt bI x.bH,(T.ext (b.J a)).tB hd.1 V,λk=>fy (λl=>?_) (b.J a),λk=>⟨a,yb c z,λ_=>by simpa using k⟩⟩
  have:=l.bH (y.1 u);simp at k;omega
 .rintro m3 ⟨m,q,p⟩
  have f:=b.J m
  have t:=L.ext f
  have B:1<=x.aO.length->0<=bt x.aO 0/\bt x.aO 0<n.aU.length:=λM=>C.arg _ (iS V V)
  have F:∀{K},D o K->1<=x.aO.length->aS K Q.bu (Q.off+Int.toNat (0:Int)*1)=some (vi (bt x.aO 0)):=λhx M=>(J.ext hx).tB V V
  have G:∀{K},D o K->1<=x.aO.length->aS K W.bu (W.off+Int.toNat (bt x.aO 0)*1)=some (vi (bt n.aU (bt x.aO 0))):=λhx M=>(N.ext hx).tB (B M).1 (B M).2
  refine⟨λe=>?_,λe1=>?_⟩
  .simp only[eG,bP]at e
   refine(I7 (N.ext f) (J.ext f) C.arg).bL m i λg A c w a=>⟨g,O,kX (c.trans ?_) (b.J a)⟩
   refine⟨λd=>?_,λh=>h.oL V⟩
   refine⟨q,p,?_,?_,?_,?_,?_,?_,?_,?_,?_,?_,?_⟩<;>intro r<;>first|(exfalso;omega)|exact d
  simp only[cU,ba]at e1
  refine⟨λe=>?_,λe2=>?_⟩
  .simp only[bP]at e
   have j:=H.2.2.2.2.1 e
   refine(ML t (hh.ext f) (J.ext f) ⟨j.1,j.2.1⟩ V (λY S R=>by obtain⟨M,s,I,_⟩:=C.P3 Y S R;exact⟨M,s,I⟩)).bL m i λg A c w a=>⟨g,O,kX (c.trans ?_) (b.J a)⟩
   refine⟨λd=>?_,λh=>h.kC e⟩
   refine⟨q,p,?_,?_,?_,?_,?_,?_,?_,?_,?_,?_,?_⟩<;>intro r<;>first|(exfalso;omega)|exact d
  simp only[ba]at e2
  refine⟨λe=>?_,λe3=>?_⟩
  .simp only[bP]at e
   refine(AE t (N.ext f) (J.ext f) C.F C.Rm C.arg C.jE (bC e)).bL m i λg A c w a=>⟨g,O,kX (c.trans ?_) (b.J a)⟩
   refine⟨λd=>?_,λh=>h.df (bC e)⟩
   refine⟨q,p,?_,?_,?_,?_,?_,?_,?_,?_,?_,?_,?_⟩<;>intro r<;>first|(exfalso;omega)|exact d
  simp only[ba]at e3
  refine⟨λe=>?_,λe4=>?_⟩
  .simp only[bP]at e
   refine(AE t (N.ext f) (J.ext f) C.F C.Rm C.arg C.jE (bR e)).bL m i λg A c w a=>⟨g,O,λu=>?_,λz=>fy (λl=>fb c z (l.df (bR e))) (b.J a)⟩
   refine(sq (T.ext (b.J a))).bL a i λb2 m5 y k s=>⟨b2,O,λae=>?_,λv=>fy (λl=>fb y v (l.ov (bC e)).1) (b.J s)⟩
   refine(sq (hh.ext (b.J s))).bL s i λb3 m6 I R j=>⟨b3,O,kX (I.trans ?_) (b.J j)⟩
   refine⟨λd=>?_,λh=>(h.ov (bC e)).2⟩
   refine⟨q,p,?_,?_,?_,?_,?_,?_,?_,?_,?_,?_,?_⟩<;>intro r<;>first|(exfalso;omega)|exact c.1 u|exact⟨y.1 ae,d⟩
  simp only[ba]at e4
  refine⟨λe=>?_,λe5=>?_⟩
  .simp only[bP]at e
   have S:=H.2.1 V
   refine(sq (T.ext f)).bL m i λb2 m5 y k s=>⟨b2,O,λae=>?_,λv=>fy (λl=>fb y v (l.ov (bR e)).1) (b.J s)⟩
   refine(sq (hh.ext (b.J s))).bL s i λb3 m6 I R j=>⟨b3,O,λao=>?_,λam=>fy (λl=>fb I am (l.ov (bR e)).2) (b.J j)⟩
   have aa:=b.J j
   have ah:=L.ext aa
   have Z:=ah.bq.aT
   have kG:∀d:1<X.bq.length\/bt n.aU (bt x.aO 0)<1000,pb im X n x bI:=λd=>by
    refine⟨q,p,?_,?_,?_,?_,?_,?_,?_,?_,?_,?_,?_⟩<;>intro r<;>first|(exfalso;omega)|exact⟨y.1 ae,I.1 ao⟩|exact d
   refine⟨fr,ah.Tc,λY=>oO (kG (bC (by simp at Y;omega))) aa,λY=>?_⟩
   refine⟨V,V,_,F aa V,(B V).1,oh ((B V).2),_,G aa V,(jm).bL j i λb4 m7 ai h9 ad=>⟨b4,O,kX ?_ (b.J ad)⟩⟩
   simp at Y
   constructor
   .intro ak
    exact kG (bR (oh (nb ai ak)))
   .intro l
    rcases l.tT e with ak|ak
    .omega
    .have:¬b4=true:=λap=>by have:=ai.1 ap;omega
     simpa using this
  simp only[ba]at e5
  refine⟨λe=>?_,λe6=>?_⟩
  .simp only[bP]at e
   have S:=H.2.2.1 V
   have j:=B V
   refine⟨V,V,_,F f V,j.1,V,_,G f V,(MK t C.ok.iG hI (C.F.tS j.1 j.2 C.Rm)).bL m i λg A c w a=>⟨g,O,kX (c.trans ?_) (b.J a)⟩⟩
   refine⟨λd=>?_,λh=>h.apply e⟩
   refine⟨q,p,?_,?_,?_,?_,?_,?_,?_,?_,?_,?_,?_⟩<;>intro r<;>first|(exfalso;omega)|exact d
  simp only[ba]at e6
  refine⟨λe=>?_,λe7=>?_⟩
  .simp only[bP]at e
   have S:=H.2.1 V
   have j:=B V
   refine⟨V,V,_,F f V,j.1,V,_,G f V,d,t.wc,(oR t.aR (C.F.tS j.1 j.2 C.Rm)).bL m i λg A c w a=>⟨g,O,λu=>?_,λz=>fy (λl=>fb c z (l.dup e).1) (b.J a)⟩⟩
   have v:=c.1 u
   refine(jG (L.ext (b.J a)) v.1 (dz v).1).bL a i ?_
   rintro _ m5 ⟨fl,rfl,Z,k⟩
   refine⟨k,_,_,_,O,kX ?_ (b.J (a.J k))⟩
   simp only[bg]
   refine⟨λd=>?_,λh=>(h.dup e).2⟩
   refine⟨q,p,?_,?_,?_,?_,?_,?_,?_,?_,?_,?_,?_⟩<;>intro r<;>first|(exfalso;omega)|exact⟨v,d⟩
  simp only[ba]at e7
  refine⟨λe=>?_,λe8=>?_⟩
  .simp only[bP]at e
   have S:=H.2.1 V
   have j:=B V
   refine⟨V,V,_,F f V,j.1,V,_,G f V,(jm).bL m i λg A c w a=>⟨g,O,kX (c.trans ?_) (b.J a)⟩⟩
   refine⟨λd=>?_,λh=>h.Bc e⟩
   refine⟨q,p,?_,?_,?_,?_,?_,?_,?_,?_,?_,?_,?_⟩<;>intro r<;>first|(exfalso;omega)|exact d
  simp only[ba]at e8
  refine⟨λe=>?_,λe9=>?_⟩
  .simp only[eG,bP]at e
   refine(OD t hI (N.ext f) (hh.ext f) (J.ext f) C.F C.Rm C.arg ⟨H.2.2.2.1 e,H.1⟩ e).bL m i λg A c w a=>⟨g,O,kX (c.trans ?_) (b.J a)⟩
   refine⟨λd=>?_,λh=>h.Qi e⟩
   refine⟨q,p,?_,?_,?_,?_,?_,?_,?_,?_,?_,?_,?_⟩<;>intro r<;>first|(exfalso;omega)|exact d
  simp only[cU,ba]at e9
  refine⟨λe=>?_,λaa=>?_⟩
  .simp only[bP]at e
   have S:=H.2.1 V
   have j:=B V
   refine⟨d,t.wc,V,V,_,F f V,j.1,V,_,G f V,(oR t.aR (C.F.tS j.1 j.2 C.Rm)).bL m i λg A c w a=>⟨g,O,λu=>?_,λz=>fy (λl=>fb c z (l.tL e).1) (b.J a)⟩⟩
   have v:=c.1 u
   have I:=b.J a
   refine⟨V,V,_,F I V,j.1,V,_,G I V,(jG (L.ext I) v.1 (dz v).1).bL a i ?_⟩
   rintro _ m5 ⟨fl,rfl,Z,k⟩
   have ae:=Z.aT
   refine⟨k,_,_,_,O,k.cZ ((ag.ext a).dx 2),kX ?_ (b.J (a.J k))⟩
   simp only[bg]
   refine⟨λd=>?_,λh=>oh ((h.tL e).2)⟩
   refine⟨q,p,?_,?_,?_,?_,?_,?_,?_,?_,?_,?_,?_⟩<;>intro r<;>first|(exfalso;omega)|exact⟨v,V⟩
  simp only[ba]at aa
  refine⟨λe=>?_,λae=>?_⟩
  .simp only[bP]at e
   have S:=H.2.1 V
   have j:=B V
   refine⟨d,t.wc,V,V,_,F f V,j.1,V,_,G f V,(oR t.aR (C.F.tS j.1 j.2 C.Rm)).bL m i λg A c w a=>⟨g,O,λu=>?_,λz=>fy (λl=>fb c z (l.xS e).1) (b.J a)⟩⟩
   have v:=c.1 u
   have I:=b.J a
   have l:=L.ext I
   refine⟨af,l.bT,V,V,_,F I V,j.1,V,_,G I V,(EO l.iG.bT C.ok.iG.mT.dm).bL a i ?_⟩
   rintro _ m5 ⟨cs,rfl,ah,k⟩
   have s:=a.J k
   refine⟨k,cs,O,k.cZ (G I V),k.cZ (F I V),k.cZ ((ag.ext a).dx 4),k.cZ ((al.ext a).dx 3),(jG (L.ext (b.J s)) v.1 (dz v).1).bL s i ?_⟩
   rintro _ m6 ⟨fl,rfl,Z,R⟩
   refine⟨R,_,_,_,O,(fH (ah.ext R) _).bL (s.J R) i λb2 m7 y Y ad=>⟨b2,O,kX (y.trans ?_) (b.J ad)⟩⟩
   refine⟨λd=>?_,λh=>(h.xS e).2⟩
   refine⟨q,p,?_,?_,?_,?_,?_,?_,?_,?_,?_,?_,?_⟩<;>intro r<;>first|(exfalso;omega)|exact⟨v,d⟩
  .simp only[ba]at ae
   refine oO ?_ f
   refine⟨q,p,?_,?_,?_,?_,?_,?_,?_,?_,?_,?_,?_⟩<;>intro r<;>exfalso<;>omega
end
section
variable{p:Nat->Prop}{o n:Nat}{new:ae}{i:Int}{f:E}
@[grind cases] structure dI (p:Nat->Prop) (ro:ag) (m:bh) (ro':ag) (m':bh):Prop where
 aQ:m.size<=m'.size
 jt:∀b,b<m.size->ro' b=ro b
 bF:∀b,m'.size<=b->ro' b=0
 fQ:∀b,b<m.size->¬p (ro b)->m'[b]? =m[b]?
def dI.cT(p:Nat->Prop){a:ag}{m:bh}(h:∀b,m.size<=b->a b=0):dI p a m a m:=by constructor<;>grind
theorem dI.J{g i j:ag}{d e f:bh}(a:dI p g d i e)(k:dI p i e j f):dI p g d j f:=
 ⟨fC a.aQ k.aQ,λb c=>by rw[k.jt b (cr c a.aQ),a.jt b c],k.bF,λb c h=>by
  rw[k.fQ b (cr c a.aQ) (by rw[a.jt b c];exact h),a.fQ b c h]⟩
theorem dI.aP{q:Nat->Prop}{a g:ag}{m d:bh}(h:dI p a m g d)(b:∀k,p k->q k):dI q a m g d:=by constructor<;>grind [dI.aQ,dI.jt,dI.bF,dI.fQ]
def dI.fB{a:ag}{m d:bh}(h:D m d)(c:∀b,m.size<=b->a b=0):dI p a m a d:=by constructor<;>grind [D.aQ,D.bG]
theorem dI.aV{a:ag}{m:bh}(d:∀b,m.size<=b->a b=0){b:Nat}(c:p (a b))(o:Nat)(l:ae):dI p a m a (aV m b o l):=
 by constructor<;>grind [Nat.le_of_eq,bD,cq]
abbrev HC:=dI (λk=>k=3\/k=5\/k=6)
abbrev To:=dI (λk=>k≠0/\k≠9)
theorem dI.cV{a g:ag}{j m d:bh}(h:To a m g d)(e:D j m)(f:∀b,b<j.size->a b=0):D j d/\∀b,b<j.size->g b=0:=by
 have i:=e.aQ;exact⟨⟨fC i h.aQ,λb c=>by rw[h.fQ b V cB,e.bG b c]⟩,λb c=>by rw[h.jt b V,f b c]⟩
theorem dI.eW{a g:ag}{m d:bh}(h:To a m g d){l:ad}(e:∀b∈l,b<m.size/\a b=0):gS l m d:=λb c=>h.fQ b (e b c).1 cB
@[grind cases] structure iE (ro:ag) (m:bh) (e sz k:Nat) (s:E) (l:ae):Prop where
 aT:l.length=s.len*sz
 le:s.len<=s.cap
 bt:s.cap=0\/∃b c tail,s=.mk b 0 s.len c/\ro b=k/\dF m b e (l++tail)/\(l++tail).length=c*sz
section
variable{a g:ag}{b d:bh}{e c k:Nat}{s:E}{l:ae}
theorem iE.zS(h:iE a b e c k s l)(d:s.cap=0):l=[]/\s.len=0:=by
 grind [iE.le,E.len,List.length_eq_zero_iff,iE.aT]
def iE.kY(h:iE a b e c k s l):jF b s.bu s.off l:=by
 rcases h.bt with f|⟨j,d,tail,h1,h2,h3,h4⟩
 .rw[(h.zS f).1];intro i d g;simp at g
 .rw[h1];exact h3.kY.Q9
def iE.wr(h:iE a b e c k s l)(d:o+n<=l.length):jb b s.bu (s.off+o) n:=by
 rcases h.bt with f|⟨g,i,tail,h1,h2,h3,h4⟩
 .rw[(h.zS f).1]at d;intro m j;simp at d;omega
 .grind [E.lT,E.vL,dF.jb]
theorem iE.fQ(h:iE a b e c k s l)(p:s.cap≠0->d[s.bu]? =b[s.bu]?)(q:s.cap≠0->g s.bu=a s.bu):iE g d e c k s l:=by
 refine⟨h.aT,h.le,?_⟩;rcases h.bt with o|⟨m,n,tail,h1,h2,h3,h4⟩
 .exact bC o
 .by_cases f:s.cap=0
  .exact bC f
  .have i:=p f;have j:=q f;rw[h1]at i j;exact bR ⟨m,n,tail,h1,j.trans h2,h3.congr i,h4⟩
theorem iE.bu(h:iE a b e c k s l)(f:s.cap≠0):s.bu<b.size/\a s.bu=k:=by
 rcases h.bt with d|⟨g,i,tail,h1,h2,h3,h4⟩
 .exact absurd d f
 .rw[h1];exact⟨h3.lt,h2⟩
theorem iE.fN(h:iE a b e c k s l)(f:dI p a b g d)(i:¬p k):iE g d e c k s l:=
 by grind [iE.fQ,dI.fQ,iE.bu,dI.jt]
def iE.dX(h:iE a b e c k s l)(q:o+new.length<=l.length):iE a (aV b s.bu (s.off+o) new) e c k s (kH l o new):=by
 refine⟨by rw[nU];exact h.aT,h.le,?_⟩;rcases h.bt with j|⟨d,f,tail,h1,h2,h3,h4⟩
 .exact bC j
 .refine bR ⟨d,f,tail,h1,h2,?_,by simp only[dH,nU]at h4⊢;exact h4⟩;have g:s.bu=d:=by rw[h1];rfl
  have i:s.off=0:=by rw[h1];rfl
  rw[g,i,eV];have:=dF.aV (m:=b) (o:=o) (r:=new) h3;have n:kH (l++tail) o new=kH l o new++tail:=by
   have p:(kH l o new).length=l.length:=nU _ _ _;apply fq;grind [Nat.lt_or_ge,List.length,kH,List.getElem?_append_left,KL,List.length_append,List.getElem?_append_right]
  grind
def iE.ry(h:iE a b e c k s l)(q:n<=s.len):iE a b e c k (s.cut 0 n c) (l.take (n*c)):=by
 have j:=h.le;have p:=h.aT;rcases h.bt with i|⟨f,g,tail,h1,h2,h3,h4⟩
 .have d:n=0:=V;cases s with
  |nil=>exact⟨by simp[d,E.cut],by simp[E.cut],bC O⟩
  |DG f o sp=>exact⟨by simp[d,E.cut],by simp[E.cut],bC O⟩
  |mk f o r m=>simp at i;subst i;exact⟨by simp[d,E.cut],by simp[d,E.cut],bC (by simp[E.cut])⟩
 .rw[h1];have d:s.len<=g:=by rw[h1]at j;exact j
  refine⟨?_,by simp[E.cut];omega,bR ⟨f,g,l.drop (n*c)++tail,?_,h2,?_,?_⟩⟩
  .grind [E.cut,E.ku,List.length_take,E.len,Nat.mul_le_mul_right]
  .simp[E.cut]
  .grind [List.append_assoc,List.take_append_drop]
  grind [List.append_assoc,List.take_append_drop]
end
def iE.fw{a:ag}{m:bh}{e l:Nat}{f:ae}{u:Nat}{s x:E}{n:ae}{K:E->bh->Prop}(i:iE a m e f.length l s n)(t:∀c,m.size<=c->a c=0)
 (k:new.length=x.len*f.length)(B:jF m x.bu x.off new)(j:(s.len+x.len)*u<=140737488355328)
 (q:∀g h d,iE g d e f.length l h (n++new)->dI (λy=>y=l) a m g d->K h d):mj m e f u s x K:=by
 have G:=i.le
 refine⟨new,k,B,λD=>?_,λF=>⟨j,n,i.aT,i.kY,λh v=>?_⟩⟩
 .rcases i.bt with C|⟨c,h,tail,h1,h2,h3,h4⟩
  .have w:x.len=0:=V
   have A:new=[]:=cp.1 (by rw[k,w];simp)
   subst A
   refine⟨λy z=>by simp at z,?_⟩
   have p:=q a s _ (by rw[fO];exact i) (dI.cT _ t)
   cases s with
   |nil=>exact p
   |DG c o sp=>exact p
   |mk c o H h=>simp only[w,uh];exact p
  .have w:=i.aT
   have A:s.cap=h:=by rw[h1];rfl
   rw[h1]
   simp only[E.lT,E.vL,E.ku,eV]
   simp only[dH]at h4
   have z:new.length<=tail.length:=by
    have y:(s.len+x.len)*f.length<=h*f.length:=fD _ V;rw[oB]at y;omega
   refine⟨h3.jb (by simp only[dH];omega),?_⟩
   have p:=dF.aV (m:=m) (b:=c) (e:=e) (r:=new) (o:=s.len*f.length) h3
   rw[<-w,Gi n new tail z]at p
   refine q a _ _ ⟨?_,?_,bR ⟨c,h,tail.drop new.length,O,h2,?_,?_⟩⟩ (dI.aV t h2 _ _)
   .simp only[dH,E.ku,oB];omega
   .simp only[E.ku,E.SN];omega
   .rw[<-w];exact p
   .simp only[dH,List.length_drop];omega
 .refine q (λc=>if c=m.size then l else a c) _ _ ⟨?_,?_,bR ⟨m.size,h,na f (h -(s.len+x.len)),O,bO,dF.push _ _ _,?_⟩⟩ ⟨bO,λc j=>aW V,λc j=>?_,λc j _=>by rw[uG,aW V]⟩
  .simp only[dH,E.ku,oB,i.aT,k]
  .simpa using v
  .simp only[dH,vu,i.aT,k]
   rw[Nat.sub_mul,<-oB]
   have:(s.len+x.len)*f.length<=h*f.length:=fD _ v
   omega
  .simp at j;rw[aW V];exact t c V
def iE.jA{a:ag}{j m:bh}{e f k:Nat}{s:E}{l:ae}(h:jw j m e f s l)(g:s≠.nil->a s.bu=k):iE a m e f k s l:=by
 refine⟨h.aT,?_,?_⟩
 .rcases h.bt with b|⟨c,d,tail,b,h2,h3,h4,h5⟩
  .rw[b];exact bY
  .rw[b];exact h5
 .rcases h.bt with b|⟨c,d,tail,b,h2,h3,h4,h5⟩
  .rw[b];exact bC O
  .refine bR ⟨c,d,tail,b,?_,h3,h4⟩;have:=g cB;rw[b]at this;exact this
def iE.oL{a:ag}{m:bh}{k:Nat}{s:E}{l:ab}(h:iE a m bB 1 k s (l.map Ce.i))(g:l.length<=9223372036854775807):be m s l:=by
 have e:s.len=l.length:=by have:=h.aT;simp at this;omega
 refine⟨e,h.le,V,λj x d=>⟨[.i x],O,λi f b=>?_⟩⟩;have c:i=0:=by have:=br b;simp at this;omega
 subst c;simp at b;subst b;have:=h.kY j (.i x) (by simp[d]);simpa using this
theorem Ao(l:ab)(i:Nat)(v:Int):kH (l.map Ce.i) i [.i v]=(l.set i v).map Ce.i:=by simp[kH,Nn]
theorem iE.gX{a:ag}{m:bh}{k:Nat}{s:E}{l:ab}(h:iE a m bB 1 k s (l.map Ce.i))(b:0<=i)(c:i<l.length)(v:Int):iE a (aV m s.bu (s.off+i.toNat*1) [.i v]) bB 1 k s ((Go.Proofs.YtbbbdejieenniaaGreat.gX l i v).map Ce.i):=by
 have:=h.dX (o:=i.toNat) (new:=[.i v]) cB;rw[Ao]at this;rw[nu];exact this
theorem iE.SA{a:ag}{m:bh}{k:Nat}{s:E}{l:ab}(h:iE a m bB 1 k s (l.map Ce.i))(b:0<=i)(c:i<l.length):jb m s.bu (s.off+i.toNat*1) 1:=by
 rw[nu];exact h.wr cB
def FB(m:bh)(f:E)(l:ab):Prop:=∃c tail,f=.mk f.bu 0 f.len c/\dF m f.bu bB (l.map Ce.i++tail)
def FN(N:Nat)(a:ag)(m:bh)(f:E)(l:ab):Prop:=l≠[]->a f.bu=0/\N<=f.bu/\FB m f l
def Ck(N:Nat)(a:ag)(m:bh)(b:ae)(c:dt):Prop:=∃f,b=[.i c.bS,.i c.jx,.s f]/\be m f c.bJ/\FN N a m f c.bJ
def Sep(e:List ae):Prop:=∀(i j:Nat)(c d:ae)(a b:E),e[i]? =some c->e[j]? =some d->c[2]? =some (.s a)->d[2]? =some (.s b)->i≠j->a.len≠0->b.len≠0->a.bu≠b.bu
def Sep.gN:Sep []:=λi j c d a b h=>by simp at h
def gB(N:Nat)(a:ag)(m:bh)(h:E)(c:ah):Prop:=∃b,iE a m wQ 3 3 h b.flatten/\iy 3 (Ck N a m) b c/\Sep b
def Yb(a:ag)(m:bh)(i:Nat)(b:ae)(f:bW):Prop:=
 ∃r o h,b=[.i f.fP,.i f.pc,.i f.bH,.s r,.s o,.s h]/\iE a m bB 1 (10+3*i) r (f.aU.map Ce.i)/\iE a m bB 1 (11+3*i) o (f.bI.map Ce.i)/\iE a m bB 1 (12+3*i) h (f.cC.map Ce.i)
@[grind cases] structure acL (ro:ag) (m:bh) (fr:E) (fs:an) (css:List ae):Prop where
 qB:iE ro m iu 6 4 fr css.flatten
 aT:css.length=fs.length
 aQ:∀cs∈css,cs.length=6
 eR:∀(i:Nat)(cs:ae)(f:bW),css[i]? =some cs->fs[i]? =some f->Yb ro m i cs f
def rP(a:ag)(m:bh)(q:E)(c:an):Prop:=∃b,acL a m q c b
theorem km{m d:bh}{l:ab}(h:be m f l)(j:l≠[]->d[f.bu]? =m[f.bu]?):be d f l:=by
 by_cases a:l=[]
 .subst a;exact⟨h.aT,h.ms,h.kM,bO⟩
 .exact⟨h.aT,h.ms,h.kM,λo x n=>let⟨b,e,g⟩:=h.kY o x n;⟨b,e,λi c k=>by rw[bE (j a)];exact g i c k⟩⟩
theorem lx{m:bh}{l:ab}(h:be m f l)(a:l≠[]):f.bu<m.size:=by
 cases l with
 |nil=>exact absurd O a
 |cons b l=>exact rT (h.bt (k:=0) (x:=b) O)
def Ck.fN{N:Nat}{a g:ag}{m d:bh}(e:dI p a m g d)(o:¬p 0)(i:ae)(h:dt):Ck N a m i h->Ck N g d i h:=λ⟨f,q,c,k⟩=>
 ⟨f,q,km c λb=>e.fQ _ (lx c b) (by rw[(k b).1];exact o),λb=>by
  let⟨g1,g2,l,tail,n,j⟩:=k b;exact⟨by rw[e.jt _ (lx c b)];exact g1,g2,l,tail,n,j.congr (e.fQ _ j.lt cB)⟩⟩
theorem gB.fN{N:Nat}{p:Nat->Prop}{a g:ag}{m d:bh}{h:E}{b:ah}(n:gB N a m h b)(c:dI p a m g d)(f:¬p 0)(k:¬p 3):gB N g d h b:=by
 let⟨e,i,j,l⟩:=n;exact⟨e,i.fN c k,j.aP (Ck.fN c f),l⟩
theorem Yb.fN{p:Nat->Prop}{a g:ag}{m d:bh}(b:dI p a m g d){i:Nat}(h:∀k,10+3*i<=k->k<=12+3*i->¬p k){c:ae}{f:bW}:Yb a m i c f->Yb g d i c f:=λ⟨r,o,e,j,k,l,n⟩=>
 ⟨r,o,e,j,k.fN b (h _ V V),l.fN b (h _ V V),n.fN b (h _ V V)⟩
def rP.fN{p:Nat->Prop}{a g:ag}{m d:bh}{q:E}{c:an}(r:rP a m q c)(e:dI p a m g d)(h:∀k,(k=4\/10<=k)->¬p k):rP g d q c:=by
 let⟨l,b⟩:=r;exact⟨l,b.qB.fN e (h 4 V),b.aT,b.aQ,λi j f n o=>(b.eR i j f n o).fN e λk s _=>h k V⟩
@[grind cases] structure wR (m0:bh) (ro:ag) (m:bh) (mb e:Nat) (bx:ae) (cw hp fr:E) (lo:ab) (lh:ah) (lf:an):Prop where
 cV:D m0 m
 mq:∀b,b<m0.size->ro b=0
 bF:∀b,m.size<=b->ro b=0
 bV:dF m mb e bx
 YH:ro mb=1
 cw:iE ro m bB 1 2 cw (lo.map Ce.i)
 aR:gB m0.size ro m hp lh
 bq:rP ro m fr lf
variable{j:bh}{a g:ag}{m d:bh}{t e:Nat}{u:ae}{cw h q:E}{y:ab}{w:ah}{v:an}
def wR.ext(L:wR j a m t e u cw h q y w v)(c:D m d):wR j a d t e u cw h q y w v/\To a m a d:=by
 have b:∀p,dI p a m a d:=λp=>dI.fB (p:=p) c L.bF;exact⟨⟨L.cV.J c,L.mq,(b (λ_=>False)).bF,L.bV.ext c,L.YH,L.cw.fN (b (λ_=>False)) id,L.aR.fN (b (λ_=>False)) id id,L.bq.fN (b (λ_=>False)) λ_ _=>id⟩,b _⟩
def wR.lW(L:wR j a m t e u cw h q y w v)(i:Nat)(b:ae):wR j a (aV m t i b) t e (kH u i b) cw h q y w v/\To a m a (aV m t i b):=by
 have c:dI (λk=>k=1) a m a (aV m t i b):=dI.aV L.bF L.YH _ _;have d:To a m a (aV m t i b):=by grind [dI.aP]
 let⟨b1,b2⟩:=d.cV L.cV L.mq;exact⟨⟨b1,b2,c.bF,dF.aV (m:=m) L.bV,L.YH,L.cw.fN c cD,L.aR.fN c cD cD,L.bq.fN c λk f=>V⟩,d⟩
def wR.pQ(L:wR j a m t e u cw h q y w v){i:Nat}(b:i+n<=u.length):jb m t i n:=L.bV.jb b
def wR.jS(L:wR j a m t e u cw h q y w v)(b:dI (λk=>k=3\/k=5\/k=6) a m g d){c:E}{i:ah}(l:gB j.size g d c i):wR j g d t e u cw c q y i v/\To a m g d:=by
 have f:To a m g d:=b.aP λk n=>V;let⟨b1,b2⟩:=f.cV L.cV L.mq;exact⟨⟨b1,b2,b.bF,L.bV.congr (b.fQ _ L.bV.lt cB),by rw[b.jt _ L.bV.lt];exact L.YH,L.cw.fN b cD,l,L.bq.fN b λk n=>V⟩,f⟩
def wR.QB(L:wR j a m t e u cw h q y w v)(b:dI (λk=>k=2) a m g d){i:E}{f:ab}(l:iE g d bB 1 2 i (f.map Ce.i)):wR j g d t e u i h q f w v/\To a m g d:=by
 have c:To a m g d:=by grind [dI.aP]
 let⟨b1,b2⟩:=c.cV L.cV L.mq;exact⟨⟨b1,b2,b.bF,L.bV.congr (b.fQ _ L.bV.lt cB),by rw[b.jt _ L.bV.lt];exact L.YH,l,L.aR.fN b cD cD,L.bq.fN b λk n=>V⟩,c⟩
def wR.mE(L:wR j a m t e u cw h q y w v)(b:dI (λk=>4<=k/\k≠9) a m g d){c:E}{i:an}(k:rP g d c i):wR j g d t e u cw h c y w i/\To a m g d:=by
 have f:To a m g d:=by grind [dI.aP]
 let⟨b1,b2⟩:=f.cV L.cV L.mq;exact⟨⟨b1,b2,b.bF,L.bV.congr (b.fQ _ L.bV.lt cB),by rw[b.jt _ L.bV.lt];exact L.YH,L.cw.fN b cD,L.aR.fN b cD cD,k⟩,f⟩
end
section
variable{k:Nat}
def up{α:Type}(f:Nat->α)(k:Nat)(x:α):Nat->α:=λj=>if j=k then x else f j
@[simp] theorem Pb {α:Type} (f:Nat->α) (k:Nat) (x:α):up f k x k=x:=bn O
theorem XT{α:Type}{f:Nat->α}{x:α}{j:Nat}(h:j≠k):up f k x j=f j:=aW h
def U9(a:Nat->E):ae:=[.s (a 0),.s (a 1),.s (a 2),.s (a 3),.s (a 4),.s (a 5),.s (a 6)]
def YJ(a:Nat->E)(b:k<7):(U9 a)[k]? =some (.s (a k)):=by
 rcases k with _|_|_|_|_|_|_|k<;>first|rfl|omega
def Sx(a:Nat->E)(b:k<7)(r:E):kH (U9 a) k [.s r]=U9 (up a k r):=by
 rcases k with _|_|_|_|_|_|_|k<;>first|rfl|omega
@[grind cases] structure jZ (ro:ag) (m:bh) (lb:Nat) (sl:Nat->E) (L:Nat->ab):Prop where
 bF:∀b,m.size<=b->ro b=0
 jt:ro lb=8
 bV:dF m lb FQ (U9 sl)
 qB:∀k,k<7->iE ro m bB 1 (k+1) (sl k) ((L k).map Ce.i)
section
variable{d h:ag}{a f:bh}{c:Nat}{b:Nat->E}{L:Nat->ab}
def jZ.dx(h:jZ d a c b L){k:Nat}(e:k<7):aS a c k=some (E.v (b k)):=by
 rw[h.bV.dx,YJ b e];rfl
def jZ.oL(h:jZ d a c b L){k:Nat}(e:k<7)(f:(L k).length<=10^12):be a (b k) (L k):=(h.qB k e).oL V
def jZ.aT(h:jZ d a c b L){k:Nat}(e:k<7):(b k).len=(L k).length:=by grind [jZ.qB,iE.aT]
def jZ.to(h:jZ d a c b L):To d a d a:=dI.cT _ h.bF
def jZ.ext(h:jZ d a c b L)(e:D a f):jZ d f c b L:=
 by constructor<;>grind [jZ.bF,D.aQ,jZ.jt,jZ.bV,dF.congr,D.bG,dF.lt,jZ.qB,iE.fQ,iE.bu]
def jZ.nE(p:jZ d a c b L)(s:k<7)(C:(L k).length<=10^12)(j:Int){K:E->bh->Prop}
 (B:∀h r f,To d a h (aV f c k [.s r])->jZ h (aV f c k [.s r]) c (up b k r) (up L k (L k++[j]))->K r f):
 mj (a.push (.cells (db [.i j]) bB)) bB [.i 0] 8 (b k) (.mk a.size 0 1 1) λr f=>jb f c k 1/\K r f:=by
 have z:=D.push a (.cells (db [.i j]) bB)
 have g:=p.ext z
 have F:=p.aT s
 refine iE.fw (f:=[.i 0]) (new:=[.i j]) (g.qB k s) g.bF bO ((dF.push a (e:=bB) (l:=[.i j])).kY) (by simp only[E.ku];omega) λh r f v n=>?_
 have x:dF f c FQ (U9 b):=g.bV.congr (n.fQ c g.bV.lt (by simp only[g.jt];omega))
 have o:h c=8:=by rw[n.jt c g.bV.lt,g.jt]
 have A:To d a h f:=(dI.fB z p.bF).J (n.aP λt y=>V)
 have u:To d a h (aV f c k [.s r]):=A.J (dI.aV n.bF (by simp only[o];omega) _ _)
 refine⟨x.jb (by show k+1<=7;omega),B h r f u ⟨u.bF,o,Sx b s r▸dF.aV (m:=f) x,λt y=>?_⟩⟩
 by_cases i:t=k
 .subst i
  rw[Pb,Pb,lH]
  refine v.fQ (λq=>cq _ _ _ _ λi=>?_) λ_=>O
  have:=(v.bu q).2
  rw[i,o]at this;omega
 .rw[XT i,XT i]
  have w:=(g.qB t y).fN n V
  refine w.fQ (λq=>cq _ _ _ _ λi=>?_) λ_=>O
  have:=(w.bu q).2
  rw[i,o]at this;omega
def jZ.cG(h:jZ d a c b L){i:Nat}(l:k<7)(q:i<(L k).length)(x:Int):
 jb a (b k).bu ((b k).off+i*1) 1/\jZ d (aV a (b k).bu ((b k).off+i*1) [.i x]) c b (up L k ((L k).set i x))/\To d a d (aV a (b k).bu ((b k).off+i*1) [.i x]):=by
 have g:=h.qB k l
 have s:(L k).map Ce.i≠[]:=cB
 have j:(b k).cap≠0:=by grind [iE.zS]
 let⟨p,m⟩:=g.bu j
 have f:To d a d (aV a (b k).bu ((b k).off+i*1) [.i x]):=by grind [dI.aV,jZ.bF]
 refine⟨g.wr cB,⟨f.bF,h.jt,h.bV.congr (cq _ _ _ _ λe=>by have:=h.jt;rw[e,m]at this;omega),λn r=>?_⟩,f⟩
 by_cases e:n=k
 .subst e
  rw[Pb]
  have:=g.dX (o:=i*1) (new:=[.i x]) cB
  grind [Ao]
 .grind [XT,jZ.qB,iE.fQ,cq,iE.bu]
theorem jZ.ac9(h:jZ d a c b L)(f:k<7){r:E}{l:ab}(g:iE d a bB 1 (k+1) r (l.map Ce.i)):
 jb a c k 1/\jZ d (aV a c k [.s r]) c (up b k r) (up L k l)/\To d a d (aV a c k [.s r]):=by
 have e:To d a d (aV a c k [.s r]):=by grind [dI.aV,jZ.bF,jZ.jt]
 refine⟨h.bV.jb (by show k+1<=7;omega),⟨e.bF,h.jt,Sx b f r▸dF.aV (m:=a) h.bV,λn j=>?_⟩,e⟩
 have K:∀{i s l},iE d a bB 1 (i+1) s l->i<7->iE d (aV a c k [.s r]) bB 1 (i+1) s l:=λ{i s l} g' hk'=>by
  grind [iE.fQ,cq,iE.bu,jZ.jt]
 grind [Pb,XT,jZ.qB]
def jZ.ry(h:jZ d a c b L){k n:Nat}(e:k<7)(l:n<=(L k).length):
 n<=(b k).cap/\jb a c k 1/\jZ d (aV a c k [.s ((b k).cut 0 n 1)]) c (up b k ((b k).cut 0 n 1)) (up L k ((L k).take n))/\To d a d (aV a c k [.s ((b k).cut 0 n 1)]):=by
 have g:=h.qB k e
 have i:=h.aT e
 have j:=g.le
 have f:=g.ry (n:=n) V
 grind [List.map_take,jZ.ac9]
end
@[grind cases] structure lX (ds:af) (n b:Nat) (L:Nat->ab):Prop where
 aT:∀k,k<6->(L k).length=n
 YS:∀(v:Nat)(p:Int),(L 2)[v]? =some p->p<v
 lF:∀(v:Nat)(c f:Int),(L 3)[v]? =some c->(L 4)[v]? =some f->0<=c->0<=f/\f+((cW ds c).length:Int)<=b
 df:(L 6).length<=10^12
abbrev wq(a:af)(n:Nat)(L:Nat->ab):Prop:=lX a n n L
def PR(L:Nat->ab)(t o p:Int):Nat->ab:=up (up (up (up (up (up L 0 (L 0++[t])) 1 (L 1++[o])) 2 (L 2++[p])) 3 (L 3++[-1])) 4 (L 4++[-1])) 5 (L 5++[-1])
def E8{j:ag}{m:bh}{b:Nat}{x:Nat->E}{L:Nat->ab}(h:jZ j m b x L)(a:∀k,k<6->(L k).length<=10^12)(t o p:Int):
 bK dO 271 [vp b 0,vi t,vi o,vi p] m λ_ i=>∃l y,To j m l i/\jZ l i b y (PR L t o p):=by
 apply BN (b,0)
 simp -zeta only[eV]
 refine⟨_,h.dx (k:=0) cD,?_⟩
 intro z
 refine h.nE (k:=0) cD (a 0 cD) t λN T G n c=>⟨_,c.dx (k:=1) cD,?_⟩
 intro A
 refine c.nE (k:=1) cD (a 1 cD) o λO U H q d=>⟨_,d.dx (k:=2) cD,?_⟩
 intro B
 refine d.nE (k:=2) cD (a 2 cD) p λP V I r e=>⟨_,e.dx (k:=3) cD,?_⟩
 intro C
 refine e.nE (k:=3) cD (a 3 cD) (-1) λQ W J s f=>⟨_,f.dx (k:=4) cD,?_⟩
 intro D
 refine f.nE (k:=4) cD (a 4 cD) (-1) λR X K u g=>⟨_,g.dx (k:=5) cD,?_⟩
 intro F
 exact g.nE (k:=5) cD (a 5 cD) (-1) λS Y M v w=>⟨_,_,((((n.J q).J r).J s).J u).J v,w⟩
end
section
variable{l:ab}{j:ag}{g:bh}{P:(Nat->ab)->Prop}{b:Nat}{v:Int}
def GI.cw{S:ad}{h m:bh}{s:E}(j:GI S h m s l):jw h m bB 1 s (l.map Ce.i):=by
 let⟨p,b,k,a⟩:=j;have t:b.flatten.length=l.length:=by rw[dS a.aQ,a.aT];omega
 have n:b.flatten=l.map Ce.i:=by
  apply fq;intro d;rcases dJ d l.length with g|g
  .let⟨x,o⟩:=gD g;let⟨e,f⟩:=dU b d cB;have q:e=[.i x]:=a.eR d e x f o;have r:=js (f:=1) a.aQ f (i:=0) (c:=.i x) cB;grind
  .grind [List.getElem?_eq_none]
 rw[<-n];exact k
def Gs(e:ag)(m:bh)(d:Nat)(P:(Nat->ab)->Prop)(v:Value)(g:bh):Prop:=∃(b:Bool)(j:ag),v=vb b/\To e m j g/\(b=true->∃c a,jZ j g d c a/\P a)
def Gs.no{e:ag}{m:bh}{d:Nat}(h:To e m j g):Gs e m d P (vb false) g:=⟨false,j,O,h,bO⟩
def Gs.TY{e:ag}{m:bh}{d:Nat}{h:Nat->E}{L:Nat->ab}(a:To e m j g)(b:jZ j g d h L)(c:P L):Gs e m d P (vb true) g:=⟨true,j,O,a,λ_=>⟨h,L,b,c⟩⟩
def Gs.aP{e:ag}{m:bh}{d:Nat}{Q:(Nat->ab)->Prop}{v:Value}(a:Gs e m d P v g)(o:∀L,P L->Q L):Gs e m d Q v g:=let⟨b,j,c,f,i⟩:=a;⟨b,j,c,f,λn=>let⟨h,L,k,l⟩:=i n;⟨h,L,k,o L l⟩⟩
theorem lX.bI{f:af}{a:Nat}{L:Nat->ab}(h:lX f a b L)(c:l.length=a):lX f a b (up L 1 l):=
 by constructor<;>grind [up,lX.aT,lX.YS,lX.lF,lX.df]
def lX.tok{f:af}{a:Nat}{L:Nat->ab}(h:lX f a b L)(c:l.length=a):lX f a b (up L 5 l):=
 by constructor<;>grind [up,lX.aT,lX.YS,lX.lF,lX.df]
def PO{a x:Int}{v:Nat}(h:(l++[a])[v]? =some x):l[v]? =some x\/v=l.length/\x=a:=by
 grind [Nat.lt_or_ge,List.length,List.getElem?_append_left,List.getElem?_append_right,br]
def lX.Ih{f:af}{a c:Nat}{L:Nat->ab}(h:lX f a b L)(d:b<=c):lX f a c L:=
 by constructor<;>grind [lX.aT,lX.YS,lX.lF,lX.df]
def lX.Wn{f:af}{a:Nat}{L:Nat->ab}(h:lX f a b L)(t r:Int){p:Int}(w:p<a):lX f (a+1) b (PR L t r p):=by
 have g:=h.aT;refine⟨λk u=>?_,λv q o=>?_,λv d e j m s=>?_,by simpa[PR,up]using h.df⟩
 .rcases k with _|_|_|_|_|_|k<;>first|omega|(simp[PR,up,g])
 .have i:(L 2++[p])[v]? =some q:=by simpa[PR,up]using o
  rcases PO i with c|⟨rfl,rfl⟩
  .exact h.YS v q c
  grind
 .have l:(L 3++[-1])[v]? =some d:=by simpa[PR,up]using j
  have n:(L 4++[-1])[v]? =some e:=by simpa[PR,up]using m
  rcases PO l with c|⟨rfl,rfl⟩
  .rcases PO n with i|⟨i,rfl⟩
   .grind [lX.lF]
   grind [br]
  .omega
variable{e:ag}{m:bh}{d:Nat}{h:Nat->E}{L:Nat->ab}{f:af}{a:Nat}
theorem jZ.bt(a:jZ e m d h L){k:Nat}(c:k<7)(f:(L k).length<=10^12){i:Nat}{x:Int}(b:(L k)[i]? =some x):aS m (h k).bu ((h k).off+i*1)=some (vi x):=(a.oL c f).bt b
def yY(b:jZ e m d h L)(q:wq f a L)(u:a<=10^12)(c:0<=v)(s:v<a):bK dO 272 [vp d 0,vi v] m (Gs e m d λg=>∃l:ab,l.length=a/\g=up L 1 l):=by
 apply BQ (d,0);simp -zeta only[eV];have o:=q.aT 1 cD;have t:=b.aT (k:=1) cD;let⟨x,r⟩:=dU (L 1) v.toNat;have j:=b.bt cD V r;have g:=b.dx (k:=1) cD;let⟨w,p,n⟩:=b.cG (k:=1) (i:=v.toNat) cD V (eI (x -1));exact⟨_,g,c,V,x,j,λ_=>.no b.to,λ_=>⟨_,g,_,g,c,V,x,j,c,V,w,.TY n p ⟨_,by simp[o],O⟩⟩⟩
def wJ(q:jZ e m d h L)(j:wq f a L)(t:a<=10^12)(i:0<=v)(o:v<a):sS 226 [vp d 0,vi v] m:=by
 apply AA (d,0);refine⟨λv g=>0<=v/\v<(a:Int)/\D m g,λv _=>v.toNat,⟨i,o,cY⟩,?_⟩;rintro v A ⟨i,o,c⟩;have H:=q.ext c;have w:=H.aT (k:=1) cD;have z:=H.aT (k:=2) cD;have C:=j.aT 1 cD;have E:=j.aT 2 cD;let⟨x,s⟩:=dU (L 1) v.toNat;let⟨y,p⟩:=dU (L 2) v.toNat;have u:=j.YS _ _ p;refine⟨_,H.dx (k:=1) cD,i,V,x,H.bt cD V s,λ_=>⟨_,H.dx (k:=6) cD,?_⟩,λ_=>rA c⟩;refine(fH (H.oL cD j.df) v).cg λb B _ l=>⟨_,O,λ_=>?_,λ_=>rA (c.J l)⟩;have n:=H.ext l;refine⟨_,n.dx (k:=2) cD,i,V,y,n.bt cD V p,λ_=>rA (c.J l),λr=>?_⟩;simp only[dk]at r;exact⟨⟨V,V,c.J l⟩,by show y.toNat<v.toNat;omega⟩
def QI(i:jZ e m d h L)(u:wq f a L)(S:a<=10^12){b:Nat}(H:b<=a):bK dO 345 [vp d 0,vi b] m (Gs e m d λc=>(∀j,j<6->(c j).length=b)/\(c 6).length<=10^12):=by
 apply Dn (d,0);simp -zeta only[eV];refine⟨λv g=>(b:Int)<=v/\v<=a/\g=m,λv _=>((a:Int) -v).toNat,⟨V,V,O⟩,?_⟩;rintro v X ⟨Q,p,rfl⟩;have o:=λj(G:j<6)=>i.aT (k:=j) V;have c:=u.aT;have T:=o 0 cD;have U:=o 1 cD;have W:=o 5 cD;have n0:=c 0 cD;have n1:=c 1 cD;have n5:=c 5 cD;refine⟨_,i.dx cD,λw=>?_,λw=>?_⟩
 .simp only[bg]at w;let⟨x,q⟩:=dU (L 1) v.toNat;let⟨y,r⟩:=dU (L 5) v.toNat;refine⟨_,i.dx cD,V,V,x,i.bt cD V q,λ_=>.no i.to,λ_=>⟨_,i.dx cD,V,V,y,i.bt cD V r,λ_=>.no i.to,λ_=>?_⟩⟩;rw[iz];exact⟨⟨V,V,O⟩,by show((a:Int) -(v+1)).toNat<((a:Int) -v).toNat;omega⟩
 .have tk:∀{l:ab},l.length=a->(l.take b).length=b:=λR=>eX;have D:Int.toNat 0=0:=rfl;have E:Int.toNat (b:Int)=b:=V;rw[D,E];let⟨p1,I,p,x⟩:=i.ry cD (((c 0 cD)▸H));refine⟨_,i.dx cD,V,V,V,I,?_⟩;intro Y;let⟨p2,J,q,y⟩:=p.ry (k:=1) (n:=b) cD (by simp[up,c];omega);refine⟨_,p.dx cD,V,V,V,J,?_⟩;intro Z;let⟨p3,K,r,z⟩:=q.ry (k:=2) (n:=b) cD (by simp[up,c];omega);refine⟨_,q.dx cD,V,V,V,K,?_⟩;intro m4;let⟨p4,M,s,A⟩:=r.ry (k:=3) (n:=b) cD (by simp[up,c];omega);refine⟨_,r.dx cD,V,V,V,M,?_⟩;intro m5;let⟨p5,N,t,B⟩:=s.ry (k:=4) (n:=b) cD (by simp[up,c];omega);refine⟨_,s.dx cD,V,V,V,N,?_⟩;intro m6;let⟨p6,P,F,C⟩:=t.ry (k:=5) (n:=b) cD (by simp[up,c];omega);refine⟨_,t.dx cD,V,V,V,P,?_⟩;intro m7;refine Gs.TY (((((x.J y).J z).J A).J B).J C) F ⟨λj G=>?_,?_⟩
  .rcases j with _|_|_|_|_|_|j<;>first|omega|(simp[up,c];omega)
  .simpa[up]using u.df
end
section
variable{a:ag}{m d c:bh}{X:ad}
def adv(m:bh)(P:(Nat->ab)->Prop)(v:Value)(c:bh):Prop:=∃d,v=vp d 0/\D m c/\∃a e L,(∀b,b<m.size->a b=0)/\jZ a c d e L/\P L
def RC{t:Nat}{sl:Nat->E}{L:Nat->ab}(h:jZ a m t sl L)(S:∀b,b<7->(L b).length<=10^12):
 bK dO 332 [vp t 0] m (adv m λc=>∀b,b<7->c b=L b):=by
 apply zC (t,0)
 simp -zeta only[eV]
 refine⟨_,h.dx (k:=0) cD,_,h.dx (k:=1) cD,_,h.dx (k:=2) cD,_,h.dx (k:=3) cD,_,h.dx (k:=4) cD,_,h.dx (k:=5) cD,_,h.dx (k:=6) cD,?_⟩
 have C:∀{M:bh}(b:Nat),b<7->D m M->oA 55 [E.v (sl b)] M [] (L b=·):=λb w x=>dB [] ((h.ext x).oL w (S b w)) (S b w)
 have c:∀{M I:bh},D m M->D M I->∀y,aS I t y=aS M t y:=λx x' y=>bE (x'.bG t (x.lt h.bV.lt)) y
 have r:=D.cT m
 refine(C 0 cD r).cg λU _ m1 J e d=>⟨_,O,c r d _,c r d _,c r d _,c r d _,c r d _,c r d _,?_⟩
 subst e
 refine(C 1 cD d).cg λW _ m2 g1 e i=>⟨_,O,c d i _,c d i _,c d i _,c d i _,c d i _,?_⟩
 subst e
 have u:=d.J i
 refine(C 2 cD u).cg λX _ m3 g2 e j=>⟨_,O,c u j _,c u j _,c u j _,c u j _,?_⟩
 subst e
 have v:=u.J j
 refine(C 3 cD v).cg λY _ m4 K e l=>⟨_,O,c v l _,c v l _,c v l _,?_⟩
 subst e
 have z:=v.J l
 refine(C 4 cD z).cg λZ _ m5 N e n=>⟨_,O,c z n _,c z n _,?_⟩
 subst e
 have H:=z.J n
 refine(C 5 cD H).cg λs5 _ m6 P e o=>⟨_,O,c H o _,?_⟩
 subst e
 have u6:=H.J o
 refine(C 6 cD u6).cg λs6 _ B Q e p=>⟨_,O,?_⟩
 subst e
 intro F
 obtain⟨q,s8⟩:=pu F
 have z1:=d.aQ;have z2:=i.aQ;have z3:=j.aQ;have z4:=l.aQ;have z5:=n.aQ;have z6:=o.aQ;have z7:=p.aQ
 have y0:=J.cJ;have y1:=g1.cJ;have y2:=g2.cJ;have y3:=K.cJ;have y4:=N.cJ;have y5:=P.cJ;have y6:=Q.cJ
 let f:Nat->Nat:=λg=>if g<m.size then 0 else if g<m1.size then 1 else if g<m2.size then 2 else if g<m3.size then 3 else if g<m4.size then 4 else if g<m5.size then 5 else if g<m6.size then 6 else if g<B.size then 7 else if g=B.size then 8 else 0
 let ac:Nat->E:=λb=>if b=0 then U else if b=1 then W else if b=2 then X else if b=3 then Y else if b=4 then Z else if b=5 then s5 else s6
 have A:∀{m0 M:bh}{G:E}{T:ab}{b:Nat},GI [] m0 M G T->D M F->f G.bu=b->iE f F bB 1 b G (T.map Ce.i):=λaa x hr=>iE.jA (aa.cw.ext x) λ_=>hr
 refine⟨B.size,O,u6.J (p.J q),f,ac,L,λg R=>bn R,⟨λg R=>?_,?_,dF.push _ _ _,λb w=>?_⟩,λ_ _=>O⟩
 .simp only[f]
  repeat rw[aW V]
 .simp only[f]
  repeat rw[aW V]
  simp
 .rcases b with _|_|_|_|_|_|_|b
  .exact A (G:=U) (b:=1) J (i.J (j.J (l.J (n.J (o.J (p.J q)))))) (by simp only[f];rw[aW V,bn V])
  .exact A (G:=W) (b:=2) g1 (j.J (l.J (n.J (o.J (p.J q))))) (by simp only[f];rw[aW V,aW V,bn V])
  .exact A (G:=X) (b:=3) g2 (l.J (n.J (o.J (p.J q)))) (by simp only[f];rw[aW V,aW V,aW V,bn V])
  .exact A (G:=Y) (b:=4) K (n.J (o.J (p.J q))) (by simp only[f];simp(disch:=omega) only[aW,bn])
  .exact A (G:=Z) (b:=5) N (o.J (p.J q)) (by simp only[f];simp(disch:=omega) only[aW,bn])
  .exact A (G:=s5) (b:=6) P (p.J q) (by simp only[f];simp(disch:=omega) only[aW,bn])
  .exact A (G:=s6) (b:=7) Q q (by simp only[f];simp(disch:=omega) only[aW,bn])
  .omega
@[grind cases] structure Gq (mb:bh) (X:ad) (ro:ag) (m:bh):Prop where
 ext:D mb m
 kv:∀b,b<mb.size->ro b=0
 bV:∀b∈X,b<m.size/\ro b=0
def Gq.to{b:ag}(h:Gq d X a m)(e:To a m b c):Gq d X b c:=by
 constructor<;>grind [dI.cV,Gq.ext,Gq.kv,Gq.bV,dI.aQ,dI.jt]
def Gq.eW{d m c:bh}{X:ad}{a e:ag}(h:Gq d X a m)(b:To a m e c):gS X m c:=b.eW h.bV
def Gq.nj(h:Gq d X a m)(x:D m c):Gq d X a c:=by constructor<;>grind [Gq.ext,D.J,Gq.kv,D.lt,Gq.bV]
def MN{p J aa:E}{q:j7}(r:be m p q.aY)(F:be m J q.df)(ae:q.aY.length<=3)(ad:q.df.length<=3)(v:af):
 bK dO 249 [.agg #[p.v,J.v,vi q.bQ,aa.v,vi q.eY.bQ]] m (adv m (wq v q.aY.length)):=by
 apply Fi
 simp -zeta only[dR]
 intro f
 obtain⟨u,s1⟩:=pu f
 have W:∀b∈[m.size],b<f.size:=by simp[f]
 refine(dB [] (F.ext u) V).bL (D.cT f) W λs6 _ j C o K _=>⟨_,O,?_⟩
 subst o
 intro I
 obtain⟨P,s3⟩:=pu I
 have z2:=K.aQ
 have y6:=C.cJ
 let l:Nat->Nat:=λb=>if b<f.size then 0 else if b<j.size then 7 else if b=j.size then 8 else 0
 let d:Nat->ab:=λk=>if k<6 then[]else q.df
 let t:Nat->E:=λk=>if k<6 then .nil else s6
 have R:jZ l I j.size t d:=by
  refine⟨λb i=>?_,?_,dF.push _ _ _,λk A=>?_⟩
  .simp only[l];repeat rw[aW V]
  .simp only[l];repeat rw[aW V]
   simp
  .by_cases e:k<6
   .simp only[t,d,bn e];exact⟨bO,bO,bC O⟩
   .have o:k=6:=V;subst o;simp only[t,d,aW e];refine iE.jA (C.cw.ext P) λ_=>?_;simp only[l];rw[aW V,bn V]
 have T:wq v 0 d:=by
  refine⟨λk A=>by simp only[d,bn A];rfl,λe p r=>by simp[d]at r,λe h g w=>by simp[d]at w,by simp[d];omega⟩
 have kv:∀b,b<f.size->l b=0:=λb i=>bn i
 have ag:=r.aT
 refine gP (n:=q.aY.length) V (λk M=>∃a B L,Gq f [m.size] a M/\jZ a M j.size B L/\wq v k L) ⟨l,t,d,⟨K.J P,kv,λb i=>by simp at i;subst i;exact⟨V,kv _ V⟩⟩,R,T⟩ ?_
 rintro k M S μ A ⟨a,B,L,g,H,z⟩ Z
 refine dit (λU=>?_) λU=>?_
 .let⟨y,X⟩:=dU q.aY k
  have N:∀(s:Int){e:bh},D M e->bK dO 271 [vp j.size 0,vi y,vi s,vi (-1:Int)] e λ_ c=>gS [m.size] e c/\S (eI ((k:Int)+1)) c/\μ (eI ((k:Int)+1)) c<μ k M:=λs e x=>
   (E8 (H.ext x) (λY Q=>by rw[z.aT Y Q];omega) y s (-1)).aP λ_ c⟨Y,ac,h,Q⟩=>⟨(g.nj x).eW h,Z V _ ⟨Y,ac,_,(g.nj x).to h,Q,(z.Wn y s V).Ih V⟩⟩
  have G:∀{e:bh},D M e->aS e p.bu (p.off+Int.toNat (k:Int)*1)=some (vi y):=λx=>(r.ext (u.J (g.ext.J x))).bt X
  refine⟨V,V,y,G cY,λ_=>?_,λ_=>⟨V,V,y,G cY,N 0 cY⟩⟩
  refine(fH (F.ext (u.J g.ext)) (k:Int)).cg λb M2 _ x=>⟨λh w=>x.bG h (g.bV h w).1,_,O,λ_=>⟨V,V,y,G x,N 1 x⟩,λ_=>⟨V,V,y,G x,N 0 x⟩⟩
 .have o:k=q.aY.length:=V
  subst o
  exact⟨j.size,O,u.J g.ext,a,B,L,λb i=>g.kv b V,H,z⟩
end
section
def jZ.abn{e:ag}{b f:bh}{g:Nat}{p:Nat->E}{L:Nat->ab}(h:jZ e b g p L)(kv:∀a,a<f.size->e a=0){l j:Nat}(d:l<7)(m:j<(L l).length):f.size<=(p l).bu/\(p l).bu<b.size/\e (p l).bu=l+1:=by
 have a:=h.qB l d;have i:(L l).map Ce.i≠[]:=cB;let⟨k,n⟩:=a.bu λc=>i (a.zS c).1;constructor<;>grind [Nat.le_of_not_lt]
def Gq.Zi{f b c d:bh}{e:ag}{o1 o2:Obj}(h:D f b)(kv:∀a,a<f.size->e a=0)(i:∀a,b.size<=a->e a=0)(a:c=b.push o1)(g:d=c.push o2):Gq f [c.size,b.size] e d:=by
 constructor<;>grind [fU,D.J]
variable{e:ag}{b f:bh}{g:Nat}{p:Nat->E}{L:Nat->ab}{h:af}{q:List j7}{o:Nat}{d r a l:E}{x:eM}{c:Prop}{s:Nat}
def Ve(hx:D f b)(kv:∀v,v<f.size->e v=0)(K:jZ e b g p L)(N:wq h o L)(hn:o<=10^12)(hN:iF f d r h q)(ha:be f a x.aO)(hf:Ya h s c o x)(an:14<=x.op):
 bK dO 273 [vp g 0,.agg #[d.v,r.v],tn x a l] b (Gs e b g (wq h o)):=by
 apply BO (g,0)
 simp -zeta only[dR,eV]
 intro Y Z
 have st:=Gq.Zi (c:=Y) (d:=Z) hx kv K.bF O O
 have x2:D b Z:=(fU (a:=Y) (c:=Z) O O).1
 have T:To e b e Z:=dI.fB x2 K.bF
 have F:=K.ext x2
 have ax:=ha.aT
 have aw:=hf.mM (bC an)
 let⟨B,hy⟩:=dU x.aO 0
 let⟨H,y1⟩:=hf.aO B (aZ hy)
 have S:=N.aT
 have n1:=S 1 cD;have n3:=S 3 cD;have n4:=S 4 cD;have n5:=S 5 cD
 have l3:=F.aT (k:=3) cD;have l5:=F.aT (k:=5) cD
 let⟨C,ae⟩:=dU (L 3) B.toNat
 let⟨w,ag⟩:=dU (L 4) B.toNat
 let⟨tk,ap⟩:=dU (L 5) B.toNat
 refine⟨cD,V,B,(ha.ext st.ext).bt hy,?_⟩
 refine⟨λM=>0<=C/\∃P af t,t.length=o/\To e b P M/\Gq f [Y.size,b.size] P M/\jZ P M g af (up L 1 t),?_,?_⟩
 .refine⟨_,F.dx (k:=3) cD,H,V,C,F.bt cD V ae,λ_=>.no T,λy=>?_⟩
  simp only[dk]at y
  refine⟨λ_=>⟨_,F.dx (k:=5) cD,H,V,tk,F.bt cD V ap,λ_=>.no T,λ_=>?_⟩,λ_=>?_⟩<;>
  .refine(yY F N hn H y1).aP λau m3⟨v,P,ac,I,z⟩=>⟨st.eW I,v,ac,λE=>.no (T.J I),λE=>?_⟩
   obtain⟨af,A,u,t,hl,rfl⟩:=z (sp E)
   exact⟨V,P,af,t,hl,T.J I,st.to I,u⟩
 .rintro m3 ⟨al,aa,G,t,hl,I,Q,z⟩
  have e3:(up L 1 t) 3=L 3:=rfl
  have e5:(up L 1 t) 5=L 5:=rfl
  have e1:(up L 1 t) 1=t:=rfl
  have aq:=z.aT (k:=3) cD
  rw[e3]at aq
  let⟨f0,f1⟩:=N.lF B.toNat C w ae ag al
  refine⟨_,z.dx (k:=3) cD,H,V,C,z.bt cD (by rw[e3];omega) ae,?_⟩
  have A1:=z.abn (f:=f) Q.kv (l:=1) (j:=B.toNat) cD (by rw[e1];omega)
  have A5:=z.abn (f:=f) Q.kv (l:=5) (j:=B.toNat) cD (by rw[e5];omega)
  have hS:∀v∈[(G 1).bu,(G 5).bu],v<m3.size:=λv E=>by simp at E;omega
  have ak:∀{M:bh},D f M->Le f (dA [(G 1).bu,(G 5).bu] M):=λxx=>(Ev (m:=f)).J (xx.dA λv E=>bR (by simp at E;omega))
  refine(fV (hN.bT.le (ak Q.ext)) hN.dm C).aP λau m4⟨aj,fl,ac,hs,am,x4⟩=>⟨λv E=>x4.bG v (Q.bV v E).1,aj,ac,?_⟩
  subst am
  have c4:To e b aa m4:=I.J (dI.fB x4 z.bF)
  have az:=hs.aT
  have f3:=Kb hN.dm C
  refine gP (n:=(cW h C).length) V (λA M=>∃t,t.length=o/\To e b aa M/\Gq f [Y.size,b.size] aa M/\jZ aa M g G (up L 1 t)/\Fz [(G 1).bu,(G 5).bu] m4 M) ⟨t,hl,c4,(Q.nj x4),(z.ext x4),nP⟩ ?_
  rintro A M av μ ay ⟨y,X,U,ab,u,ad⟩ ai
  have ao:=hs.le (ad.fj λ_ K=>K)
  refine⟨λah=>?_,λah=>?_⟩
  .simp only[bg]at ah
   let⟨ar,hz⟩:=dU (cW h C) A
   refine⟨V,V,ar,(ao.le fL).bt hz,λ_=>?_,λ_=>ai V _ ⟨y,X,U,ab,u,ad⟩⟩
   have E3:(up L 1 y) 4=L 4:=rfl
   have E1:(up L 1 y) 1=y:=rfl
   have G1:=u.dx (k:=1) cD
   have G4:=u.dx (k:=4) cD
   have l4:=u.aT (k:=4) cD
   have l1:=u.aT (k:=1) cD
   rw[E3]at l4;rw[E1]at l1
   have V4:=u.bt (k:=4) cD (by rw[E3];omega) ag
   have ew:eI (w+(A:Int))=w+A:=iz
   let⟨R,hw⟩:=dU y ((w+(A:Int)).toNat)
   let⟨wr,W,J⟩:=u.cG (k:=1) (i:=(w+(A:Int)).toNat) cD (by rw[E1];omega) (eI (R+1))
   refine⟨_,G1,_,G4,H,V,w,V4,_,G1,_,G4,H,V,w,V4,?_⟩
   rw[ew]
   refine⟨V,V,R,u.bt (k:=1) cD (by rw[E1];omega) hw,V,V,wr,ab.eW J,ai V _ ⟨y.set (w+(A:Int)).toNat (eI (R+1)),by simp[X],U.J J,ab.to J,?_,ad.aV (bC bO) _ _⟩⟩
   have:up (up L 1 y) 1 ((up L 1 y) 1|>.set (w+(A:Int)).toNat (eI (R+1)))=up L 1 (y.set (w+(A:Int)).toNat (eI (R+1))):=by funext j;simp only[up];split<;>rfl
   rw[this]at W;exact W
  .refine⟨λ_=>?_,λ_=>.TY U u (N.bI X)⟩
   have R:(up L 1 y) 5=L 5:=rfl
   have ar:=u.aT (k:=5) cD
   rw[R]at ar
   let⟨wr,W,J⟩:=u.cG (k:=5) (i:=B.toNat) cD (by rw[R];omega) (aj.len:Int)
   exact⟨_,u.dx (k:=5) cD,H,V,wr,ab.eW J,.TY (U.J J) W ((N.bI X).tok (by rw[R];simp[n5]))⟩
def Oq(hx:D f b)(kv:∀j,j<f.size->e j=0)(N:jZ e b g p L)(hi:wq h o L)(hn:o<=10^12)(hN:iF f d r h q)(B:be f a x.aO)(E:Ya h q.length c o x):
 bK dO 275 [vp g 0,.agg #[d.v,r.v],tn x a l] b (Gs e b g (wq h o)):=by
 apply xJ (g,0)
 simp -zeta only[dR,eV]
 intro Q I
 have st:=Gq.Zi (c:=Q) (d:=I) hx kv N.bF O O
 have x2:D b I:=(fU (a:=Q) (c:=I) O O).1
 have c2:To e b e I:=dI.fB x2 N.bF
 have Z:=B.aT
 have Y:∀{M:bh},D f M->At M d r a l h q x:=λxx=>⟨hN.le xx.le,B.ext xx,E.jE⟩
 refine gP (n:=x.aO.length) (Z▸B.kM) (λ_ M=>∃t S J,wq h o J/\To e b t M/\Gq f [Q.size,b.size] t M/\jZ t M g S J) ⟨e,p,L,hi,c2,st,(N.ext x2)⟩ ?_
 rintro aa M af μ ag ⟨R,ae,X,v,K,C,s⟩ ac
 refine⟨λF=>?_,λF=>?_⟩
 .simp only[bg]at F
  let⟨H,G⟩:=dU x.aO aa
  let⟨U,W⟩:=E.aO H (aZ G)
  have N0:=v.aT 0 cD
  refine⟨_,s.dx (k:=0) cD,?_⟩
  refine(qt (Y C.ext) (s.oL (k:=0) cD V) (by rw[N0];exact E.aO) (h:=aa) V).aP λT m4⟨j,z,m⟩=>⟨λj u=>m.bG j (C.bV j u).1,j,z,λ_=>⟨V,V,H,(B.ext (C.ext.J m)).bt G,?_⟩,λ_=>ac V _ ⟨R,ae,X,v,K.J (dI.fB m s.bF),C.nj m,s.ext m⟩⟩
  have w:=C.nj m
  have y:To e b R m4:=K.J (dI.fB m s.bF)
  refine(yY (s.ext m) v hn U W).aP λT m5⟨j,t,z,A,h5⟩=>⟨w.eW A,j,z,λu=>.no (y.J A),λu=>?_⟩
  obtain⟨S,J,P,ab,hl,rfl⟩:=h5 (sp u)
  exact ac V _ ⟨t,S,_,v.bI hl,y.J A,w.to A,P⟩
 .refine gP (n:=x.aO.length) (Z▸B.kM) (λ_ t=>D M t) cY ?_
  rintro S M4 I4 μ4 ah m ab
  have w:=C.nj m
  have y:To e b R M4:=K.J (dI.fB m s.bF)
  have t:=s.ext m
  refine⟨λF=>?_,λF=>⟨λad=>?_,λ_=>.TY y t v⟩⟩
  .simp only[bg]at F
   let⟨H,G⟩:=dU x.aO S
   let⟨U,W⟩:=E.aO H (aZ G)
   refine(se (Y w.ext) (S:Int)).aP λT m5⟨j,z,A⟩=>⟨λj u=>A.bG j (w.bV j u).1,j,z,λ_=>⟨V,V,H,(B.ext (w.ext.J A)).bt G,?_⟩,λ_=>ab V _ (m.J A)⟩
   refine(wJ (t.ext A) v hn U W).aP λT m6⟨j,z,J⟩=>⟨λj u=>J.bG j (A.lt (w.bV j u).1),j,z,λ_=>.no (y.J (dI.fB (A.J J) t.bF)),λ_=>ab V _ ((m.J A).J J)⟩
  .simp only[bg]at ad
   have H:=E.dh
   have u:=v.aT 5 cD
   have J:=t.aT (k:=5) cD
   have z:eI (x.dh -1)=x.dh -1:=iz
   let⟨G,A⟩:=dU (X 5) ((x.dh -1).toNat)
   let⟨wr,P,j⟩:=t.cG (k:=5) (i:=(x.dh -1).toNat) cD V (-1)
   rw[z]
   exact⟨_,t.dx (k:=5) cD,V,V,G,t.bt (k:=5) cD V A,λ_=>.no y,λ_=>⟨_,t.dx (k:=5) cD,V,V,wr,w.eW j,.TY (y.J j) P (v.tok (by simp[u]))⟩⟩
end
section
variable{M:bh}
def Qw(g:ag)(b:bh):ad:=(List.range b.size).filter λa=>g a≠0
def Z2(g:ag)(b:bh):∀a∈Qw g b,a<b.size:=by grind [Qw]
def YI{g:ag}{b h:bh}(kv:∀a,a<h.size->g a=0)(e:D h M):Le h (dA (Qw g b) M):=
 (Ev (m:=h)).J (e.dA λa c=>bR (by
  simp[Qw]at c;exact Nat.le_of_not_lt λd=>c.2 (kv a d)))
def dI.afg{g d:ag}{b c:bh}(h:To g c d M)(f:∀a,b.size<=a->g a=0):Le (dA (Qw g b) c) M:=λa o v e=>by
 grind [iO,rT,Nat.lt_or_ge,Array.size,Qw,bE,dI.fQ]
def Xd(f:af)(p:List j7)(c:Prop)(a:Bk):Prop:=∀(g:ag)(b h:bh)(o:Nat)(j:Nat->E)(L:Nat->ab)(e l:Nat)(d r t:E),D h b->(∀a,a<h.size->g a=0)->jZ g b o j L->wq f e L->WB f p.length c e a->e+4*a.w<=10^12->l<=e->iF h d r f p->iN h t a.bA->
 bK dO 333 [vp o 0,.agg #[d.v,r.v],.agg #[t.v,vi a.bQ],vi l] b (Gs g b o λi=>(∀k,k<6->(i k).length=l)/\(i 6).length<=10^12)
def acN(b:bh)(e:Nat)(v:Value)(c:bh):Prop:=∃(o:Nat)(d:Bool),v=.tuple #[vp o 0,vb d]/\D b c/\(d=true->∃g j L,(∀a,a<b.size->g a=0)/\jZ g c o j L/\∀a,a<6->(L a).length=e)
def lX.bG{f:af}{e b:Nat}{L a:Nat->ab}(h:lX f e b L)(c:∀l,l<7->a l=L l):lX f e b a:=
 by constructor<;>grind [lX.aT,lX.YS,lX.lF,lX.df]
variable{g:ag}{b h:bh}{o:Nat}{j:Nat->E}{L:Nat->ab}{f:af}{p:List j7}{e:Nat}{d r a l:E}{x:eM}{c:Prop}
def WR(hx:D h b)(az:jZ g b o j L)(hi:wq f e L)(N:iF h d r f p)(ha:be h a x.aO)(hk:rO h l x.dv)(hw:WS f p.length c e x)(t:e+4*x.w<=10^12){ad:Nat}{m:Bk}(ac:x.dv[ad]? =some m)(ih:Xd f p c m):
 bK dO 314 [vp o 0,.agg #[d.v,r.v],tn x a l,vi ad] b (acN b e):=by
 apply Dp (o,0)
 simp -zeta only[dR]
 intro R I
 let⟨x2,hl⟩:=fU (a:=R) (c:=I) O O
 have h2:=az.ext x2
 have ao:=hi.aT
 have l0:=h2.aT (k:=0) cD
 have n0:=ao 0 cD
 have aR:=br ac
 have aT:=hk.aT
 have aQ:=Ba ac
 have aW:=eM.pP x
 have Z:=hw.dv ad m ac
 have w:=hx.J x2
 let⟨ah,ht,f0,f1⟩:=hk.bt ac
 refine⟨_,h2.dx (k:=0) cD,?_⟩
 refine(RC h2 (λu hj=>by
  by_cases A:u<6
  .rw[ao u A];omega
  .have:u=6:=V;subst this;exact hi.df)).aP λv m3⟨C,z,H,J,aK,s,q,h3,y⟩=>⟨H.aaX hl cY|>λ_=>λm t=>H.bG m (hl m t),(C,0),z,?_⟩
 have Q:wq f e s:=hi.bG y
 have ak:Gq I [R.size,b.size] J m3:=⟨H,q,λm t=>⟨H.lt (hl m t),q m (hl m t)⟩⟩
 have kG:∀(M:bh)(ae:ag)(aj:Nat->E)(Y:Nat->ab)(F:Nat),Gq I [R.size,b.size] ae M->jZ ae M C aj Y->wq f F Y->WB f p.length c F m->F<=e+3->e<=F->
  bK dO 333 [vp C 0,.agg #[d.v,r.v],.agg #[ah.v,vi m.bQ],vi ((j 0).len:Int)] M λv m'=>gS [R.size,b.size] M m'/\∃T:Bool,v=vb T/\acN b e (.tuple #[vp C 0,vb T]) m':=λM ae aj Y F W ax an aA aV aB=>by
  have e0:(j 0).len=e:=V
  rw[e0]
  refine(ih ae M I C aj Y F e d r ah W.ext W.kv ax an aA V aB (N.le w.le) (ht.le w.le)).aP λv m'⟨T,G,z,c5,K⟩=>⟨W.eW c5,T,z,C,T,O,x2.J (W.to c5).ext,λaD=>?_⟩
  obtain⟨U,X,A,h7,_⟩:=K aD
  exact⟨G,U,X,λm t=>(W.to c5).kv m (x2.lt t),A,h7⟩
 refine⟨λB=>?_,λB=>?_⟩
 .simp only[bP]at B
  have au:=N.bT.le w.le
  obtain⟨aP,_⟩:=hw.iY.lY B
  refine(kO (Z2 J m3) (au.le H.le) N.dm x.cE).aP λv m4⟨s4,l4,z,aE,e4,x4⟩=>⟨λm t=>x4.bG m (ak.bV m t).1,s4,z,?_⟩
  subst e4
  let⟨q,ar⟩:=dU (cX f x.cE) ad
  have av:=aE.le fL
  have l4:=av.aT
  refine⟨V,V,q,av.bt ar,?_⟩
  have af:=ak.nj x4
  have h4:=h3.ext x4
  refine(fV (e:=Qw J m4) (au.le (YI af.kv af.ext)) N.dm q).aP λv m5⟨s5,l5,z,aw,e5,x5⟩=>⟨λm t=>x5.bG m (af.bV m t).1,s5,z,?_⟩
  subst e5
  have al:=af.nj x5
  have K:=h4.ext x5
  have aN:=hw.iY.mM (bR (bR B))
  let⟨y,hy⟩:=dU x.aO 0
  let⟨y0,y1⟩:=hw.iY.aO y (aZ hy)
  have aO:=ha.aT
  have N5:=Q.aT
  have aX:=K.aT (k:=3) cD
  have F:=N5 3 cD;have n4:=N5 4 cD
  have ai:∀{M:bh},D I M->aS M a.bu (a.off+Int.toNat (0:Int)*1)=some (vi y):=λxx=>(ha.ext (w.J xx)).bt hy
  let⟨w6,A,c6⟩:=K.cG (k:=3) (i:=y.toNat) cD V q
  refine⟨_,K.dx (k:=3) cD,V,V,y,ai al.ext,y0,V,w6,?_⟩
  intro m6
  have am:=al.to c6
  let⟨w7,h7,c7⟩:=A.cG (k:=4) (i:=y.toNat) cD (by show _<(s 4).length;omega) ((j 0).len:Int)
  have aF:=A.aT (k:=4) cD
  have ay:up s 3 ((s 3).set y.toNat q) 4=s 4:=rfl
  rw[ay]at aF
  refine⟨al.eW c6,_,A.dx (k:=4) cD,V,V,y,ai am.ext,y0,V,w7,?_⟩
  intro m7
  have aM:=am.to c7
  have F3:=Kb N.dm q
  have e0:((j 0).len:Int)=e:=V
  have i7:lX f e (e+(cW f q).length) (up (up s 3 ((s 3).set y.toNat q)) 4 ((s 4).set y.toNat ((j 0).len:Int))):=by
   refine⟨λu hj=>?_,λv aH hp=>Q.YS v aH (by simpa[up]using hp),λv c ap hc hf h1=>?_,by simpa[up]using Q.df⟩
   .rcases u with _|_|_|_|_|_|u<;>first|omega|(simp[up,N5])
   .have P:((s 3).set y.toNat q)[v]? =some c:=by simpa[up]using hc
    have aa:((s 4).set y.toNat ((j 0).len:Int))[v]? =some ap:=by simpa[up]using hf
    by_cases ev:y.toNat=v
    .subst ev;rw[ft V]at P aa;simp at P aa;subst P;omega
    .rw[eu ev]at P aa;have:=Q.lF v c ap P aa h1;omega
  have aU:=aw.aT
  refine⟨am.eW c7,?_⟩
  refine gP (n:=(cW f q).length) V (λu M=>∃G U X,lX f (e+u) (e+(cW f q).length) X/\To J m5 G M/\Gq I [R.size,b.size] G M/\jZ G M C U X) ⟨J,_,_,i7,c6.J c7,aM,h7⟩ ?_
  rintro u M an μ hj ⟨aJ,aL,L8,i8,c8,C,aq⟩ aG
  refine dit (λaC=>?_) λaC=>?_
  .let⟨aa,hz⟩:=dU (cW f q) u
   refine⟨V,V,aa,(aw.le (c8.afg h4.bF)).bt hz,V,V,y,ai C.ext,?_⟩
   exact(E8 aq (λaI P=>by rw[i8.aT aI P];omega) aa 0 y).aP λv M'⟨G,U,P,h9⟩=>⟨C.eW P,aG V _ ⟨G,U,_,by rw[<-iv];exact i8.Wn aa 0 V,c8.J P,C.to P,h9⟩⟩
  .have P:u=(cW f q).length:=V
   subst P
   rw[Pu B ar]at Z
   exact⟨V,V,ah,(w.J C.ext).aS f0,m.bQ,(w.J C.ext).aS f1,kG M aJ aL L8 _ C aq i8 Z V V⟩
 .simp only[ba]at B
  rw[Pv B]at Z
  exact⟨V,V,ah,(w.J H).aS f0,m.bQ,(w.J H).aS f1,kG m3 J aK s e ak h3 Q Z V V⟩
end
section
def _root_.Go.Vc.abH{e f:Nat}(h:f<=e)(k:e<=9223372036854775807){m:bh}{d:(Int->bh->Prop)->(Int->bh->Nat)->Int->bh->Prop}(Q:Nat->bh->Prop)(g:Q f m)
 (j:∀(b:Nat)(a:bh)(I:Int->bh->Prop)(μ:Int->bh->Nat),f<=b->b<=e->Q b a->
  (b<e->∀c,Q (b+1) c->I (eI ((b:Int)+1)) c/\μ (eI ((b:Int)+1)) c<μ b a)->d I μ b a):
 ∃(I:Int->bh->Prop)(μ:Int->bh->Nat),I f m/\∀i a,I i a->d I μ i a:=by
 refine⟨λi c=>∃b:Nat,i=b/\f<=b/\b<=e/\Q b c,λi _=>(e -i).toNat,⟨f,O,bY,h,g⟩,?_⟩
 grind [nt,Qb]
variable{g:ag}{m i:bh}{h:Nat}{o:Nat->E}{L:Nat->ab}{j:af}{l:List j7}{e:Nat}{d r f b:E}{x:eM}{c:Prop}
def Rz(hx:D i m)(kv:∀p,p<i.size->g p=0)(t:jZ g m h o L)(Z:wq j e L)(hN:iF i d r j l)(Y:be i f x.aO)(hk:rO i b x.dv)(hw:WS j l.length c e x)(q:e+4*x.w<=10^12)(aA:x.op=7\/x.op=8)(ih:∀p∈x.dv,Xd j l c p):
 bK dO 274 [vp h 0,.agg #[d.v,r.v],tn x f b] m (Gs g m h (wq j e)):=by
 apply zB (h,0)
 simp -zeta only[dR,eV]
 intro ab N
 have st:=Gq.Zi (c:=ab) (d:=N) hx kv t.bF O O
 let⟨P,z⟩:=fU (a:=ab) (c:=N) O O
 have aj:=hk.aT
 have ay:=Y.aT
 have aw:=hw.iY.mM V
 have ak:0<x.dv.length:=by
  grind [WS.iY,Ya.Nj,Ya.lY]
 have K:∀{M:bh},D N M->To g m g M:=λy=>dI.fB (P.J y) t.bF
 have ad:∀(M:bh)(F:Nat)(p:Bk),D N M->x.dv[F]? =some p->bK dO 314 [vp h 0,.agg #[d.v,r.v],tn x f b,vi F] M (acN M e):=λM F p y ae=>
  WR (hx.J (P.J y)) (t.ext (P.J y)) Z hN Y hk hw q ae (ih p (aZ ae))
 refine⟨λM=>D N M,⟨λ_=>?_,λ_=>cY⟩,?_⟩
 .let⟨w,u⟩:=dU x.aO 0
  let⟨A,B⟩:=hw.iY.aO w (aZ u)
  refine⟨cD,V,w,(Y.ext st.ext).bt u,?_⟩
  exact(wJ (t.ext P) Z V A B).aP λU T⟨p,s,v⟩=>⟨λp q=>v.bG p (z p q),p,s,λ_=>.no (K v),λ_=>v⟩
 .intro T v
  let⟨b0,ai⟩:=gD ak
  refine(ad T 0 b0 v ai).aP λU m4⟨aa,ar,s,Q,X⟩=>⟨λp q=>Q.bG p (v.lt (z p q)),(aa,0),ar,s,λ_=>.no (K (v.J Q)),λam=>?_⟩
  let⟨au,ac,L1,ap,X,n1⟩:=X cB
  have an:=n1 1 cD;have ao:=n1 5 cD
  refine abH (e:=x.dv.length) (f:=1) V (aj▸hk.kM) (λ_ M=>D m4 M) cY ?_
  rintro F M av μ ax az R aq
  have w:=(v.J Q).J R
  have B:=X.ext R
  refine⟨λaf=>?_,λaf=>?_⟩
  .simp only[bg]at af
   let⟨p,q⟩:=dU x.dv F
   refine(ad M F p w q).aP λU m6⟨ag,ah,s,u,C⟩=>⟨λp q=>u.bG p (w.lt (z p q)),(ag,0),ah,s,λ_=>.no (K (w.J u)),λam=>?_⟩
   let⟨aD,aE,L2,aC,C,n2⟩:=C cB
   have al:=n2 1 cD;have aB:=n2 5 cD
   have H:=B.ext u
   refine⟨_,H.dx (k:=1) cD,_,C.dx (k:=1) cD,?_⟩
   refine(uE (H.oL (k:=1) cD V) (C.oL (k:=1) cD V)).aP λU m7⟨I,s,_,A⟩=>⟨λp q=>A.bG p (u.lt (w.lt (z p q))),I,s,λ_=>.no (K (w.J (u.J A))),λ_=>?_⟩
   have S:=H.ext A
   have W:=C.ext A
   refine⟨_,S.dx (k:=5) cD,_,W.dx (k:=5) cD,?_⟩
   refine(uE (S.oL (k:=5) cD V) (W.oL (k:=5) cD V)).aP λU m8⟨I,s,_,J⟩=>⟨λp q=>J.bG p (A.lt (u.lt (w.lt (z p q)))),I,s,λ_=>.no (K (w.J (u.J (A.J J)))),λ_=>?_⟩
   exact aq V _ (R.J (u.J (A.J J)))
  .let H:Nat->Nat:=λp=>if p<T.size then g p else au p
   have uu:=P.J v
   have y:=uu.J (Q.J R)
   have z4:=Q.aQ;have zM:=R.aQ;have S:=uu.aQ
   have I:∀p,p<T.size->H p=g p:=cB
   have H0:jZ H M h o L:=by
    refine⟨λp q=>?_,by rw[I _ (cr t.bV.lt S)];exact t.jt,(t.ext y).bV,λu A=>(t.qB u A).fQ (λJ=>y.bG _ ((t.qB u A).bu J).1) λJ=>I _ (cr ((t.qB u A).bu J).1 S)⟩;grind [jZ.bF]
   have ah:∀u,u<7->iE H M bB 1 (u+1) (ac u) ((L1 u).map Ce.i):=λu A=>(B.qB u A).fQ (λ_=>O) λJ=>by
    have C:=((B.qB u A).bu J).2;grind
   have c3:To g m H M:=⟨y.aQ,λp q=>I p (cr q S),H0.bF,λp q _=>y.bG p q⟩
   have ag:Gq i [ab.size,m.size] H M:=⟨st.ext.J w,λp q=>by rw[I p (cr (cr q hx.aQ) S)];exact kv p q,λp q=>⟨w.lt (z p q),by rw[I p (v.lt (z p q))];exact(st.bV p q).2⟩⟩
   refine⟨_,B.dx (k:=1) cD,?_⟩
   let⟨w5,h5,W⟩:=H0.ac9 (k:=1) cD (ah 1 cD)
   refine⟨w5,?_⟩
   intro m9
   have al:aa≠h:=λs=>by
    have h8:=B.jt;rw[s,ap _ (cr t.bV.lt S)]at h8;omega
   have G:aS m9 aa 5=some (E.v (ac 5)):=(bE (cq _ _ _ _ al) _).trans (B.dx (k:=5) cD)
   have A5:iE H m9 bB 1 (5+1) (ac 5) ((L1 5).map Ce.i):=by
    grind [iE.fQ,cq,iE.bu,jZ.jt]
   let⟨w6,h6,c6⟩:=h5.ac9 (k:=5) cD A5
   exact⟨ag.eW W,_,G,w6,(ag.to W).eW c6,.TY ((c3.J W).J c6) h6 ((Z.bI an).tok ao)⟩
end
section
section
variable{b:ag}{m g:bh}{f:Nat}{l:Nat->E}{L:Nat->ab}{e:af}{h:List j7}{n:Nat}{d r a j:E}{x:eM}{c:Prop}
def Ld(hx:D g m)(kv:∀o,o<g.size->b o=0)(Z:jZ b m f l L)(z:wq e n L)(R:iF g d r e h)(E:be g a x.aO)(hk:rO g j x.dv)(F:WS e h.length c n x)(u:n+4*x.w<=10^12)(ih:∀o∈x.dv,Xd e h c o):
 bK dO 250 [vp f 0,.agg #[d.v,r.v],tn x a j] m (Gs b m f (wq e (n+dn x))):=by
 apply BP (f,0)
 simp -zeta only[dR,eV]
 intro S ac
 have N:=Gq.Zi (c:=S) (d:=ac) hx kv Z.bF O O
 have x2:D m ac:=(fU (a:=S) (c:=ac) O O).1
 have h2:=Z.ext x2
 have al:=E.aT
 have an:=eM.pP x
 have N0:=z.aT 0 cD
 refine⟨_,h2.dx (k:=0) cD,?_⟩
 refine(sA (R.le N.ext.le) (h2.oL (k:=0) cD V) (E.ext N.ext) (hk.le N.ext.le) V (λo _=>rl o)).aP λA m3⟨G,t,_,U⟩=>⟨λo u=>U.bG o (N.bV o u).1,G,t,?_⟩
 have s:=N.nj U
 have C:=h2.ext U
 have K:To b m b m3:=dI.fB (x2.J U) Z.bF
 have mM:14<=x.op\/x.op=7\/x.op=8->∃y:Int,x.aO[0]? =some y/\0<=y/\y<(n:Int):=λho=>by
  have:=F.iY.mM ho;let⟨y,J⟩:=dU x.aO 0;exact⟨y,J,F.iY.aO y (aZ J)⟩
 refine⟨λok M=>∃v,To b m v M/\Gq g [S.size,m.size] v M/\(ok=true->∃ag p,jZ v M f ag p/\wq e n p),⟨λah=>?_,λao=>⟨λai=>?_,λap=>⟨λaj=>?_,λaq=>⟨λh7=>?_,λn7=>?_⟩⟩⟩⟩,?_⟩
 .simp only[bP]at ah
  let⟨y,J,B,Q⟩:=mM V
  have W:=F.iY.mM V
  have Y:∀{M:bh},D g M->aS M a.bu (a.off+Int.toNat (0:Int)*1)=some (vi y):=λP=>(E.ext P).bt J
  refine⟨cD,V,y,Y s.ext,?_⟩
  refine(wJ C z V B Q).aP λA H⟨o,t,p⟩=>⟨λo u=>p.bG o (s.bV o u).1,o,t,?_⟩
  have q:=C.ext p
  have w:=s.nj p
  have N1:=z.aT 1 cD
  have l1:=q.aT (k:=1) cD
  let⟨T,X⟩:=dU (L 1) y.toNat
  let⟨wr,h5,I⟩:=q.cG (k:=1) (i:=y.toNat) cD V (eI (T+1))
  exact⟨_,q.dx (k:=1) cD,cD,V,y,Y w.ext,_,q.dx (k:=1) cD,cD,V,y,Y w.ext,B,V,T,q.bt cD V X,B,V,wr,w.eW I,b,(K.J (dI.fB p C.bF)).J I,w.to I,λ_=>⟨l,_,h5,z.bI (by simp[N1])⟩⟩
 .simp only[bP]at ai
  let⟨y,J,B,Q⟩:=mM V
  have W:=F.iY.mM V
  refine⟨cD,V,y,(E.ext s.ext).bt J,?_⟩
  refine(yY C z V B Q).aP λA H⟨o,v,t,p,q⟩=>⟨s.eW p,o,t,v,K.J p,s.to p,λu=>?_⟩
  grind [lX.bI]
 .simp only[eG,bP]at aj
  refine(Ve s.ext s.kv C z V R E F.iY V).aP λA H⟨o,v,t,p,q⟩=>⟨s.eW p,o,t,v,K.J p,s.to p,q⟩
 .simp only[eG,bP]at h7
  refine(Rz s.ext s.kv C z R E hk F u h7 ih).aP λA H⟨o,v,t,p,q⟩=>⟨s.eW p,o,t,v,K.J p,s.to p,q⟩
 .refine(Oq s.ext s.kv C z V R E F.iY).aP λA H⟨o,v,t,p,q⟩=>⟨s.eW p,o,t,v,K.J p,s.to p,q⟩
 .rintro ok M ⟨ar,p,w,q⟩
  refine⟨λ_=>.no p,λam=>?_⟩
  let⟨au,L4,q,i4⟩:=q cB
  have X:∀{W:bh}(G T:Int),D M W->dn x=1->bK dO 271 [vp f 0,vi G,vi T,vi (-1:Int)] W λ_ m'=>gS [S.size,m.size] W m'/\Gs b m f (wq e (n+dn x)) (vb true) m':=λG T P hd=>
   (E8 (q.ext P) (λH B=>by rw[i4.aT H B];omega) G T (-1)).aP λ_ m'⟨v,ag,I,h5⟩=>⟨(w.nj P).eW I,.TY ((p.J (dI.fB P q.bF)).J I) h5 (by rw[hd];exact(i4.Wn G T V).Ih V)⟩
  refine(mN x.op M).aP λA m5⟨o,t,Y,B⟩=>⟨λo u=>B.bG o (w.bV o u).1,o,t,λad=>⟨λ_=>X G 1 B (by have:=zR x o Y;rw[bn ad]at this;exact this),λ_=>?_⟩,λak=>?_⟩
  .refine(mN x.op m5).aP λA m6⟨Q,t,aa,H⟩=>⟨λo u=>H.bG o (B.lt (w.bV o u).1),Q,t,λae=>X 0 0 (B.J H) (by have:=zR x Q aa;rw[bn ae]at this;exact this),λab=>?_⟩
   have:=aa.2 (Y.1 ad);rw[this]at ab;simp at ab
  .have af:=zR x o Y
   rw[aW (by simp[ak])]at af
   exact(mN x.op m5).aP λA m6⟨Q,t,aa,H⟩=>⟨λo u=>H.bG o (B.lt (w.bV o u).1),Q,t,λae=>X 0 0 (B.J H) cB,λab=>.TY (p.J (dI.fB (B.J H) q.bF)) (q.ext (B.J H)) (by rw[af];exact i4)⟩
end
def RG{A:af}{rs:List j7}{I:Prop}:∀b:Bk,Xd A rs I b:=by
 refine Bk.ind ?_;intro bA ac ih p m mb F sl L aa E ag am ap Z kv r R Y B hk P v;simp only[Bk.mV,Bk.lV,Bk.vt]at*;apply AB (F,0);simp -zeta only[dR];intro w o;have st:=Gq.Zi (c:=w) (d:=o) Z kv r.bF O O;have G:D m o:=(fU (a:=w) (c:=o) O O).1;have J:To p m p o:=dI.fB G r.bF;let⟨C,x,r1⟩:=Y.cw;simp only[Bk.mV,Bk.lV]at C x r1;have W:=v.aT;have U:=FL bA;refine gP (n:=bA.length) (W▸v.kM) (λi M=>∃g q h,wq A (aa+dc (bA.take i)) h/\To p m g M/\Gq mb [w.size,m.size] g M/\jZ g M F q h) ⟨p,sl,L,sp R,J,st,r.ext G⟩ ?_;rintro i M ad μ ai ⟨an,ao,H,f,j,c,d⟩ ab
 have ah:=xe (bA.take i);have aj:=jQ (bA.take i);refine dit (λT=>?_) λT=>?_
 .let⟨u,l⟩:=dU bA i;let⟨ae,kk,Q,S,y,g1,g2,K,N⟩:=v.bt l;have al:=ua l;have ak:=U (i+1);have X:=c.ext;refine⟨V,V,_,X.aS y,_,X.aS g1,_,X.aS g2,_,X.aS K,_,X.aS N,?_⟩;refine(Ld X c.kv d f P Q S (C i u l) V (ih u (aZ l))).aP λz m4⟨b,g,e,a,s⟩=>⟨c.eW a,b,e,λ_=>.no (j.J a),λB=>?_⟩;let⟨q,h,t,i5⟩:=s cB;exact ab V _ ⟨g,q,h,by rw[(uK l),<-iv];exact i5,j.J a,c.to a,t⟩
 .have K:i=bA.length:=V;rw[K,fu]at f;have ae:=xe bA;have ak:=jQ bA;have N0:=f.aT 0 cD;have l0:=d.aT (k:=0) cD;let⟨X,Q⟩:=dU (H 0) ac.toNat;refine⟨_,d.dx (k:=0) cD,x,V,X,d.bt cD V Q,λ_=>?_,λ_=>?_⟩
  .refine(yY d f V x V).aP λz m4⟨b,g,e,a,s⟩=>⟨c.eW a,b,e,λ_=>.no (j.J a),λB=>?_⟩;obtain⟨q,h,t,al,N,rfl⟩:=s cB;refine(QI t (f.bI N) V (b:=E) V).aP λz S⟨b,y,e,l,u⟩=>⟨(c.to a).eW l,b,e,b,y,O,(j.J a).J l,u⟩
  .refine(QI d f V (b:=E) V).aP λz S⟨b,y,e,l,u⟩=>⟨c.eW l,b,e,b,y,O,j.J l,u⟩
def ado(m:bh)(f:af)(q:j7)(j:Int)(v:Value)(c:bh):Prop:=∃(a:Nat)(d:Bool),v=.tuple #[vp a 0,vb d]/\D m c/\(d=true->0<=j/\j<=q.eY.bA.length/\∃e g L,(∀b,b<m.size->e b=0)/\jZ e c a g L/\wq f (q.aY.length+dc (q.eY.bA.take j.toNat)) L)
def Jq{m:bh}{I S:E}{f:af}{y:List j7}{ab:Prop}{W:Nat}(o:iF m I S f y)(N:CF f y ab W)(hW:W<=200000000000){J:Nat}{a:j7}(v:y[J]? =some a){j:Int}(hj: -9000000000000000000<=j/\j<=9000000000000000000):
 bK dO 225 [.agg #[I.v,S.v],vi J,vi j] m (ado m f a j):=by
 apply BL
 simp -zeta only[dR]
 intro s
 have C:=px s
 have g:∀b∈[m.size],b<s.size:=by simp[s]
 have aC:=o.lI.aT
 have aA:=br v
 let⟨ai,ag,ak,hw⟩:=N.eR a (aZ v)
 let⟨aH,aI,b,c1,c2,H,e0,e1,e2,u,e4⟩:=o.lI.bt v
 have w:∀{M:bh}{an:Obj},D m M->ado m f a j (.tuple #[vp M.size 0,vb false]) (M.push an):=λxx=>⟨_,false,O,xx.bZ _,bO⟩
 refine(JH (o.le C.le) (λd c=>oh (N.eR d c))).bL (D.cT s) g λv1 m2 F _=>⟨_,O,λ_=>w (C.J F),λ_=>?_⟩
 have T:=C.J F
 refine(dj).bL F g λv2 m3 _ Y v3=>⟨_,O,λ_=>w (T.J Y),λ_=>?_⟩
 have A:=T.J Y
 have ax:=H.aT
 refine⟨V,V,_,A.aS u,?_⟩
 refine(dj).bL v3 g λv4 Q ac Z B=>⟨_,O,λ_=>w (A.J Z),λaF=>?_⟩
 have c:=A.J Z
 have hr:=ac.1 cB
 refine⟨V,V,_,c.aS e0,_,c.aS e1,_,c.aS e2,_,c.aS u,_,c.aS e4,?_⟩
 refine(MN (q:=a) (c1.ext c) (c2.ext c) ai ag f).aP λar R⟨r,t,G,x,sl,aa,kv,K,i5⟩=>⟨λb d=>G.bG b (B.lt (g b d)),(r,0),t,?_⟩
 obtain⟨al,_,_⟩:=ak.cw
 have ay:=Bk.pP a.eY
 have aj:=FL a.eY.bA
 have aq:Gq Q [m.size] x R:=⟨G,kv,λb d=>⟨G.lt (B.lt (g b d)),kv b (B.lt (g b d))⟩⟩
 have e6:j=((j.toNat:Nat):Int):=V
 obtain⟨jn,ad⟩:∃jn:Nat,j=jn:=⟨j.toNat,e6⟩
 subst ad
 simp only[fR]
 refine gP (n:=jn) V (λi M=>∃h z k,wq f (a.aY.length+dc (a.eY.bA.take i)) k/\To x R h M/\Gq Q [m.size] h M/\jZ h M r z k) ⟨x,sl,aa,sp i5,K.to,aq,K⟩ ?_
 rintro i M av μ aB ⟨ao,ap,L6,P,c6,e,L⟩ am
 have U:D m M:=c.J e.ext
 refine dit (λah=>?_) λah=>?_
 .let⟨au,p⟩:=dU a.eY.bA i
  let⟨aw,kk,ha,ae,g0,g1,g2,g3,g4⟩:=(H.le c.le).bt p
  have X:=e.ext
  have aG:=ua p
  have aE:=aj (i+1)
  have az:=xe (a.eY.bA.take i)
  have aD:=jQ (a.eY.bA.take i)
  refine⟨V,V,_,U.aS u,V,V,_,X.aS g0,_,X.aS g1,_,X.aS g2,_,X.aS g3,_,X.aS g4,?_⟩
  refine(Ld X e.kv L P (o.le c.le) ha ae (al i au p) V (λb _=>RG b)).aP λar m7⟨b,h,t,l,h7⟩=>⟨e.eW l,b,t,λ_=>⟨r,false,O,c.J (e.to l).ext,bO⟩,λd=>?_⟩
  let⟨z,k,h8,i8⟩:=h7 cB
  exact am V _ ⟨h,z,k,by rw[uK p,<-iv];exact i8,c6.J l,e.to l,h8⟩
 .have h:i=jn:=V
  subst h
  exact⟨r,true,O,U,λ_=>⟨V,V,ao,ap,L6,λb d=>e.kv b (c.lt d),L,sp P⟩⟩
end
section
variable{e d:Int}{c P:Nat}{m:bh}
def XS(a:0<=e)(b:0<d):0<=e.tmod d/\e.tmod d<d:=⟨Int.tmod_nonneg _ a,Int.tmod_lt_of_pos _ b⟩
def Sz(a:0<=e)(b:0<d):0<=e.tdiv d/\e.tdiv d<=e:=by
 rw[aan a];exact⟨Int.ediv_nonneg a V,Int.ediv_le_self _ a⟩
def abe{b:Int}(f:0<=e/\e<4611686018427387904)(g:0<=b/\b<4611686018427387904):0<=abd e b:=by
 unfold abd;have a:(e%18446744073709551616).toNat<2^62:=V;have c:(b%18446744073709551616).toNat<2^62:=V;have d:=Nat.xor_lt_two_pow a c;grind [de]
def Rd(c:Nat)(a:E)(P:Nat)(m:bh):Prop:=(∃p:Int,dF m c ud [.s a,.i p]/\0<=p/\p<=P)/\a.len<=a.cap/\∀k:Nat,k<a.len->∃v:Int,0<=v/\v<=255/\aS (dA [c] m) a.bu (a.off+k*1)=some (.int .u8 v)
theorem Rd.aP{Q:Nat}{a:E}(h:Rd c a P m)(g:P<=Q):Rd c a Q m:=let⟨⟨p,b,d,f⟩,e⟩:=h;⟨⟨p,b,d,V⟩,e⟩
theorem Rd.lt{c P:Nat}{a:E}{m:bh}(h:Rd c a P m):c<m.size:=let⟨⟨_,b,_⟩,_⟩:=h;b.lt
theorem Rd.Bp{f:Nat}{b:E}{e M a:bh}(d:Rd c b f e)(h:Rd c b P M)(l:Fz [c] e a)(k:a[c]? =M[c]?):Rd c b P a:=by
 obtain⟨⟨p,g,i,j⟩,_⟩:=h;exact⟨⟨p,g.congr k,i,j⟩,d.2.1,λo m=>let⟨v,q,r,n⟩:=d.2.2 o m;⟨v,q,r,l.fj (λ_ h=>h) _ _ _ n⟩⟩
def Rd.ext{a:E}{d:bh}(h:Rd c a P m)(b:D m d):Rd c a P d:=h.Bp h (b.fz _) (b.bG _ h.lt)
def Rd.aV{c e P:Nat}{a:E}{d M:bh}(f:Rd c a e d)(h:Rd c a P M)(i:Fz [c] d M){b:Nat}(g:d.size<=b)(o:Nat)(l:ae):Rd c a P (aV M b o l):=
 by grind [Rd.Bp,Fz.aV,cq,Rd.lt]
def adw(c:Nat)(b:E)(P:Nat)(m:bh)(d:Int)(v:Value)(a:bh):Prop:=∃k:Int,v=vi k/\0<=k/\(k<d\/k=0)/\Rd c b (P+1) a/\Fz [c] m a
def dW{b:E}(q:Rd c b P m)(hP:P<=10^16)(d:Int):bK dO 74 [vp c 0,vi d] m (adw c b P m d):=by
 let⟨⟨p,s,l,p1⟩,X,D⟩:=q;apply BU (c,0);simp -zeta only[eV];have g1:=s.dx 1;refine⟨p,g1,s.jb bO,?_⟩;intro h;have U:eI (p+1)=p+1:=iz;have T:eI (p+1 -1)=p:=by rw[show p+1 -1=p by omega];exact iz
 have t:dF h c ud [.s b,.i (p+1)]:=(U▸dF.aV (m:=m) (r:=[.i (eI (p+1))]) (o:=1) s);have z:Fz [c] m h:=(Fz.cT [c] m).aV (bC bO) _ _;have F:Le (dA [c] m) (dA [c] h):=z.fj λ_ q=>q;have R:∀k:Int,0<=k->(k<d\/k=0)->adw c b P m d (vi k) h:=λk A C=>⟨k,O,A,C,⟨⟨p+1,t,V,V⟩,X,λi e=>let⟨v,g,j,f⟩:=D i e;⟨v,g,j,F _ _ _ f⟩⟩,z⟩;have e:=t.dx 0;have g1:=t.dx 1;have B:∀i:Int,0<=i->i<(b.len:Int)->∃v:Int,0<=v/\v<=255/\aS h b.bu (b.off+i.toNat*1)=some (.int .u8 v):=λi A C=>by
  let⟨v,g,j,f⟩:=D i.toNat V;exact⟨v,g,j,(iO.1 (F _ _ _ f)).2⟩
 refine⟨λ_=>R 0 (dT _) (bR O),λZ=>⟨_,e,λ_=>R 0 (dT _) (bR O),λY=>?_⟩⟩;simp only[dk]at Z;simp only[ba]at Y;have G:0<d:=V;refine⟨_,g1,_,e,?_⟩;rw[T];refine⟨λy=>?_,λ_=>?_⟩
 .simp only[bg]at y;let⟨v,g,j,f⟩:=B p l y;refine⟨_,e,l,y,v,f,V,?_⟩;rw[iz];have:=XS g G;exact R _ this.1 (bC this.2)
 .have w:0<(b.len:Int):=V;let⟨I,J⟩:=XS l w;let⟨v,g,j,f⟩:=B _ I J;have S:eI (eI (p*7)+3)=p*7+3:=by rw[de (b:=p*7) V V,iz]
  let⟨K,L⟩:=XS (e:=p*7+3) V w;let⟨u,u0,u1,hu⟩:=B _ K L;let⟨d0,d1⟩:=Sz l w;rw[S];refine⟨_,e,_,e,V,I,J,v,f,_,e,_,e,V,K,L,u,hu,_,e,V,cD,V,?_⟩;have M:eI (eI v*131)=v*131:=by rw[de (b:=v) V V,iz]
  have N:eI (eI u*1117)=u*1117:=by rw[de (b:=u) V V,iz]
  have E3:eI (p*29)=p*29:=iz;have Q:eI (eI (p.tdiv b.len)*53)=p.tdiv b.len*53:=by rw[de (b:=p.tdiv b.len) V V,iz]
  rw[M,N,E3,Q,de (b:=v*131+u*1117) V V,de (b:=v*131+u*1117+p*29) V V,de (b:=v*131+u*1117+p*29+p.tdiv b.len*53) V V];have H:0<=v*131+u*1117+p*29+p.tdiv b.len*53:=V;let⟨q0,q1⟩:=Sz (d:=64) H cD;rw[de V V];have W:=abe ⟨H,V⟩ ⟨q0,V⟩;let⟨z0,z1⟩:=XS W G;exact R _ z0 (bC z1)
def og{a:E}(h:Rd c a P m)(j:P<=10^16){s:E}{l:ab}(d:be (dA [c] m) s l)(o:0<l.length):
 bK dO 77 [vp c 0,s.v] m λv f=>∃k:Int,v=vi k/\k∈l/\Rd c a (P+1) f/\Fz [c] m f:=by
 apply Ds (c,0)
 have p:=d.aT
 refine(dW h j (s.len:Int)).aP λv r⟨k,g,n,q,i,b⟩=>⟨k,g,n,V,?_⟩
 let⟨x,e⟩:=dU l k.toNat
 exact⟨x,(iO.1 ((b.fj (λ_ h=>h)) _ _ _ (d.bt e))).2,x,O,aZ e,i,b⟩
end
section
variable{d:ad}{c:bh}
def _root_.Go.Vc.Gr.dX{α:Type}{X:ad}{n:bh}{v f:Nat}{R:bh->ae->α->Prop}{s:E}{u:List α}(t:sD f R)(x:Gr d n c v f R s u)(K:Fz X n c){k:Nat}(M:k<u.length){cs:ae}{a:α}(A:R (dA (s.bu::d) c) cs a):
 jb c s.bu (s.off+k*f) f/\Gr d n (aV c s.bu (s.off+k*f) cs) v f R s (u.set k a)/\Fz X n (aV c s.bu (s.off+k*f) cs)/\(∀g,g≠s.bu->(aV c s.bu (s.off+k*f) cs)[g]? =c[g]?):=by
 have S:=x.cJ
 let⟨y,e,z,l⟩:=x
 have P:∀g,g≠s.bu->(aV c s.bu (s.off+k*f) cs)[g]? =c[g]? :=by grind [cq]
 let⟨g,h,tail,q,G,H,U,I⟩:=z.bt.resolve_left y
 have Z:=t.aT A
 let⟨p,C⟩:=dU e k cB
 have Y:=l.aQ p (aZ C)
 have Q:s.off+k*f=k*f:=by rw[q];simp
 have J:s.bu=g:=by rw[q];rfl
 have N:=br C
 have ab:e=e.take k++p::e.drop (k+1):=by
  grind [List.getElem?_eq_some_iff,List.drop_eq_getElem_cons,List.take_append_drop]
 have ac:(e.take k).flatten.length=k*f:=by rw[dS λh B=>l.aQ h (gW B),qW,mH V]
 have aa:e.set k cs=e.take k++cs::e.drop (k+1):=by
  grind [List.set_eq_take_append_cons_drop]
 have L:kH (e.flatten++tail) (k*f) cs=(e.set k cs).flatten++tail:=by
  have W:e.flatten++tail=(e.take k).flatten++(p++((e.drop (k+1)).flatten++tail)):=by
   grind
  grind [Gi,List.length,List.drop_left]
 have O:(e.set k cs).flatten.length=e.flatten.length:=by
  grind [dS,iy.aQ,List.length_set,List.mem_or_eq_of_mem_set]
 have D:Le (dA (s.bu::d) c) (dA (s.bu::d) (aV c s.bu (s.off+k*f) cs)):=by grind [dV]
 refine⟨?_,⟨y,e.set k cs,⟨(O▸z.aT),bR ⟨g,h,tail,q,G,?_,?_,I⟩⟩,⟨by simp[l.aT],λh B=>?_,λF h T i j=>?_⟩⟩,K.aV (bR S.1) _ _,P⟩
 .grind [dF.jb,List.take,List.flatten,List.length,List.length_append]
 .have w:=dF.aV (m:=c) (b:=g) (r:=cs) (o:=k*f) H
  rw[Q,J,<-L];exact w
 .grind [List.length_append]
 .grind [List.mem_or_eq_of_mem_set,iy.aQ]
 .by_cases w:k=F
  .subst w
   rw[ft N]at i
   rw[ft M]at j
   simp at i j;subst i j
   exact t.le D A
  .rw[eu w]at i j
   exact t.le D (l.eR F h T i j)
def Fu(hS:∀a∈d,a<c.size){g A I:E}{P:Int}{bA:au}{x:eM}{e:Nat}(q:iN (dA d c) g bA)(ha:be (dA d c) A x.aO)(hk:rO (dA d c) I x.dv)(hj:e<=bA.length)(hb:bA.length<=900000000000):
 bK dO 227 [.agg #[g.v,vi P],vi e,tn x A I] c λae J=>∃R,ae=.agg #[R.v,vi P]/\iN (dA d J) R (bA.take e++[x]++bA.drop e)/\D c J:=by
 apply Jx
 simp -zeta only[dR]
 intro K h f r
 let⟨p,l,s1,s2,s3⟩:=uj (a:=K) (c:=h) (d:=f) O O O
 obtain⟨w,s4⟩:=pu r
 have W:GS (h.size::d) f r (.mk f.size 0 0 0) []:=GS.bF _ _
 have u4:=p.J w
 have G:=q.aT
 have ag:=q.ms
 have F:∀a∈[h.size,K.size,c.size],a<r.size:=λa b=>w.lt (l a b)
 have H:∀{M:bh}{B:Nat},D c M->c.size<=B->Le (dA d c) (dA (B::h.size::d) M):=λxx af=>xx.dA λa b=>by
  simp only[bo]at b;rcases b with k|k|k
  .exact bR V
  .exact bR V
  .exact bC k
 have S:Int.toNat 0=0:=rfl
 have T:Int.toNat (e:Int)=e:=V
 have U:Int.toNat (g.len:Int)=g.len:=V
 rw[S,T,U]
 refine⟨V,V,V,?_⟩
 have ab:iN (dA (f.size::h.size::d) r) (g.cut 0 e 5) (bA.take e):=sp ((q.le (H (B:=f.size) u4 V)).PD (i:=0) (iD _) hj)
 refine GS.lY W (w.fz []) ab eX λr1 m5 g1 C z1 q1=>⟨λa b=>q1 a (F a b) (by have:=l a b;simp;omega),V,V,V,?_⟩
 intro L
 have s:=px L
 have y1:=g1.cJ
 have m:=C.ext
 have y:∀o,aS L c.size o=aS m5 c.size o:=λo=>bE (s.bG _ (oh (F c.size bO))) o
 refine⟨y 1,y 0,?_⟩
 refine GS.nE g1 C (ha.le (H (p.J m) V)) (hk.le (H (p.J m) V)) eX λQ N g2 u z2 q2=>⟨D.sM (m.J s) u.ext (λa b=>oh (l a b)),?_⟩
 have n:D f N:=u.ext
 have y2:=g2.cJ
 have t:∀{M z:bh},D f M->D f z->∀o,aS z c.size o=aS M c.size o:=λY Z o=>bE (by rw[Z.bG _ (l _ bO),Y.bG _ (l _ bO)]) o
 refine⟨t (m.J s) n 1,t (m.J s) n 0,?_⟩
 have ac:iN (dA (Q.bu::h.size::d) N) (g.cut e g.len 5) (bA.drop e):=by
  have:=(q.le (H (B:=Q.bu) (p.J n) V)).PD (i:=e) (j:=g.len) V V;rwa[G,eQ bY,<-G]at this
 refine GS.lY g2 u ac eX λr3 m8 X v z3 q3=>⟨D.sM n v.ext l,t n v.ext 1,?_⟩
 intro m9
 have aa:∀a∈h.size::d,a<f.size:=λa b=>by
  rcases bo.1 b with k|k
  .omega
  .have:=hS a k;omega
 refine⟨r3,O,?_,(p.J v.ext).aV V _ _⟩
 have hD:=X.cy j9.aP aa cD eX
 have ad:Le (dA (h.size::d) m8) (dA d m9):=dV bO λa b=>aX _ b
 exact iN.le ad (by simpa[nB]using hD)
def JJ(B:∀b∈d,b<c.size){t K o:E}{z:af}{w:List j7}{q:j7}{m:Nat}{j:Bk}(h:iF (dA d c) t K z w)(C:w[m]? =some q)(h3:q.aY.length<=3/\q.df.length<=3)(ae:iN (dA d c) o j.bA):
 zg 229 [.agg #[t.v,K.v],vi m,.agg #[o.v,vi j.bQ]] c d z λag=>ag=w.set m ⟨q.aY,q.df,q.bQ,j⟩:=by
 apply Cd
 simp -zeta only[dR]
 intro F g i u
 let⟨p,n,s1,s2,s3⟩:=uj (a:=F) (c:=g) (d:=i) O O O
 obtain⟨x,s4⟩:=pu u
 have g0:GR (g.size::d) i u (.mk i.size 0 0 0) []:=Gr.bF _ bY
 have u4:=p.J x
 have al:=h.lI.aT;have ak:=h.p7
 have ai:=br C
 have ac:∀b∈[g.size,F.size,c.size],b<u.size:=λb e=>x.lt (n b e)
 have H:∀{M:bh}{y:Nat},D c M->c.size<=y->Le (dA d c) (dA (y::g.size::d) M):=λxx ah=>xx.dA λb e=>by
  simp only[bo]at e;rcases e with f|f|f
  .exact bR V
  .exact bR V
  .exact bC f
 refine Gr.lY ly.aP cD g0 (x.fz []) (h.lI.le (H (y:=i.size) u4 V)) eX λl v g1 A z1 q1=>⟨λb e=>q1 b (ac b e) (by have:=n b e;simp;omega),V,V,?_⟩
 simp only[iA]at g1
 have P:D i v:=A.ext
 have y1:=g1.cJ
 let⟨am,an,s,R,T,c3,U,W,X,Y,Z⟩:=(h.lI.le (H (y:=l.bu) (p.J P) V)).bt C
 have kv:∀{N:Value}{s I:Nat},aS (dA (l.bu::g.size::d) v) s I=some N->aS v s I=some N:=λaa=>(iO.1 aa).2
 refine⟨_,kv U,_,kv W,_,kv X,_,kv Y,_,kv Z,?_⟩
 refine(Cy (b:=l.bu::g.size::d) (λb e=>?_) (R.le fL) (T.le fL) V).aP λrv m6⟨J,L,f,h1,h2,r⟩=>?_
 .simp only[bo]at e
  rcases e with f|f|f
  .omega
  .omega
  .have:=B b f;omega
 subst f
 have g2:=g1.ext ly.aP r
 have aj:=g2.aT cD
 let⟨wr,g3,f3,q3⟩:=Gr.dX (k:=m) (cs:=[.s J,.s L,.i q.bQ,.s o,.i j.bQ]) (a:=⟨q.aY,q.df,q.bQ,j⟩) ly.aP g2 (A.cg r) V ⟨J,L,o,O,h1,h2,ae.le (H (y:=l.bu) ((p.J P).J r) V)⟩
 refine⟨λb e=>r.bG b (oh (n b e)),_,_,_,_,_,O,V,V,wr,?_⟩
 intro m7
 refine⟨λb e=>q3 b (oh (n b e)),?_⟩
 intro G
 have ab:∀b∈g.size::d,b<i.size:=λb e=>by
  rcases bo.1 e with f|f
  .omega
  .have:=B b f;omega
 have ad:Le (dA (g.size::d) m7) (dA d G):=dV bO λb e=>aX _ e
 have Q:D c G:=(p.J f3.ext).aV V _ _
 exact⟨t,l,_,O,⟨h.bT.le Q.fj,DN.le ad (g3.cy ly.aP ab cD eX),h.dm,eX⟩,O,Q⟩
end
def aaj{c:af}{d b:Nat}{l:au}(k:WL c d True b l){j:Nat}{a v:Int}(e:14<=a/\a<=17)(m:0<=v/\v<((b+dc (l.take j):Nat):Int)):
 WL c d True b (l.take j++[iX a v]++l.drop j)/\dc (l.take j++[iX a v]++l.drop j)=dc l/\sw (l.take j++[iX a v]++l.drop j)=sw l+2:=by
 have f:dc [iX a v]=0:=nF e.1 [v]
 have g:sw [iX a v]=2:=um a [v]
 have h:=fg (l.take j) (l.drop j)
 have i:=gF (l.take j) (l.drop j)
 grind [List.take_append_drop,WL.Nh,WL.Dd,It,WL.fw,fg,WL.Bc,gF]
def YY(h:Nat)(e:ap)(m:bh)(S:ad)(b:Nat)(f:E)(P:Nat)(g:af)(Q:List j7->Prop):Prop:=
 bK dO h e m λv a=>∃d r c,v=.agg #[d.v,r.v]/\iF (dA S a) d r g c/\Q c/\Rd b f P a/\Fz [b] m a
def Vb{f:ad}{m:bh}(hS:∀l∈f,l<m.size){c P:Nat}{L:E}(aw:c∈f)(h0:Rd c L P m)(hP:P+4<=10^16){s p:E}{u:af}{I:List j7}(hn:iF (dA f m) s p u I){Y:Nat}(N:CF u I True Y)(hW:Y<=200000000000):
 YY 194 [vp c 0,.agg #[s.v,p.v]] m f c L (P+4) u λT=>CF u T True (Y+4):=by
 apply Ot (c,0)
 simp -zeta only[dR]
 intro d am
 let⟨x2,hl⟩:=fU (a:=d) (c:=am) O O
 have s1:=pz d
 have s2:am.size=m.size+2:=cB
 have bM:=hn.lI.aT;have bL:=hn.p7
 have bN:=h0.lt
 have nb:∀a∈[d.size,m.size],a<am.size/\a∉[c]:=λa h=>⟨hl a h,by have:=hl a h;simp at h⊢;omega⟩
 have GK:CF u I True (Y+4):=⟨N.ju,λq B=>let⟨g,a,l,e⟩:=N.eR q B;⟨g,a,l,V⟩⟩
 refine(dW (h0.ext x2) V (p.len:Int)).aP λi g⟨aa,e,f0,f1,h3,z3⟩=>⟨z3.eW nb,aa,e,?_⟩
 have u3:Fz [c] m g:=(x2.fz _).J z3
 have bB:aa<(I.length:Int):=by have:=N.ju;omega
 let⟨q,B⟩:=dU I aa.toNat
 let⟨av,aq,a8,hw⟩:=N.eR q (aZ B)
 have Hn:∀{M:bh},Fz [c] m M->iF (dA f M) s p u I:=by grind [iF.le,Fz.fj]
 have HS:∀{M:bh}(Z:Nat),m.size<=Z->Fz [c] m M->Le (dA f m) (dA (Z::d.size::f) M):=λZ bv gg=>gg.dA (λa h=>by simp at h;subst h;exact aw) λl A=>by
  grind
 have b9:=z3.aQ
 let⟨b2,b4,a,c1,c2,c3,e0,e1,e2,e3,e4⟩:=(hn.le (HS g.size V u3)).lI.bt B
 have kv:∀{M:bh}{f:ad}{i:Value}{a H:Nat},aS (dA f M) a H=some i->aS M a H=some i:=by grind [iO]
 refine⟨f0,V,a,kv e3,q.eY.bQ,kv e4,?_⟩
 intro m4 m5
 have x5:D g m5:=by grind [D.push,D.aV]
 have s5:m5.size=g.size+1:=by grind [bD]
 have bw:=c3.aT
 have bI:=c3.kM
 have bx:=Bk.pP q.eY
 have bP:=jQ q.eY.bA
 have aW:∀a∈[g.size,d.size,m.size],a<m5.size/\a∉[c]:=cB
 rw[iz]
 refine(dW (h3.ext x5) V _).aP λi m6⟨C,e,j0,j1,h6,z6⟩=>⟨z6.eW aW,C,e,?_⟩
 have u6:Fz [c] m m6:=(u3.cg x5).J z6
 have b_:=z6.aQ
 have a0:=(Hn u6).le fL
 obtain⟨fn,aN⟩:∃fn:Nat,aa=fn:=⟨aa.toNat,V⟩
 subst aN
 simp only[fR]at B
 have ar:∀a∈[g.size,d.size,m.size],a<m6.size/\a∉[c]:=cB
 have be:∀{M:bh},Rd c L (P+4) M->Fz [c] m M->∃d' R T,Value.agg #[s.v,p.v]=.agg #[d'.v,R.v]/\iF (dA f (aV M d.size 0 [.s s,.s p])) d' R u T/\CF u T True (Y+4)/\Rd c L (P+4) (aV M d.size 0 [.s s,.s p])/\Fz [c] m (aV M d.size 0 [.s s,.s p]):=λhr o=>
  have g':=o.aV (b:=d.size) (bR V) 0 [.s s,.s p]
  ⟨s,p,I,O,Hn g',GK,h0.aV hr o V _ _,g'⟩
 refine(Jq a0 N hW B V).aP λi G⟨lb,ok,e,y,hA⟩=>⟨y.eW λa h=>(ar a h).1,(lb,0),ok,e,λ_=>?_,λbK=>?_⟩
 .intro m8
  exact be ((h6.ext y).aP V) (u6.cg y)
 obtain⟨_,jl,ro,sl,ak,bW,h7,i7⟩:=hA cB
 intro m8
 have x8:=px m8
 have g8:GI f G m8 (.mk G.size 0 0 0) []:=GI.gN f G
 have z7:=y.aQ
 have bz:=xe q.eY.bA
 have aM:=Zm q.eY.bA C.toNat
 have N0:=i7.aT 0 cD
 have u7:Fz [c] m G:=u6.cg y
 have aI:∀l∈f,l<G.size:=by grind [Fz.aQ]
 refine gL (n:=(ak 0).length) V (λag U M=>D G M/\∃F,GI f G M U F/\F.length<=ag/\∀J∈F,0<=J/\J<(((ak 0).length:Nat):Int)) ⟨x8,[],g8,bY,bO⟩ ?_
 rintro ag U m9 bs μ bG ⟨z,F,o,bJ,ae⟩ an
 have h9:=h7.ext z
 have l0:=h9.aT (k:=0) cD
 have au:∀a∈[g.size,d.size,m.size],a<m9.size/\a∉[c]:=by grind [D.lt]
 refine⟨_,h9.dx (k:=0) cD,λaX=>?_,λbC=>?_⟩
 .simp only[bg]at aX
  let⟨J,t⟩:=dU (ak 0) ag
  refine⟨_,h9.dx (k:=0) cD,V,V,J,h9.bt cD V t,λ_=>?_,λ_=>an V _ _ ⟨z,F,o,V,ae⟩⟩
  refine(wJ h9 i7 V (v:=(ag:Int)) V V).aP λi aA⟨Z,e,w⟩=>⟨w.eW λa h=>(au a h).1,Z,e,λ_=>?_,λ_=>an V _ _ ⟨z.J w,F,o.ext w,V,ae⟩⟩
  intro Q
  have gy:=o.cJ
  refine GI.nE (o.ext w) ((z.J w).fz []) V λR a_ W K _ X=>⟨D.sM ((z.J w).bZ _) K.ext (λa h=>y.lt (ar a h).1),an V _ _ ⟨K.ext,_,W,eX,λJ t=>?_⟩⟩
  rcases bU.1 t with t|t
  .exact ae J t
  .simp at t;omega
 .have bF:=o.aT cD
  have u9:Fz [c] m m9:=u7.cg z
  have r9:Rd c L (P+2) m9:=(h6.ext (y.J z)).aP V
  refine⟨λ_=>?_,λa1=>?_⟩
  .grind [Rd.aP]
  simp only[ba]at a1
  have gy:=o.cJ
  have gb:U.bu∉[c]:=by simp;have:=u7.aQ;omega
  refine(dW r9 V (U.len:Int)).aP λi aA⟨al,e,i0,i1,aG,AU⟩=>⟨AU.eW au,al,e,i0,V,?_⟩
  let⟨w,az⟩:=dU F al.toNat
  let⟨w0,w1⟩:=ae w (aZ az)
  have aO:aS m9 U.bu (U.off+al.toNat*1)=some (vi w):=((o.cy aI V).le fL).bt az
  refine⟨w,(bE (AU.bG _ gy.2 gb) _).trans aO,?_⟩
  have bf:=u9.J AU
  have ca:=AU.aQ
  have aU:∀a∈[g.size,d.size,m.size],a<aA.size/\a∉[c]:=cB
  have ew:eI (eI ((a.len:Int) -C)+1)=(a.len:Int) -C+1:=by rw[de (b:=(a.len:Int) -C) V V,iz]
  rw[ew]
  refine(dW aG V _).aP λi Q⟨i2,e,bQ,bS,aH,aj⟩=>⟨aj.eW aU,i2,e,?_⟩
  have bi:=bf.J aj
  have cb:=aj.aQ
  have ap:∀a∈[g.size,d.size,m.size],a<Q.size:=cB
  have ac:∀{M:bh},Q.size<=M.size->∀l∈g.size::d.size::f,l<M.size:=λhz l A=>by
   simp only[bo]at A;grind [Fz.aQ]
  have bk:Fz [c] g Q:=(((((x5.fz _).J z6).cg y).cg z).J AU).J aj
  have aL:=c3.le (bk.fj λl A=>by simp at A;subst A;simp[aw])
  obtain⟨jn,aP⟩:∃jn:Nat,C=jn:=⟨C.toNat,V⟩
  obtain⟨kn,aT⟩:∃kn:Nat,i2=kn:=⟨i2.toNat,V⟩
  subst aP aT
  have a7:jn+kn<=q.eY.bA.length:=V
  have aF:eI ((jn:Int)+(kn:Int))=((jn+kn:Nat):Int):=by grind [de]
  simp only[fR]at N0 aM
  let⟨a9,r0,r1⟩:=a8.cw
  have bA:dc (q.eY.bA.take jn)<=dc (q.eY.bA.take (jn+kn)):=by
   have:=Zm (q.eY.bA.take (jn+kn)) jn;rwa[aao,mH V]at this
  let⟨bn,bl,bq⟩:=aaj (j:=jn+kn) (a:=15) (v:=w) a9 cD ⟨w0,V⟩
  have a6:(q.eY.bA.take (jn+kn)++[iX 15 w]++q.eY.bA.drop (jn+kn)).take jn=q.eY.bA.take jn:=by
   rw[nB,rC eX,aao,mH V]
  let⟨bp,bm,br⟩:=aaj (j:=jn) (a:=14) (v:=w) bn cD ⟨w0,by rw[a6];omega⟩
  generalize ay:q.eY.bA.take (jn+kn)++[iX 15 w]++q.eY.bA.drop (jn+kn)=st1 at*
  have bH:st1.length=q.eY.bA.length+1:=by rw[<-ay];simp;omega
  have K:∀{M X:bh},D M X->Q.size<=M.size->∀a∈[g.size,d.size,m.size],∀H,aS X a H=aS M a H:=λxx hz a h H=>bE (xx.bG a (cr (ap a h) hz)) H
  have kS:∀{M X:bh},D M X->Q.size<=M.size->gS [g.size,d.size,m.size] M X:=λxx hz a h=>xx.bG a (cr (ap a h) hz)
  rw[aF]
  refine(lJ (c:=g.size::d.size::f) (ac bY) 15 w).aP λi a_⟨bt,bT,e,aJ,aQ,J⟩=>⟨kS J bY,_,_,_,_,_,e,K J bY _ bO _,K J bY _ bO _,?_⟩
  have aE:=J.aQ
  refine(Fu (d:=g.size::d.size::f) (P:=q.eY.bQ) (x:=iX 15 w) (ac aE) (aL.le J.fj) aJ aQ a7 V).aP λi bb⟨bd,e,ax,ai⟩=>⟨kS ai aE,_,_,e,?_⟩
  rw[ay]at ax
  intro ah
  have b5:=ai.aQ
  have b6:ah.size=bb.size:=bD _ _ _ _
  have aB:=(bi.cg J).cg ai
  have bj:Fz [c] m ah:=aB.aV (bR V) _ _
  have bc:Rd c L (P+2+1+1) ah:=h0.aV ((aH.ext J).ext ai) aB V _ _
  have a4:iN (dA (g.size::d.size::f) ah) bd st1:=ax.le (dV bO λ_ ab=>ab)
  refine(lJ (c:=g.size::d.size::f) (ac V) 14 w).aP λi bX⟨bu,bV,e,aK,aR,t⟩=>⟨kS t V,_,_,_,_,_,e,K t V _ bO _,K t V _ bO _,K t V _ bO _,K t V _ bO _,?_⟩
  have b7:=t.aQ
  refine(Fu (d:=g.size::d.size::f) (P:=q.eY.bQ) (x:=iX 14 w) (ac V) (a4.le t.fj) aK aR (e:=jn) V V).aP λi bZ⟨b3,e,a5,W⟩=>⟨kS W V,_,_,e,K W V _ bO _,K W V _ bO _,?_⟩
  have b8:=W.aQ
  have aC:=(bj.cg t).cg W
  refine(JJ (d:=g.size::d.size::f) (ac V) (j:=.mk (st1.take jn++[iX 14 w]++st1.drop jn) q.eY.bQ) (hn.le (HS g.size V aC)) B ⟨av,aq⟩ a5).aP λi b0⟨d',R,T,e,aY,a3,ao⟩=>⟨kS ao V,d',R,e,?_⟩
  intro b1
  have aD:=aC.cg ao
  refine⟨d',R,T,O,aY.le (dV bO λl A=>by simp[A]),?_,h0.aV (((bc.ext t).ext W).ext ao) aD V _ _,aD.aV (bR V) _ _⟩
  subst a3
  refine⟨by simp;exact N.ju,λq' a2=>?_⟩
  rw[pJ]
  rcases jc a2 with ab|ab
  .exact GK.eR q' ab
  .subst ab
   refine⟨av,aq,.of bp ⟨r0,by rw[bm,bl];exact r1⟩,?_⟩
   show Bk.w (.mk _ _)<=_
   rw[Bk.vt,br,bq];omega
section
variable{d:bh}{t:E}{b:Bk}{g x:Int}{e:ad}{h f c:Nat}
def tY(e:iN d t b.bA):wU 282 [.agg #[t.v,vi b.bQ]] d λc=>0<=c/\c<=b.bA.length/\∀(i:Nat)(x:eM),b.bA[i]? =some x->(i:Int)<c->14<=x.op/\x.op<=17:=by
 apply Dm;simp -zeta only[dR];intro a;have s:=px a;have m:∀k∈[d.size],k<a.size:=by simp[a]
 have o:=e.aT;refine gP (o▸e.kM) (λc M=>D a M/\∀(i:Nat)(x:eM),b.bA[i]? =some x->i<c->14<=x.op/\x.op<=17) ⟨cY,λi x _ h=>V⟩ ?_;rintro c M I μ C ⟨j,A⟩ q
 have u:=s.J j;have R:∀{g:bh},D d g->∃n:Int,vi (c:Int)=vi n/\(0<=n/\n<=b.bA.length/\∀(i:Nat)(x:eM),b.bA[i]? =some x->(i:Int)<n->14<=x.op/\x.op<=17)/\D d g:=cB;refine⟨λh=>?_,λh=>R u⟩;simp only[bg]at h;let⟨x,p⟩:=dU b.bA c;obtain⟨f,H,y,E,l,_⟩:=e.bt p;refine⟨V,V,_,u.aS l,?_⟩;refine(xI x.op M).bL j m λw J z v r=>⟨_,O,λF=>q V _ ⟨r,λi K G B=>?_⟩,λ_=>R (u.J v)⟩;grind
def Ic(a:iN d t b.bA){o:Int}(G:0<=g/\g<=b.bA.length)(r:∀(k:Nat)(s:eM),b.bA[k]? =some s->(k:Int)<g->0<s.aO.length):
 wU 283 [.agg #[t.v,vi b.bQ],vi g,vi o,vi x] d λc=>-1<=c/\(0<=c->c<g/\∃s:eM,b.bA[c.toNat]? =some s/\s.op=o/\s.aO[0]? =some x):=by
 apply Ll
 simp -zeta only[dR]
 intro l
 have y:=px l
 have J:=a.aT
 have F:=a.kM
 obtain⟨m,v⟩:∃m:Nat,g=m:=⟨g.toNat,V⟩
 subst v
 refine gP V (λc M=>D l M) cY ?_
 rintro c M I μ C e n
 have u:=y.J e
 refine⟨λh=>?_,λh=>⟨-1,O,⟨V,λh=>V⟩,u⟩⟩
 simp only[bg]at h
 let⟨s,j⟩:=dU b.bA c
 let⟨f,L,i,E,p,g1,g2,q,A⟩:=a.bt j
 have B:=i.aT
 have:=r c s j V
 let⟨z,w⟩:=dU s.aO 0
 refine⟨V,V,_,u.aS p,λH=>⟨V,V,_,u.aS q,cD,V,z,(i.ext u).bt w,λK=>?_,λ_=>n V _ e⟩,λ_=>n V _ e⟩
 grind
def TD(e:iN d t b.bA){a:Int}(y:0<=a/\a<=b.bA.length):wU 316 [.agg #[t.v,vi b.bQ],vi a,vi g] d λc=>-1<=c/\c<b.bA.length:=by
 apply MB;simp -zeta only[dR];intro j;have p:=px j;have m:=e.aT;obtain⟨h,l⟩:∃h:Nat,a=h:=⟨a.toNat,V⟩;subst l;refine abH V (m▸e.kM) (λc M=>D j M) cY ?_;rintro c M I μ _ w k o
 have u:=p.J k;refine⟨λi=>?_,λi=>⟨-1,O,⟨V,V⟩,u⟩⟩;simp only[bg]at i;let⟨A,n⟩:=dU b.bA c;let⟨f,z,v,x,q,g1,g2,r,s⟩:=e.bt n;have N:=o V _ k
 grind [D.aS]
def MD(b:Bk)(hS:∀k∈e,k<d.size)(u:iN d t b.bA)(Z:b.w<=10^12):bK dO 294 [.agg #[t.v,vi b.bQ]] d λab v=>∃s,ab=.agg #[s.v,vi b.bQ]/\GS e d v s b.bA/\D d v:=by
 let⟨bA,p⟩:=b;rw[Bk.vt]at Z;simp only[Bk.mV,Bk.lV]at*;apply vk;simp -zeta only[dR];intro g f h E o;let⟨x1,W⟩:=fU (a:=g) (c:=f) O O;have s0:=pz g;have s1:f.size=d.size+2:=cB;have s2:=pz h;have s3:=pz E;have F:D h o:=by grind [D.push,D.aV]
 have ac:D f o:=(D.push f _).J F;have q:GS (h.size::g.size::e) f o (.mk f.size 0 0 0) []:=(GS.bF _ f).ext j9.aP F;have H:dF o h.size fm [.s (.mk f.size 0 0 0),.i p]:=dF.aV (m:=E) (dF.push h _ _);have Q:∀k∈g.size::e,k<f.size:=by grind [dD,D.aQ]
 have Y:=u.aT;have ae:=jQ bA;refine gP (Y▸u.kM) (λc M=>D f M/\∃s,GS (h.size::g.size::e) f M s (bA.take c)/\dF M h.size fm [.s s,.i p]) ⟨ac,_,q,H⟩ ?_;rintro c w ad μ hk ⟨z,s,n,B⟩ aa
 have j:=x1.J z;have X:∀b∈[g.size,d.size],b<w.size:=by grind [D.lt]
 have hy:=n.cJ;have z5:=z.aQ;have A:=B.lt;refine dit (λP=>?_) λP=>?_
 .let⟨x,C⟩:=dU bA c;let⟨pa,pk,R,U,q,g1,g2,M,N⟩:=u.bt C;have af:=TM C;refine⟨s,B.dx 0,V,V,_,j.aS q,_,j.aS g1,_,j.aS g2,_,j.aS M,_,j.aS N,?_⟩;refine(Cv (dD (dD Q z5 A) bY hy.2) (R.ext j) (U.le j.le) V (λb _=>Au b)).bL (D.cT w) X λI J x' y S T K l _=>⟨_,_,_,_,_,O,bE (l.bG _ A) _,?_⟩;subst K;intro m7;refine Gr.bV (h:=[.i 0,.i 0,.i 0,.s .nil,.s .nil]) (j:=0) (o:=[.s s,.i p]) (v:=x) j9.aP cD (n.ext j9.aP l) ((z.J l).fz []) ⟨I,J,O,S,T⟩ cB (B.ext l) bO cD ⟨V,bO⟩ (λk r=>by have G:=W k r;have L:=l.aQ;omega) λr' v g' G L z' q'=>aa V _ ⟨L.ext,r',?_,G⟩
  grind [bX]
 .rw[eQ V]at n;refine⟨s,B.dx 0,p,B.dx 1,?_⟩;intro y;have l:Fz [g.size] w y:=by grind [Fz.cT,Fz.aV]
  have C:GS e f y s bA:=n.re j9.aP l bO cB λk r=>bC (by simp[r]);grind [Gr.cV,j9.aP,D.aV]
def aak{d:af}{b:Prop}{l:au}(i:WL d h b f l){x a:eM}(e:l[c]? =some x)(o:WS d h b (f+dc (l.take c)) a)(hd:dn a=dn x):
 WL d h b f (l.set c a)/\dc (l.set c a)=dc l/\sw (l.set c a)+x.w=sw l+a.w:=by
 have n:=br e
 have j:l.set c a=l.take c++([a]++l.drop (c+1)):=by rw[List.set_eq_take_append_cons_drop,bn n];rfl
 have g:l=l.take c++([x]++l.drop (c+1)):=by
  let⟨k,m⟩:=mP.1 e;rw[<-m];show l=l.take c++(l[c]::l.drop (c+1));rw[<-HG k,j8]
 have p:dc l=dc (l.take c)+(dn x+dc (l.drop (c+1))):=by
  conv=>lhs;rw[g]
  rw[fg,fg,nM,xf];omega
 have q:sw l=sw (l.take c)+(x.w+sw (l.drop (c+1))):=by
  conv=>lhs;rw[g]
  rw[gF,gF,qu,zH];omega
 rw[j]
 refine⟨(i.Nh c).fw ((WL.mM o).fw ?_),?_,?_⟩
 .have:=i.Bc (c+1)
  rw[uK e]at this
  rw[nM,xf,hd,uh,iv];exact this
 .rw[fg,fg,nM,xf];omega
 .rw[gF,gF,qu,zH];omega
def _root_.Go.Vc.Gr.jH{α:Type}{q:bh}{j b:Nat}{R:bh->ae->α->Prop}{s:E}{l:List α}(k:Gr e q d j b R s l){x:α}(o:l[c]? =some x):∃a,R (dA (s.bu::e) d) a x/\jF d s.bu (s.off+c*b) a:=by
 let⟨r,i,m,f⟩:=k;let⟨a,g⟩:=dU i c cB;refine⟨a,f.eR c a x g o,λp h n=>?_⟩;have:=m.kY (c*b+p) h (js f.aQ g n);grind [Nat.add_assoc]
def OJ(hS:∀c∈e,c<d.size)(q:iN d t b.bA){I:af}(ah:WB I h True f b)(hw:b.w<=10^12)(hx:0<=x/\x<(f:Int))(aR:f<=10^12)(g:Int):
 bK dO 281 [.agg #[E.v t,vi b.bQ],vi x,vi g] d λU Q=>∃s l,U=.agg #[E.v s,vi l.bQ]/\iN Q s l.bA/\(iN (dA e d) t b.bA->iN (dA e Q) s l.bA)/\(WB I h True f l/\l.w<=b.w)/\D d Q:=by
 apply Hr
 simp -zeta only[kJ]
 intro m r
 let⟨w,o⟩:=fU (a:=m) (c:=r) O O
 have s1:=pz m
 have s2:r.size=d.size+2:=by simp[r,s1]
 let⟨N,aE⟩:=ah.cw
 have z:∀{Y Z:bh},D r Y->D r Z->∀A,aS Z d.size A=aS Y d.size A:=λn h' A=>bE (by rw[h'.bG _ (o _ bO),n.bG _ (o _ bO)]) A
 refine(tY (q.le w.le)).bL (D.cT r) o λn1 m3 L H _=>⟨_,O,z cY H _,z cY H _,?_⟩
 refine(Ic (q.le (w.J H).le) ⟨L.1,L.2.1⟩ λai s hi az=>?_).bL H o λn2 m4 aA x4 C=>⟨_,O,?_⟩
 .have:=L.2.2 ai s hi az
  have:=(N ai s hi).iY.mM V
  omega
 refine(tY (q.le (w.J C).le)).bL C o λn3 m5 ag x5 F=>⟨_,O,z C F _,z C F _,?_⟩
 refine(TD (q.le (w.J F).le) ⟨ag.1,ag.2.1⟩).bL F o λn4 u a1 x6 v6=>⟨_,O,?_⟩
 have T:=w.J v6
 have am:∃s l,Value.agg #[E.v t,vi b.bQ]=.agg #[E.v s,vi l.bQ]/\iN (aV u m.size 0 [.s t,.i b.bQ]) s l.bA/\(iN (dA e d) t b.bA->iN (dA e (aV u m.size 0 [.s t,.i b.bQ])) s l.bA)/\(WB I h True f l/\l.w<=b.w)/\D d (aV u m.size 0 [.s t,.i b.bQ]):=
  have J:=T.aV V 0 [.s t,.i b.bQ]
  ⟨t,b,O,q.le J.le,λn=>n.le J.fj,⟨ah,bY⟩,J⟩
 refine⟨λ_=>am,λh2=>⟨λ_=>am,λh4=>?_⟩⟩
 simp only[dk]at h2 h4
 have z6:=v6.aQ
 have ac:∀c∈m.size::e,c<u.size:=λc i=>by
  rcases bo.1 i with j|j
  .omega
  .have:=hS c j;omega
 refine(MD b ac (q.le T.le) hw).aP λU m7⟨B,j,g7,W⟩=>⟨λc i=>W.bG c (oh (o c i)),_,_,j,?_⟩
 intro m8 m9
 obtain⟨x9,s9⟩:=pv m9
 have y7:=g7.cJ
 have z7:=W.aQ
 have g9:=g7.ext j9.aP x9
 have ae:∀c∈[m7.size,m.size,d.size],c<m9.size/\c≠B.bu:=λc i=>by simp at i;omega
 refine(lJ (c:=B.bu::m.size::e) (λc i=>?_) 17 x).aP λU ak⟨aa,aj,j,ax,ay,v⟩=>⟨λc i=>v.bG c (ae c i).1,_,_,_,_,_,j,bE (v.bG _ V) _,?_⟩
 .rcases bo.1 i with j|j
  .omega
  .have:=ac c j;omega
 have ab:=g9.ext j9.aP v
 have a6:=ab.aT cD
 let⟨a0,R,M,a2,aT⟩:=aA.2 V
 have ao:D u ak:=(W.J x9).J v
 have aB:=br M
 let⟨aL,K,ar,aJ⟩:=Gr.dX (k:=n2.toNat) (cs:=[.i 17,.i 0,.i 0,.s aa,.s aj]) (a:=iX 17 x) j9.aP ab (ao.fz []) aB ⟨aa,aj,O,ax,ay⟩
 refine⟨V,V,aL,?_⟩
 intro aG
 have AU:=v.aQ
 have a8:aG.size=ak.size:=bD _ _ _ _
 refine⟨λc i=>aJ c (ae c i).2,V,V,?_⟩
 have aF:=N _ R M
 have w1:=aF.iY.mM (bC V)
 have d1:dn (iX 17 x)=dn R:=by
  unfold dn;rw[aW (λn:tr _=>by have:=n.2;simp only[iX]at this;omega),aW (λn:tr _=>oh n.2)]
 let⟨an,aN,a_⟩:=aak N M (It cD ⟨hx.1,V⟩) d1
 have a4:=eM.pP R
 have aY:(iX 17 x).w=2:=rfl
 let⟨y,P⟩:=dU (b.bA.set n2.toNat (iX 17 x)) n4.toNat eX
 have aZ:=K.aT cD
 obtain⟨aQ,⟨pa,pk,rfl,aC,aD⟩,mu⟩:=K.jH P
 have e0:=mu 0 _ O;have e1:=mu 1 _ O;have e2:=mu 2 _ O;have e3:=mu 3 _ O;have e4:=mu 4 _ O
 refine⟨_,e0,_,e1,_,e2,_,e3,_,e4,?_⟩
 intro a7 aH
 obtain⟨G,a9⟩:=pv aH
 have av:=K.ext j9.aP G
 have aq:eI (1+x)=1+x:=de V V
 rw[aq]
 have ap:=(ar.cg G)
 let⟨aM,aw,au,aK⟩:=Gr.dX (k:=n4.toNat) (a:=⟨y.op,y.cE,1+x,y.aO,y.dv⟩) j9.aP av ap eX ⟨pa,pk,O,be.le G.fj aC,rO.le G.fj aD⟩
 refine⟨V,V,aM,?_⟩
 intro al
 have p:=an _ y P
 let⟨aP,aO,ba⟩:=aak (a:=⟨y.op,y.cE,1+x,y.aO,y.dv⟩) an P ⟨⟨p.iY.op,p.iY.aO,p.iY.mM,⟨by show 0<=1+x;omega,by show 1+x<=_;omega⟩,p.iY.Nj,p.iY.lY,p.iY.jE⟩,p.dv⟩ O
 refine⟨λc i=>aK c (by simp at i;omega),?_⟩
 intro aI
 have a5:(⟨y.op,y.cE,1+x,y.aO,y.dv⟩:eM).w=y.w:=rfl
 have aU:=Bk.pP b
 have a3:=jQ b.bA
 have X:iN (dA (m.size::e) al) B _:=aw.rS j9.aP (S:=m.size::e) (λi=>by
  rcases bo.1 i with j|j
  .omega
  .have:=hS _ j;omega) cD eX
 have ad:Le (dA (m.size::e) al) (dA e aI):=dV bO λc i=>aX _ i
 refine⟨B,.mk _ b.bQ,O,(X.le ad).le fL,λ_=>X.le ad,⟨.of aP (by rw[aO,aN];exact aE),?_⟩,(T.J au.ext).aV V _ _⟩
 rw[Bk.vt];omega
end
def Y6(c:af)(d:List j7)(N:Nat):Prop:=∀(b:Bk),b.w<=N->∀(S:ad)(m:bh),(∀a∈S,a<m.size)->∀(f r t eO:E)(l:ab)(a:Nat),iF m f r c d->iN m t b.bA->be m eO l->WB c d.length True a b->a+4*b.w<=10^12->l.length+4*b.w<=10^12->
 rD 233 [.agg #[f.v,r.v],.agg #[t.v,vi b.bQ],eO.v] m S λe=>WB c d.length True a e/\e.w<=b.w
def OK{z:ad}{f:bh}(hS:∀c∈z,c<f.size){Q ac pa pk eO:E}{h:af}{u:List j7}{a:eM}{t:ab}{A:Nat}(p:iF f Q ac h u)(ha:be f pa a.aO)(hk:rO f pk a.dv)(C:be f eO t)(X:WS h u.length True A a)(hb:A+4*a.w<=10^12)(aR:t.length+4*a.w<=10^12){k:Nat}{i:Bk}(T:a.dv[k]? =some i)(ih:Y6 h u i.w):
 rD 254 [.agg #[Q.v,ac.v],tn a pa pk,vi k,eO.v] f z λj=>WB h u.length True (A+FY h a.op a.cE k) j/\j.w<=i.w:=by
 apply Hs
 simp -zeta only[dR]
 intro aa r b
 let⟨d,hl,s1,g,s3⟩:=uj (a:=aa) (c:=r) (d:=b) O O O
 let⟨ah,ht,f0,f1⟩:=hk.bt T
 have aP:=br T
 have aQ:=hk.aT
 have aM:=ha.aT
 have aW:=eM.pP a
 have aO:=Ba T
 have ae:=X.dv k i T
 have ay:∀{M:bh},D b M->∀c∈r.size::z,c<M.size:=λxx c o=>by
  grind [D.aQ]
 have kG:∀(M:bh)(Y s:E)(Z:ab)(j:Bk)(Lx:ad),D f M->D b M->(∀c∈Lx,c<M.size)->iN M s j.bA->be M Y Z->Z.length<=t.length+1->WB h u.length True (A+FY h a.op a.cE k) j->j.w<=i.w->
  bK dO 233 [.agg #[Q.v,ac.v],.agg #[s.v,vi j.bQ],Y.v] M λv q=>gS Lx M q/\∃(g:E)(b2:Bk),v=.agg #[g.v,vi b2.bQ]/\∀P,P=aV q r.size 0 [.s g,.i b2.bQ]->∃s3 b3,(Value.agg #[g.v,vi b2.bQ])=.agg #[s3.v,vi b3.bQ]/\iN (dA z P) s3 b3.bA/\(WB h u.length True (A+FY h a.op a.cE k) b3/\b3.w<=i.w)/\D f P:=λM Y s Z j Lx xm aK aw hs aC aT aH aG=>by
  have h3:=VW p.dm a.op a.cE k
  refine(ih j aG (r.size::z) M (ay aK) Q ac s Y Z _ (p.le xm.le) hs aC aH V V).aP λv q⟨g,b2,e,aE,az,x'⟩=>⟨x'.eW aw,g,b2,e,λP ax=>⟨g,b2,O,?_,⟨az.1,V⟩,?_⟩⟩
  .rw[ax];exact aE.le (dV bO λc o=>aX _ o)
  .grind [D.J,D.aV]
 refine⟨λR=>?_,λR=>?_⟩
 .refine⟨V,V,_,d.aS f0,_,d.aS f1,?_⟩
  refine(kG b eO ah t i _ d cY hl (ht.le d.le) (C.ext d) V ae bY).aP λv q⟨n,g,b2,e,h2⟩=>⟨n,_,_,e,?_⟩
  grind
 .have R:a.op=8:=cB
  obtain⟨aN,_⟩:=X.iY.lY R
  have aL:=X.iY.mM (bR (bR R))
  let⟨y,hy⟩:=dU a.aO 0
  let⟨y0,y1⟩:=X.iY.aO y (aZ hy)
  refine⟨cD,V,y,(ha.ext d).bt hy,V,V,_,d.aS f0,_,d.aS f1,?_⟩
  intro m4 I
  have x5:D b I:=by grind [D.push,D.aV]
  have s5:I.size=b.size+1:=by grind [bD]
  have J:=d.J x5
  have G:∀{M:bh},D I M->∀c∈[b.size,r.size,aa.size,f.size],c<M.size:=λxx c o=>by have:=xx.aQ;simp at o;omega
  refine(fH (C.ext J) y).jY.bL (D.cT I) (G cY) λbb m6 l _=>⟨_,O,λ_=>?_,λ_=>?_⟩
  .have K:=J.J l
   let⟨cn,aA⟩:=dU (cX h a.cE) k
   have w:∀{M M':bh},D I M->D M M'->∀c∈[b.size,r.size,aa.size,f.size],∀ao,aS M' c ao=aS M c ao:=by grind [bE,D.bG]
   refine(kO (e:=[]) bO (p.bT.le K.le) p.dm a.cE).bL l (G cY) λs7 l7 m7 W e x7 v7=>⟨_,O,w l x7 _ bO _,w l x7 _ bO _,w l x7 _ bO _,?_⟩
   subst e
   have W:=W.le fL
   have l7:=W.aT
   refine⟨V,V,cn,W.bt aA,?_⟩
   refine(fV (e:=[]) (p.bT.le ((J.J v7).le.J Ev)) p.dm cn).bL v7 (G cY) λs8 l8 m8 aU e x8 v8=>⟨_,O,w v7 x8 _ bO _,w v7 x8 _ bO _,?_⟩
   subst e
   have z8:=v8.aQ
   have h3:=VW p.dm a.op a.cE k
   have ak:iN (dA [b.size] m8) ah i.bA:=ht.le ((Ev (m:=f)).J ((J.J v8).dA λc o=>bR cB))
   refine(OJ (e:=[b.size]) cB (ak.le fL) ae V (x:=y) ⟨y0,V⟩ V (s8.len:Int)).aP λv m9⟨s9,b9,e,_,aF,B,x9⟩=>⟨λc o=>x9.bG c (G v8 c o),_,_,e,?_⟩
   intro H
   have v9:=v8.J x9
   have aj:D b H:=by grind [D.J,D.aV]
   have U:iN H s9 b9.bA:=((aF ak).le (dV (a:=[b.size]) bO λ_ F=>F)).le fL
   have a2:H.size=m9.size:=bD _ _ _ _
   have F:∀{M:bh},H.size<=M.size->∀c∈[b.size,r.size,aa.size,f.size],c<M.size:=cB
   refine(tY U).bL (D.cT H) (F bY) λa0 aY ag au _=>⟨_,O,?_⟩
   obtain⟨aI,_⟩:=B.1.cw
   refine(Ic (U.le au.le) (o:=17) (x:=y) ⟨ag.1,ag.2.1⟩ λal s hj aD=>?_).bL au (F bY) λa1 aJ _ a3 L=>⟨_,O,λ_=>?_,λ_=>?_⟩
   .have:=ag.2.2 al s hj aD
    have:=(aI al s hj).iY.mM V
    omega
   .have N:=aj.J L
    refine(pU (S:=[]) bO ((C.ext (d.J N)).le Ev) y V).bL L (F bY) λaq am an av ap a4 ai=>⟨_,O,?_⟩
    have ar:=aj.J ai
    have aB:be an aq am:=(av.cy bO (oh ap.2)).le fL
    refine(kG an aq s9 am b9 _ (d.J ar) ar (F ai.aQ) (U.le ai.le) aB ap.2 B.1 B.2).aP λv q⟨n,g,b2,e,h2⟩=>⟨n,_,_,e,?_⟩
    grind
   .have N:=aj.J L
    refine(kG aJ eO s9 t b9 _ (d.J N) N (F L.aQ) (U.le L.le) (C.ext (d.J N)) V B.1 B.2).aP λv q⟨n,g,b2,e,h2⟩=>⟨n,_,_,e,?_⟩
    grind
  .have K:=J.J l
   refine(kG m6 eO ah t i _ K (x5.J l) (G l) (ht.le K.le) (C.ext K) V ae bY).aP λv q⟨n,g,b2,e,h2⟩=>⟨n,_,_,e,?_⟩
   grind
section
variable{b:List j7}
theorem Y6.iU{c:af}{N a:Nat}(h:Y6 c b N)(e:a<=N):Y6 c b a:=λd f=>h d (fC f e)
def Lh{A:af}:∀N:Nat,Y6 A b N:=by
 intro N;induction N with
 |zero=>intro p hb;have:=p.NO;omega
 |succ N l=>
 intro p hb h ad hS aw aO aP eO aM Z hn U ak ap ay aC;let⟨bA,y⟩:=p;have ac:=ap.cw;rw[Bk.vt]at*;simp only[Bk.mV,Bk.lV]at*;apply Dt;simp -zeta only[kJ,nO];intro X f j g m5 G;let⟨x3,hl,s1,s2,s3⟩:=uj (a:=X) (c:=f) (d:=j) O O O;have s4:=pz g;have ae:=py G;have au:D j G:=(D.push j _).J ae;have g0:GS (g.size::f.size::h) j G (.mk j.size 0 0 0) []:=(GS.bF _ j).ext j9.aP ae;have B0:dF G g.size fm [.s (.mk j.size 0 0 0),.i y]:=dF.aV (m:=m5) (dF.push g _ _);have ah:∀c∈f.size::h,c<j.size:=dD hS x3.aQ (hl _ bO);have al:=U.aT;have an:=FL bA;have aG:=jQ bA;refine gP (al▸U.kM) (λk M=>D j M/\∃s n,GS (g.size::f.size::h) j M s n/\dF M g.size fm [.s s,.i y]/\n.length=k/\WL A b.length True Z n/\dc n=dc (bA.take k)/\sw n<=sw (bA.take k)) ⟨au,_,[],g0,B0,O,WL.gN,bO,bO⟩ ?_;rintro k M av μ hk ⟨xM,s,n,C,B,aE,wl,F,ao⟩ ar
 have v:=x3.J xM;have hy:=C.cJ;have ax:=B.lt;refine dit (λE=>?_) λE=>?_
 .let⟨x,u⟩:=dU bA k;let⟨pa,pk,ha,Q,e0,e1,e2,e3,e4⟩:=U.bt u;have aJ:=TM u;have aL:=eM.pP x;have az:=wZ x.dv;have aK:=ua u;have aI:=uK u;have W:=ac.1 k x u;have aB:=xe (bA.take k);have aF:=jQ (bA.take k);have aH:=an (k+1);refine⟨V,V,_,v.aS e0,_,v.aS e1,_,v.aS e2,_,v.aS e3,_,v.aS e4,?_⟩;intro m7 o m9;obtain⟨x8,s8⟩:=pv o;have x9:=px m9;have ag:GB (s.bu::g.size::f.size::h) o m9 (.mk o.size 0 0 0) []:=GB.bF o;have P:∀c∈s.bu::g.size::f.size::h,c<o.size:=λc d=>by
   simp only[bo]at d;rcases d with e|e|e|e
   .omega
   .omega
   .omega
   .have:=hS c e;omega
  have R:=Q.aT;refine gL (R▸Q.kM) (λw ks r=>D o r/\∃lk,GB (s.bu::g.size::f.size::h) o r ks lk/\lk.length=w/\(∀(q:Nat)(p:Bk),lk[q]? =some p->WB A b.length True (Z+dc (bA.take k)+FY A x.op x.cE q) p)/\bw lk<=bw (x.dv.take w)) ⟨x9,[],ag,O,bO,bO⟩ ?_;rintro w ks I I2 μ2 hj ⟨z,lk,K,aD,ab,aj⟩ aq;have t:=v.J (x8.J z);have yk:=K.cJ;have z2:=z.aQ;have T:∀{r:bh},o.size<=r.size->∀c∈[M.size,f.size,X.size,ad.size],c<r.size:=λE c d=>by simp at d;omega
  refine dit (λh2=>?_) λh2=>?_
  .let⟨p,H⟩:=dU x.dv w;have aA:=Ba H;have ai:=yL H;refine(OK (z:=ks.bu::s.bu::g.size::f.size::h) (λc d=>?_) (hn.le t.le) (ha.ext t) (Q.le t.le) (ak.ext t) W V V H (l.iU V)).bL (D.cT I) (T z2) λss b' aN am aa Y _=>⟨_,_,O,?_⟩
   .rcases bo.1 d with e|e
    .omega
    .have:=P c e;omega
   refine GB.nE (K.ext vw.aP Y) ((z.J Y).fz []) am V λr' r g2 f2 aQ q2=>⟨D.sM ((z.J Y).bZ _) f2.ext (T bY),aq V _ _ ⟨f2.ext,_,g2,eX,λq b2 l=>?_,?_⟩⟩
   .rcases dJ q lk.length with J|J
    .rw[dY J]at l;exact ab q b2 l
    .rw[dP J]at l;have:q -lk.length=0:=by have:=br l;simp at this;omega
     rw[this]at l;simp at l;subst l;have:q=w:=V;subst this;exact aa.1
   .rw[sU,yK,DW,ai];have:=aa.2;omega
  .have aa:lk.length=x.dv.length:=V;rw[eQ V]at aj;have J:D M I:=x8.J z;have H:=B.ext J;have G2:=C.ext j9.aP J;refine⟨s,H.dx 0,?_⟩;refine(dB (s.bu::g.size::f.size::h) (ha.ext t) V).bL (D.cT I) (T z2) λs' l' ai ga e l _=>⟨_,O,bE (l.bG _ V) _,bE (l.bG _ V) _,bE (l.bG _ V) _,bE (l.bG _ H.lt) _,?_⟩;subst e;intro am;refine Gr.bV (h:=[.i 0,.i 0,.i 0,.s .nil,.s .nil]) (L:=[M.size,f.size,X.size,ad.size]) (j:=0) (w:=72) (o:=[.s s,.i y]) (v:=⟨x.op,x.cE,x.dh,x.aO,lk⟩) j9.aP cD (G2.ext j9.aP l) (((xM.J J).J l).fz []) ⟨s',ks,O,(ga.cy (λc d=>oh (P c d)) V),rO.le l.fj (K.cy vw.aP P cD (by show lk.length<=_;omega))⟩ V (H.ext l) bO cD ⟨V,bO⟩ (λc d=>by have Y:=l.aQ;simp at d;omega) λr' m' g' Y f' z' q'=>ar V _ ⟨f'.ext,r',_,g',Y,eX,wl.Dd (W.UM id W.iY.dh aa ab|>λE=>by rw[F];exact E),?_,?_⟩
   .rw[fg,nM,xf,F];have e:dn (⟨x.op,x.cE,x.dh,x.aO,lk⟩:eM)=dn x:=rfl;omega
   .rw[gF,qu,zH];have h5:(⟨x.op,x.cE,x.dh,x.aO,lk⟩:eM).w=1+x.aO.length+bw lk:=eM.pP _;omega
 .have R:k=bA.length:=V;subst R;rw[fu]at F ao;refine⟨s,B.dx 0,y,B.dx 1,?_⟩;intro m7;have l:Le (dA (g.size::f.size::h) M) (dA h m7):=dV bO λc d=>aX _ (aX _ d);have o:=C.ne B cD;refine⟨s,.mk n y,O,iN.le l (C.rS j9.aP (λd=>?_) cD (by show n.length<=_;omega)),⟨.of wl ((F▸ac.2)),by rw[Bk.vt];omega⟩,v.aV V _ _⟩;rcases bo.1 d with e|e
  .exact o e
  .have:=ah _ e;omega
def RK{f:ad}{m:bh}(I:∀c∈f,c<m.size){j r:E}{h:af}(i:iF m j r h b){W:Nat}(hW:W<=200000000000)(hk:CF h b True W):zg 197 [.agg #[j.v,r.v]] m f h λx=>CF h x True W:=by
 apply Li;simp -zeta only[dR];intro g a2;let⟨y,J⟩:=fU (a:=g) (c:=a2) O O;have s1:=pz g;have ak:=i.lI.aT;have av:=i.p7;refine(jJ (b:=g.size::f) (dD I y.aQ (J _ bO)) (i.le y.le).bT i.dm).aP λ_ L⟨dd,ab,ae,P⟩=>?_;subst ab;refine⟨P.eW J,_,O,?_⟩;intro N ao ap;have u2:=y.J P;let⟨x5,B0,g0,s3,s5⟩:=om (b:=N.size::g.size::f) ly.aP (d:=L) (a:=N) (c:=ao) (j:=ap) O O O;have K:∀c∈[g.size,m.size],c<L.size:=by grind [D.lt]
 have ac:∀c∈g.size::f,c<L.size:=λc w=>P.lt (dD I y.aQ (J _ bO) c w);refine nV (R:=λa d M=>∃j r x,Value.agg #[a.v,d.v]=.agg #[j.v,r.v]/\iF (dA f M) j r h x/\CF h x True W/\D m M) ly.aP cD cD I ⟨V,K _ bO⟩ u2 s3 ae ak V x5 B0 g0 (λ_ q=>q.aY.length<=3/\q.df.length<=3/\WB h b.length True q.aY.length q.eY/\q.eY.w<=W) (λa l aa n U X d e k=>⟨a,l,aa,O,⟨U,X,i.dm,V⟩,Mg hk.ju d e,k⟩) λan M st aa ar μ ag au Q T B aq=>?_
 let⟨q,hq⟩:=dU b an ag;let⟨aj,ai,am,hw⟩:=hk.eR q (aZ hq);have u:=u2.J Q;let⟨aw,ax,a,c1,c2,c3,z,A,F,p,s⟩:=i.lI.bt hq;have G:∀{v:Value}{a o:Nat},aS m a o=some v->aS M a o=some v:=λH=>u.aS H;refine⟨st,B.dx 1,V,V,_,G z,_,G A,_,G F,_,G p,_,G s,V,V,_,G p,_,G s,?_⟩;intro k;have hy:=T.cJ;have Y:=B.lt;have zM:=Q.aQ;obtain⟨d,s7⟩:=pu k;have ah:be k (.mk M.size 0 0 0) []:=pX;have e:∀{v:Value}{a o:Nat},aS m a o=some v->aS k a o=aS M a o:=by grind [D.aS]
 have C:∀{a o:Nat},a<M.size->aS k a o=aS M a o:=λH=>bE (d.bG _ H) _;have t:m.size<M.size:=by grind [D.lt]
 refine⟨e p,e s,C t,C t,C t,e z,e A,e F,e p,e s,C t,C Y,?_⟩;refine(Lh q.eY.w q.eY bY (st.bu::N.size::g.size::f) k (λc w=>?_) j r a (.mk M.size 0 0 0) [] q.aY.length (i.le (u.J d).le) (c3.le (u.J d).le) ah am V cB).bL (Q.J d) K λss b' M1 al Z l u1=>⟨_,_,O,?_⟩
 .grind
 have n:∀{v:Value}{a o:Nat},aS m a o=some v->aS M1 a o=aS k a o:=by grind [D.aS]
 refine⟨n z,n A,n F,n p,n s,bE (l.bG _ (d.lt t)) _,bE (l.bG _ (d.lt Y)) _,?_⟩;exact Ak ac (λc w=>by have U:=K c w;have X:=u1.aQ;omega) u1 (T.ext ly.aP (d.J l)) (B.ext (d.J l)) V (c1.ext (u.J (d.J l))) (c2.ext (u.J (d.J l))) al ⟨V,V⟩ V λs' X g' U x'=>aq s' X _ g' U x' ⟨aj,ai,Z.1,fC Z.2 hw⟩
end
section
variable{a:bh}{t:E}{b:Bk}{c:ad}
def Xi(a:Int)(l:au):Nat:=l.countP λs=>s.op=a
def adD:∀l:au,Xi 14 l+Xi 15 l<=l.length
 |[]=>by simp[Xi]
 |s::l=>by
  have:=adD l;grind [Xi,List.length_cons]
def Zl(a:Int)(l:au)(s:eM):Xi a (l++[s])=Xi a l+(if s.op=a then 1 else 0):=by
 simp[Xi,List.countP_append,List.countP_cons]
def MX(f:iN a t b.bA):wU 278 [.agg #[t.v,vi b.bQ]] a λk=>0<=k/\k<=b.bA.length/\∀(i:Nat)(c:eM),b.bA[i]? =some c->(i:Int)<k->c.op=14\/c.op=15:=by
 apply Fw;simp -zeta only[dR];intro d;have A:=px d;have r:∀m∈[a.size],m<d.size:=by simp[d]
 have s:=f.aT;refine gP (n:=b.bA.length) (s▸f.kM) (λk M=>D d M/\∀(i:Nat)(c:eM),b.bA[i]? =some c->i<k->c.op=14\/c.op=15) ⟨cY,λi c _ h=>V⟩ ?_;rintro k M I μ J ⟨j,G⟩ y
 have u:=A.J j;have R:∀{g:bh},D a g->∃e:Int,vi (k:Int)=vi e/\(0<=e/\e<=b.bA.length/\∀(i:Nat)(c:eM),b.bA[i]? =some c->(i:Int)<e->c.op=14\/c.op=15)/\D a g:=cB;refine⟨λh=>?_,λh=>R u⟩;simp only[bg]at h;let⟨c,v⟩:=dU b.bA k;let⟨l,w,E,K,o,g1,g2,p,q⟩:=f.bt v;refine⟨V,V,_,u.aS o,_,u.aS g1,_,u.aS g2,_,u.aS p,_,u.aS q,?_⟩;refine(Fb (x:=c) l w M).bL j r λC P F B z=>⟨_,O,λL=>y V _ ⟨z,λi Q N H=>?_⟩,λ_=>R (u.J B)⟩;grind
def Cs(Y:∀j∈c,j<a.size)(z:iN a t b.bA){e:Nat}(hm:e<=b.bA.length)(f:Int)(I:∀(i:Nat)(s:eM),b.bA[i]? =some s->i<e->0<s.aO.length)(hb:b.bA.length<=10^12):
 oA 279 [.agg #[t.v,vi b.bQ],vi e,vi f] a c λl=>(∀y∈l,∃(i:Nat)(s:eM),i<e/\b.bA[i]? =some s/\y∈s.aO)/\l.length<=Xi f (b.bA.take e):=by
 apply GQ
 simp -zeta only[dR]
 intro d A
 have C:=px d
 have K:∀j∈[a.size],j<d.size:=by simp[d]
 have P:=px A
 have H:GI c d A (.mk d.size 0 0 0) []:=GI.gN c d
 have ac:=z.aT
 refine gL (n:=e) V (λk s M=>D d M/\∃l,GI c d M s l/\(∀y∈l,∃(i:Nat)(s:eM),i<e/\b.bA[i]? =some s/\y∈s.aO)/\l.length<=Xi f (b.bA.take k)) ⟨P,[],H,bO,bO⟩ ?_
 rintro k s M R μ hk ⟨h,l,m,p,L⟩ B
 have u:=C.J h
 refine dit (λo=>?_) λo=>?_
 .let⟨x,r⟩:=dU b.bA k
  let⟨T,kk,w,ab,E,U,W,F,X⟩:=z.bt r
  have Z:=w.aT
  have:=I k x r V
  let⟨y,N⟩:=dU x.aO 0
  have J:Xi f (b.bA.take (k+1))=Xi f (b.bA.take k)+(if x.op=f then 1 else 0):=by rw[bX r,Zl]
  have aa:Xi f (b.bA.take k)<=(b.bA.take k).length:=List.countP_le_length
  have ad:=RO k b.bA
  refine⟨V,V,_,u.aS E,λq=>⟨V,V,_,u.aS F,cD,V,y,(w.ext u).bt N,?_⟩,λq=>B V _ _ ⟨h,l,m,p,?_⟩⟩
  .intro m3
   simp only[bP]at q
   rw[bn q]at J
   refine GI.nE m (h.fz []) V λae S G v _ _=>⟨D.sM (h.bZ _) v.ext K,B V _ _ ⟨v.ext,_,G,λQ g=>?_,eX⟩⟩
   rcases bU.1 g with g|g
   .exact p Q g
   grind [aZ]
  grind [beq_eq_false_iff_ne]
 .have g:k=e:=V
  subst g
  exact⟨s,l,O,m.cV (λ_ o=>o) C.aQ,⟨p,L⟩,u⟩
def Xj:∀{l:au},(∀x∈l,dn x=0)->dc l=0
 |[],_=>O
 |x::l,h=>by rw[nM,h x cK,Xj λy a=>h y (aX _ a)]
def Z9:∀{l:au},(∀x∈l,2<=x.w)->2*l.length<=sw l
 |[],_=>bO
 |x::l,h=>by
  have b:=h x cK;have c:=Z9 λy a=>h y (aX _ a);grind [qu,List.length_cons]
def QS(hS:∀e∈c,e<a.size){P:E}{o:ab}{ds:af}{nr f:Nat}(p:iN (dA c a) t b.bA)(hf:be a P o)(a5:o.length<=3)(ac:WB ds nr True (f+o.length) b)(hw:b.w<=100000000000)(ha:f<=10^12){g:Int}(hx:0<=g/\g<(f:Int)):
 rD 253 [.agg #[t.v,vi b.bQ],vi g,P.v,vi f] a c λb'=>WB ds nr True (f+o.length) b'/\b'.w<=b.w+8:=by
 apply Ju
 simp -zeta only[dR]
 intro q ae
 let⟨w,B⟩:=fU (a:=q) (c:=ae) O O
 have s1:=pz q
 clear_value ae
 let⟨ad,ba⟩:=ac.cw
 have aa:=p.le fL
 have a1:=Bk.pP b
 have bf:=jQ b.bA
 have bl:=p.aT
 have a3:=p.ms
 have a6:=hf.aT
 refine(MX (aa.le w.le)).bL (D.cT ae) B λmn m3 a8 x3 _=>⟨_,O,?_⟩
 obtain⟨kn,aK⟩:∃kn:Nat,mn=kn:=⟨mn.toNat,V⟩
 subst aK
 have ap:∀(d:Nat)(s:eM),b.bA[d]? =some s->d<kn->s.op=14\/s.op=15:=cB
 have an:∀(d:Nat)(s:eM),b.bA[d]? =some s->d<kn->0<s.aO.length:=λd s T aM=>by
  have:=ap d s T aM;have:=(ad d s T).iY.mM V;omega
 refine(Cs (c:=[]) bO (aa.le (w.J x3).le) (e:=kn) V 14 an V).bL x3 B λsd C m4 gd hd x4 v4=>⟨_,O,?_⟩
 refine(Cs (c:=[]) bO (aa.le (w.J v4).le) (e:=kn) V 15 an V).bL v4 B λW J m5 gr hr x5 v5=>⟨_,O,?_⟩
 have a2:=adD (b.bA.take kn)
 have bk:(b.bA.take kn).length=kn:=cB
 have aq:be m5 W J:=(gr.cy bO V).le fL
 refine(fH aq g).bL v5 B λbi m6 a0 x6 A=>⟨_,O,λ_=>⟨t,b,O,p.le (((w.J A).aV V _ _).fj),⟨ac,V⟩,(w.J A).aV V _ _⟩,λa7=>⟨λ_=>⟨t,b,O,p.le (((w.J A).aV V _ _).fj),⟨ac,V⟩,(w.J A).aV V _ _⟩,λa9=>?_⟩⟩
 have a_:0<o.length:=by grind [beq_eq_false_iff_ne]
 have aN:∀s∈b.bA.take kn,∃d:Nat,d<kn/\b.bA[d]? =some s:=λs p=>by
  let⟨d,T⟩:=cH.1 p;have:=br T;grind [List.getElem?_take_of_lt]
 have aH:dc (b.bA.take kn)=0:=Xj λs p=>by
  let⟨d,h1,h2⟩:=aN s p;have:=ap d s h2 h1;exact aW λQ:tr s.op=>by have:=Q.2;omega
 have bd:2*kn<=sw (b.bA.take kn):=by
  have:=Z9 (l:=b.bA.take kn) λs p=>by
   grind [eM.pP]
  omega
 have bj:sw b.bA=sw (b.bA.take kn)+sw (b.bA.drop kn):=by rw[<-gF,j8]
 have a4:dc b.bA=dc (b.bA.take kn)+dc (b.bA.drop kn):=by rw[<-fg,j8]
 have aw:∀y:Int,(∃(d:Nat)(s:eM),d<kn/\b.bA[d]? =some s/\y∈s.aO)->0<=y/\y<((f+o.length:Nat):Int):=λy⟨d,s,h1,h2,h3⟩=>by
  have h4:=(ad d s h2).iY.aO y h3;have h5:=Zm (b.bA.take kn) d;grind [Nat.min_eq_left]
 refine(wj (S:=[]) bO ((aq.ext x6).le Ev) g V).bL A B λaV aQ m8 al ao x8 v8=>⟨_,O,?_⟩
 have y2:=al.cJ
 have aO:be (dA [aV.bu] m8) sd C:=((gd.cy bO V).le fL).le (((x5.J x6).le.J (Ev (m:=m6))).J (x8.dA λe h=>bR cB))
 refine Be (j:=o.length) V (λk sd W M=>D m6 M/\∃C J,be (dA [W.bu] M) sd C/\GI [] m6 M W J/\(∀y∈C,0<=y/\y<((f+o.length:Nat):Int))/\C.length<=Xi 14 (b.bA.take kn)/\(∀y∈J,0<=y/\y<((f+o.length:Nat):Int))/\J.length<=Xi 15 (b.bA.take kn)+k) ⟨x8,C,aQ,aO,al,λy I=>aw y (hd.1 y I),hd.2,λy I=>aw y (hr.1 y (ao.1 y I)),VE ao.2 hr.2⟩ ?_
 rintro k F z r ak μ hk ⟨L,U,K,H,G,R,am,ar,bc⟩ ag
 have X:=(w.J A).J L
 have y3:=G.cJ
 have v:∀e∈[q.size,a.size],e<r.size:=by grind [D.lt]
 refine⟨λQ=>?_,λQ=>?_⟩
 .simp only[bg]at Q
  let⟨y,I⟩:=dU o k
  have ew:eI ((f:Int)+(k:Int))=(f:Int)+k:=by grind [de]
  rw[ew]
  have Z:∀{M:bh},D r M->aS M P.bu (P.off+Int.toNat (k:Int)*1)=some (vi y):=λu=>(hf.ext (X.J u)).bt I
  have au:∀{M:bh},D r M->ak F z (eI ((k:Int)+1)) M/\μ F z (eI ((k:Int)+1)) M<μ F z k r:=λu=>ag V _ _ _ ⟨L.J u,U,K,H.le u.fj,G.ext u,R,am,ar,V⟩
  have Wn:∀{M:bh},D r M->mj (M.push (.cells (db [.i ((f:Int)+k)]) bB)) bB [.i 0] 8 z (.mk M.size 0 1 1) λai N=>gS [q.size,a.size] (M.push (.cells (db [.i ((f:Int)+k)]) bB)) N/\ak F ai (eI ((k:Int)+1)) N/\μ F ai (eI ((k:Int)+1)) N<μ F z k r:=λ{M} u=>by
   refine GI.nE (G.ext u) ((L.J u).fz []) V λai N g' f' z' q'=>⟨D.sM ((L.J u).bZ _) f'.ext (λe h=>A.lt (B e h)),ag V _ _ _ ⟨f'.ext,U,_,(H.le u.fj).le (tF λe h hn=>?_),g',R,am,λaj hz=>?_,eX⟩⟩
   .grind
   .grind
  refine⟨V,V,y,Z cY,λ_=>?_,λ_=>⟨V,V,y,Z cY,λ_=>?_,λ_=>au cY⟩⟩
  .refine(fH (H.le fL) _).bL (D.cT r) v λbb az _ Y _=>⟨_,O,λ_=>?_,λ_=>⟨V,V,y,Z Y,λ_=>?_,λ_=>au Y⟩⟩
   .refine(wj (S:=[z.bu]) cB (H.le Y.fj) _ V).bL Y v λaB ay aA ax ah aC av=>⟨_,O,ag V _ _ _ ⟨L.J av,ay,K,ax.cy cB (oh ah.2),G.ext av,λaj hz=>R aj (ah.1 aj hz),oh ah.2,ar,V⟩⟩
   grind
  grind [D.cT]
 .have aP:be r z K:=(G.cy bO V).le fL
  have aj:∀{M:bh},r.size<=M.size->∀e∈q.size::c,e<M.size:=λhz e h=>by
   grind [Array.size,D.aQ]
  refine(iR (c:=q.size::c) (aj bY) 14 (H.le fL) V).bL (D.cT r) v λaR bm bo Z aC ay _=>⟨_,O,?_⟩
  subst aC
  have bD:=Z.cJ
  refine(lJ (c:=aR.bu::q.size::c) (λe h=>?_) 16 g).aP λbC bp⟨aZ,bb,aB,aG,aJ,N⟩=>⟨λe h=>N.bG e (ay.lt (v e h)),_,_,_,_,_,aB,?_⟩
  .grind
  intro bq
  have az:=ay.J N
  refine GS.nE (x:=iX 16 g) (Z.ext j9.aP N) (az.fz []) aG aJ cB λaT bs ah I bH bw=>⟨D.sM (az.bZ _) I.ext v,?_⟩
  have bF:=ah.cJ
  refine(iR (c:=aT.bu::q.size::c) (λe h=>?_) 15 (aP.ext I.ext) V).bL I.ext v λbA bn bt aE aD aY ax=>⟨_,O,?_⟩
  .grind
  subst aD
  refine GS.lY (ah.ext j9.aP aY) (ax.fz []) (aE.cy j9.aP (λe h=>?_) cD cB) cB λav au ai u bI bx=>⟨D.sM ax u.ext v,V,V,V,?_⟩
  .grind
  have bG:=ai.cJ
  have z9:=X.aQ
  have aL:Le (dA c a) (dA (av.bu::q.size::c) au):=(X.J u.ext).dA λe h=>by
   grind
  have ek:Int.toNat (kn:Int)=kn:=V
  have el:Int.toNat (t.len:Int)=t.len:=V
  rw[ek,el]
  have aI:iN (dA (av.bu::q.size::c) au) (t.cut kn t.len 5) (b.bA.drop kn):=by
   have:=(p.le aL).PD (i:=kn) (j:=t.len) V V;grind [eQ]
  refine GS.lY ai u aI eX λaU bu aF Y bJ bz=>⟨D.sM u.ext Y.ext v,bE cB _,?_⟩
  intro bv
  have aA:=aF.cy j9.aP (aj bY) cD eX
  have e1:dc [iX 16 g]=0:=nF cD [g]
  have e2:sw [iX 16 g]=2:=um 16 [g]
  have W1:WL ds nr True (f+o.length) (U.map (iX 14)++[iX 16 g]++K.map (iX 15)++b.bA.drop kn):=by
   refine WL.fw (WL.fw ((vD cD R).Dd ?_) ?_) ?_
   .grind [nF,It]
   .grind [fg,nF,vD]
   .rw[fg,fg,nF cD,nF cD,e1];have:=ad.Bc kn;rwa[aH]at this
  refine⟨aU,.mk (U.map (iX 14)++[iX 16 g]++K.map (iX 15)++b.bA.drop kn) b.bQ,O,iN.le (dV bO λe h=>aX _ h) aA,⟨.of W1 ?_,?_⟩,(X.J Y.ext).aV V _ _⟩
  .grind [fg,nF]
  grind [Bk.vt,gF,um]
end
def ae7(c:af)(d:List j7)(b:Bk):Prop:=∀(S:ad)(m:bh),(∀a∈S,a<m.size)->∀(f r t:E)(a:Nat),iF m f r c d->iN m t b.bA->WB c d.length True a b->a+4*b.w<=10^12->9*b.w<=100000000000->
 rD 232 [.agg #[f.v,r.v],.agg #[t.v,vi b.bQ],vi a] m S λe=>WB c d.length True a e/\e.w+8<=9*b.w
def Hy{r:af}{rs:List j7}:∀q:Bk,ae7 r rs q:=by
 refine Bk.ind ?_;intro bA W ih h ah hS au aG bx j C hs aU a8 a9;have aB:=aU.cw;rw[Bk.vt]at*;simp only[Bk.mV,Bk.lV]at*;apply AK;simp -zeta only[kJ,nO];intro U f p g m5 m6;let⟨x3,hl,s1,s2,s3⟩:=uj (a:=U) (c:=f) (d:=p) O O O;have s4:=pz g;have aI:=py m6;have a2:D p m6:=(D.push p _).J aI;have g0:GS (g.size::f.size::h) p m6 (.mk p.size 0 0 0) []:=(GS.bF _ p).ext j9.aP aI;have B0:dF m6 g.size fm [.s (.mk p.size 0 0 0),.i W]:=dF.aV (m:=m5) (dF.push g _ _);have aK:∀c∈f.size::h,c<p.size:=dD hS x3.aQ (hl _ bO);have aO:=hs.aT;have aQ:=FL bA;have bl:=jQ bA;refine gL (aO▸hs.kM) (λk(v:Int) M=>v=((j+dc (bA.take k):Nat):Int)/\D p M/\∃s o,GS (g.size::f.size::h) p M s o/\dF M g.size fm [.s s,.i W]/\o.length=k/\WL r rs.length True j o/\dc o=dc (bA.take k)/\sw o<=9*sw (bA.take k)) ⟨bO,a2,_,[],g0,B0,O,WL.gN,bO,bO⟩ ?_;rintro k v0 M ar μ hk ⟨aT,xM,s,o,ab,Q,bg,wl,ae,aR⟩ aF
 subst aT;have v:=x3.J xM;have hy:=ab.cJ;have a5:=Q.lt;refine dit (λac=>?_) λac=>?_
 .let⟨x,F⟩:=dU bA k;let⟨pa,pk,ha,an,e0,e1,e2,e3,e4⟩:=hs.bt F;have bq:=TM F;have bt:=eM.pP x;have a_:=wZ x.dv;have bs:=ua F;have bp:=uK F;have J:=aB.1 k x F;have bd:=xe (bA.take k);have bk:=jQ (bA.take k);have bm:=aQ (k+1);refine⟨V,V,_,v.aS e0,_,v.aS e1,_,v.aS e2,_,v.aS e3,_,v.aS e4,?_⟩;intro m7 u m9;obtain⟨x8,s8⟩:=pv u;obtain⟨x9,s9⟩:=pu m9;have aJ:GB (s.bu::g.size::f.size::h) u m9 (.mk u.size 0 0 0) []:=GB.bF u;have al:∀c∈s.bu::g.size::f.size::h,c<u.size:=λc d=>by
   simp only[bo]at d;rcases d with e|e|e|e
   .omega
   .omega
   .omega
   .have:=hS c e;omega
  have ao:=an.aT;have t:∀{b:bh},u.size<=b.size->∀c∈[M.size,f.size,U.size,ah.size],c<b.size:=λac c d=>by simp at d;omega
  refine(kO (e:=[u.size]) eX (C.bT.le (v.J (x8.J x9)).le) C.dm x.cE).bL (D.cT m9) (t x9.aQ) λsc lc bu ay e aH _=>⟨_,O,?_⟩;subst e;have bi:=ay.aT;refine gL (ao▸an.kM) (λl ks b=>D u b/\be (dA [ks.bu] b) sc (cX r x.cE)/\∃lk,GB (s.bu::g.size::f.size::h) u b ks lk/\lk.length=l/\(∀(G:Nat)(q:Bk),lk[G]? =some q->WB r rs.length True (j+dc (bA.take k)+FY r x.op x.cE G) q)/\bw lk<=9*bw (x.dv.take l)) ⟨x9.J aH,ay,[],aJ.ext vw.aP aH,O,bO,bO⟩ ?_;rintro l ks w I2 μ2 hj ⟨Y,az,lk,gk,bf,aw,aN⟩ a0;have z:=v.J (x8.J Y);have yk:=gk.cJ;have H:=Y.aQ;refine dit (λh2=>?_) λh2=>?_
  .let⟨q,I⟩:=dU x.dv l;let⟨tb,aA,f0,f1⟩:=an.bt I;have bb:=Ba I;have aM:=yL I;have ad:=J.dv l q I;have h3:=VW C.dm x.op x.cE l;have ak:∀{b:bh},D w b->∀c∈ks.bu::s.bu::g.size::f.size::h,c<b.size:=λxx c d=>by
    have:=xx.aQ;rcases bo.1 d with e|e
    .omega
    .have:=al c e;omega
   have aa:∀{b:bh}{P:E}{y:Bk},D w b->iN (dA (ks.bu::s.bu::g.size::f.size::h) b) P y.bA->WB r rs.length True (j+dc (bA.take k)+FY r x.op x.cE l) y->y.w<=9*q.w->
    mj (b.push (.cells (db [.s P,.i y.bQ]) fm)) fm [.s .nil,.i 0] 32 ks (.mk b.size 0 1 1) λN Z=>gS [M.size,f.size,U.size,ah.size] (b.push (.cells (db [.s P,.i y.bQ]) fm)) Z/\I2 N (eI ((l:Int)+1)) Z/\μ2 N (eI ((l:Int)+1)) Z<μ2 ks l w:=λ{b P y} x11 T hwb' hw'=>by
    refine GB.nE (gk.ext vw.aP x11) ((Y.J x11).fz []) T V λN Z g2 f2 a3 q2=>⟨D.sM ((Y.J x11).bZ _) f2.ext (t bY),a0 V _ _ ⟨f2.ext,(az.le x11.fj).le (tF λc d ax=>?_),_,g2,eX,λG b2 B=>?_,?_⟩⟩
    .simp at ax
     refine⟨?_,q2 c d ax⟩
     simp
     rcases a3.2 with e|e<;>omega
    .rcases dJ G lk.length with n|n
     .rw[dY n]at B;exact aw G b2 B
     .rw[dP n]at B
      have:G -lk.length=0:=by have:=br B;simp at this;omega
      rw[this]at B;simp at B;subst B
      have:G=l:=V
      subst this;exact hwb'
    .rw[sU,yK,DW,aM]
     omega
   refine⟨λA=>?_,λA=>?_⟩
   .simp only[bP]at A;obtain⟨a7,_⟩:=J.iY.lY A;have a4:=J.iY.mM (bR (bR A));let⟨aq,aC⟩:=dU x.aO 0;let⟨y0,y1⟩:=J.iY.aO aq (aZ aC);have a6:=ha.aT;let⟨cn,av⟩:=dU (cX r x.cE) l;refine⟨V,V,cn,(az.le fL).bt av,?_⟩;refine(fV (C.bT.le (z.le.J Ev)) C.dm cn).bL (D.cT w) (t H) λsf lf aD ag e ai _=>⟨_,O,?_⟩;subst e;have ag:=ag.le fL;have bj:=ag.aT;have R:=z.J ai;rw[Pu A av]at ad h3 aa;have aj:aS aD pa.bu (pa.off+Int.toNat (0:Int)*1)=some (vi aq):=(ha.ext R).bt aC;refine⟨V,V,_,R.aS f0,_,R.aS f1,cD,V,aq,aj,?_⟩;have ew:eI (((j+dc (bA.take k):Nat):Int)+(sf.len:Int))=((j+dc (bA.take k)+(cW r cn).length:Nat):Int):=by rw[de V V];omega
    rw[ew];refine(ih x (aZ F) q (aZ I) (ks.bu::s.bu::g.size::f.size::h) aD (ak ai) au aG tb _ (C.le R.le) (aA.le R.le) ad V V).bL ai (t H) λP y aV T am X ap=>⟨_,_,O,?_⟩;refine⟨by rw[X.aS aj,aj],bE (X.bG _ (ai.lt (t H _ bO))) _,?_⟩;refine(QS (ak ap) T (ag.ext X) V am.1 V V ⟨y0,y1⟩).bL ap (t H) λbv b2 aE aP aL n a1=>⟨_,_,O,?_⟩;intro aY;exact aa a1 aP aL.1 V
   .simp only[ba]at A;rw[Pv A]at ad aa;refine⟨V,V,_,z.aS f0,_,z.aS f1,?_⟩;refine(ih x (aZ F) q (aZ I) (ks.bu::s.bu::g.size::f.size::h) w (ak cY) au aG tb _ (C.le z.le) (aA.le z.le) ad V V).bL (D.cT w) (t H) λP y aV T am X ap=>⟨_,_,O,?_⟩;intro aE;exact aa X T am.1 V
  .have aj:lk.length=x.dv.length:=V;rw[eQ V]at aN;have I:D M w:=x8.J Y;have B:=Q.ext I;have G2:=ab.ext j9.aP I;refine⟨s,B.dx 0,?_⟩;refine(dB (s.bu::g.size::f.size::h) (ha.ext z) V).bL (D.cT w) (t H) λs' l' aE ga e n _=>⟨_,O,bE (n.bG _ V) _,bE (n.bG _ V) _,bE (n.bG _ V) _,bE (n.bG _ B.lt) _,?_⟩;subst e;intro aY;refine Gr.bV (h:=[.i 0,.i 0,.i 0,.s .nil,.s .nil]) (K:=λb=>bK dO 205 [vi x.op] b λv A=>gS [M.size,f.size,U.size,ah.size] b A/\∃y:Bool,v=vb y/\
    (y=true->ar (eI (((j+dc (bA.take k):Nat):Int)+1)) (eI ((k:Int)+1)) A/\μ (eI (((j+dc (bA.take k):Nat):Int)+1)) (eI ((k:Int)+1)) A<μ ((j+dc (bA.take k):Nat):Int) (k:Int) M)/\
    (y=false->ar ((j+dc (bA.take k):Nat):Int) (eI ((k:Int)+1)) A/\μ ((j+dc (bA.take k):Nat):Int) (eI ((k:Int)+1)) A<μ ((j+dc (bA.take k):Nat):Int) (k:Int) M)) (L:=[M.size,f.size,U.size,ah.size]) (j:=0) (w:=72) (o:=[.s s,.i W]) (v:=⟨x.op,x.cE,x.dh,x.aO,lk⟩) j9.aP cD (G2.ext j9.aP n) (((xM.J I).J n).fz []) ⟨s',ks,O,(ga.cy (λc d=>oh (al c d)) V),rO.le n.fj (gk.cy vw.aP al cD (by show lk.length<=_;omega))⟩ V (B.ext n) bO cD ⟨V,bO⟩ (λc d=>by have y:=n.aQ;simp at d;omega) λN m' Z P X z' q'=>?_
   have R:=wl.Dd (J.UM id J.iY.dh aj aw|>λac=>(ae▸ac));have ak:=n.aQ;refine(mN x.op m').aP λv A⟨T,e,ai,y⟩=>⟨λc d=>y.bG c (oh (t H c d)),T,e,?_⟩;have ad:=zR x T ai;have aa:dc (o++[⟨x.op,x.cE,x.dh,x.aO,lk⟩])=dc (bA.take (k+1)):=by
    rw[fg,nM,xf,ae];have e:dn (⟨x.op,x.cE,x.dh,x.aO,lk⟩:eM)=dn x:=rfl;omega
   have ag:sw (o++[⟨x.op,x.cE,x.dh,x.aO,lk⟩])<=9*sw (bA.take (k+1)):=by
    rw[gF,qu,zH];have h5:(⟨x.op,x.cE,x.dh,x.aO,lk⟩:eM).w=1+x.aO.length+bw lk:=eM.pP _;omega
   refine⟨λht=>?_,λhf=>?_⟩
   .rw[bn ht]at ad;rw[de V V];exact aF V _ _ ⟨V,X.ext.J y,N,_,Z.ext j9.aP y,P.ext y,eX,R,aa,ag⟩
   .rw[aW (by simp[hf])]at ad;exact aF V _ _ ⟨V,X.ext.J y,N,_,Z.ext j9.aP y,P.ext y,eX,R,aa,ag⟩
 .have ao:k=bA.length:=V;subst ao;rw[fu]at ae aR;refine⟨s,Q.dx 0,W,Q.dx 1,?_⟩;intro m7;have b:Le (dA (g.size::f.size::h) M) (dA h m7):=dV bO λc d=>aX _ (aX _ d);have l:=ab.ne Q cD;refine⟨s,.mk o W,O,iN.le b (ab.rS j9.aP (λd=>?_) cD (by show o.length<=_;omega)),⟨.of wl ((ae▸aB.2)),by rw[Bk.vt];omega⟩,v.aV V _ _⟩;rcases bo.1 d with e|e
  .exact l e
  .have:=aK _ e;omega
def JA{d:ad}{m:bh}(y:∀c∈d,c<m.size){h r:E}{f:af}{p:List j7}(g:iF m h r f p){W:Nat}(hW:9*W<=100000000000)(Q:CF f p True W):zg 196 [.agg #[h.v,r.v]] m d f λs=>CF f s True (9*W):=by
 apply BZ;simp -zeta only[dR];intro b a2;let⟨v,n⟩:=fU (a:=b) (c:=a2) O O;have s1:=pz b;have aj:=g.lI.aT;have ax:=g.p7;refine(jJ (b:=b.size::d) (dD y v.aQ (n _ bO)) (g.le v.le).bT g.dm).aP λ_ H⟨aa,e,ae,w⟩=>?_;subst e;refine⟨w.eW n,_,O,?_⟩;intro I an ao;have Y:=v.J w;let⟨x5,B0,g0,s3,s5⟩:=om (b:=I.size::b.size::d) ly.aP (d:=H) (a:=I) (c:=an) (j:=ao) O O O;have A:∀c∈[b.size,m.size],c<H.size:=λc a=>w.lt (n c a);have z:∀c∈b.size::d,c<H.size:=λc a=>w.lt (dD y v.aQ (n _ bO) c a);refine nV (R:=λi j M=>∃h r s,Value.agg #[i.v,j.v]=.agg #[h.v,r.v]/\iF (dA d M) h r f s/\CF f s True (9*W)/\D m M) ly.aP cD cD y ⟨V,A _ bO⟩ Y s3 ae aj V x5 B0 g0 (λ_ q=>q.aY.length<=3/\q.df.length<=3/\WB f p.length True q.aY.length q.eY/\q.eY.w<=9*W) (λi u F x N k j o t=>⟨i,u,F,O,⟨N,k,g.dm,V⟩,Mg Q.ju j o,t⟩) λam M X F ar μ ag av xM L B ap=>?_
 let⟨q,U⟩:=dU p am ag;let⟨ai,ah,al,hw⟩:=Q.eR q (aZ U);have t:=Y.J xM;let⟨aq,ay,j,K,c2,c3,e0,e1,e2,e3,e4⟩:=g.lI.bt U;have G:∀{Z:Value}{j o:Nat},aS m j o=some Z->aS M j o=some Z:=λac=>t.aS ac;refine⟨V,V,_,G e0,_,G e1,_,G e2,_,G e3,_,G e4,?_⟩;intro m7 i;have hy:=L.cJ;have au:=B.lt;obtain⟨J,s8⟩:=pv i;have T:∀c∈[M.size,b.size,m.size],c<i.size:=λc a=>by
  rcases bo.1 a with e|e
  .omega
  .have:=A c e;omega
 have w8:=t.J J;have aw:=K.aT;have ab:(aq.len:Int)=(q.aY.length:Nat):=V;refine⟨X,(B.ext J).dx 1,?_⟩;rw[ab];refine(Hy q.eY (X.bu::I.size::b.size::d) i (λc a=>?_) h r j q.aY.length (g.le w8.le) (c3.le w8.le) al V V).bL (D.cT i) T λss b' M1 ak P u _=>⟨_,_,O,?_⟩
 .simp only[bo]at a;rcases a with e|e|e|e
  .omega
  .omega
  .have:=z c (by simp[e]);omega
  .have:=z c (by simp[e]);omega
 have C:∀o,aS M1 M.size o=aS i M.size o:=λo=>bE (u.bG _ V) o;refine⟨C 0,C 1,C 2,C 3,C 4,bE (u.bG _ V) _,?_⟩;have x:=J.J u;have z1:=u.aQ;exact Ak (b:=b.size::d) (v:=aa) (x:=F) z (λc a=>by have N:=T c a;have k:=A c;simp only[bo]at a k;rcases a with e|e|e|e<;>first|omega|(have:=k (by simp[e]);omega)|simp at e) (xM.J x) (L.ext ly.aP x) (B.ext x) V (K.ext (t.J x)) (c2.ext (t.J x)) ak ⟨V,V⟩ V λs' N g' k x'=>ap s' N _ g' k x' ⟨ai,ah,P.1,by have:=P.2;show b'.w<=_;omega⟩
section
variable{S:ad}{m:bh}{c:E}{l:List Instr}
theorem gG.le{m b:bh}(h:Le m b){a:ae}{x:Instr}:gG m a x->gG b a x:=λ⟨c,j,d,e,f⟩=>⟨c,j,d,e.le h,f.le h⟩
theorem gG.aP:sD 6 gG:=⟨λh=>gG.le h,λh=>by obtain⟨_,_,rfl,_⟩:=h;rfl⟩
def je.le{m a:bh}(b:Le m a){s:E}{l:List Instr}(h:je m s l):je a s l:=by grind [fW.le,gG.le]
theorem oI.le{m b:bh}(h:Le m b){a:ae}{x:eE}:oI m a x->oI b a x:=λ⟨d,l,c,e,f,g,i⟩=>⟨d,l,c,e,f.le h,g.le h,je.le h i⟩
def oI.aP:sD 5 oI:=⟨λh=>oI.le h,λh=>by obtain⟨_,_,_,rfl,_⟩:=h;rfl⟩
def mh.le{m a:bh}(b:Le m a){s:E}{l:av}(h:mh m s l):mh a s l:=by grind [fW.le,oI.le]
def inV(x:Instr)(a j:E):Value:=.agg #[vi x.op,vi x.bH,vi x.cE,vi x.dh,a.v,j.v]
def Ax(G:∀c∈S,c<m.size){o s:E}{x:Instr}(w:be m o x.aO)(z:be m s x.gE)(g:x.aO.length<=10^12/\x.gE.length<=10^12):
 bK dO 199 [inV x o s] m λF k=>∃f h,F=inV x f h/\be (dA S k) f x.aO/\be (dA S k) h x.gE/\D m k:=by
 apply vm
 simp -zeta only[dR]
 intro d i
 let⟨l,q⟩:=fU (a:=d) (c:=i) O O
 have I:=pz d
 have p:∀c∈d.size::S,c<i.size:=by grind [dD,D.aQ]
 have b:∀{M n:bh},D i M->D M n->∀t,aS n m.size t=aS M m.size t:=by grind [bE,D.bG,D.lt]
 refine(dB (d.size::S) (w.ext l) g.1).bL (D.cT i) q λf _ H u j a _=>⟨_,O,b cY a _,b cY a _,b cY a _,b cY a _,b cY a _,?_⟩
 subst j
 refine(dB (d.size::S) (z.ext (l.J a)) g.2).bL a q λh _ A v j e C=>⟨_,O,b a e _,b a e _,b a e _,b a e _,?_⟩
 subst j
 intro B
 have r:Le (dA (d.size::S) A) (dA S B):=by grind [dV,List.mem_cons_of_mem]
 exact⟨f,h,O,((u.cy p g.1).le e.fj).le r,(v.cy (λc y=>a.lt (p c y)) g.2).le r,(l.J C).aV V _ _⟩
def RJ(d:je m c l)(s:Int):JU 192 [c.v,vi s] m:=by
 apply Lg;have k:=d.aT;refine gL (n:=l.length) (k▸d.kM) (λ_ _ M=>D m M) cY ?_;rintro q K M I μ G e u
 refine⟨λh=>?_,λ_=>rN e⟩;simp only[bg]at h;let⟨x,o⟩:=dU l q;let⟨z,J,b,F,A,g,B,C,f,E⟩:=(je.ext e d).bt o;have j:=b.aT;refine⟨V,V,_,g,?_⟩;refine gL (n:=x.aO.length) (j▸b.kM) (λ_ _ a=>D M a) cY ?_;rintro r L w v μ2 H a t;refine⟨V,V,_,a.aS f,λi=>?_,λ_=>u V _ _ (e.J a)⟩;simp only[bg]at i;let⟨y,p⟩:=dU x.aO r;exact⟨V,V,_,a.aS f,V,V,y,(b.ext a).bt p,t V _ _ a⟩
@[grind cases] structure Rf (k:Nat) (x:Instr):Prop where
 Oc:x.op=22->(k:Int)<x.cE
 arg:x.op=18\/x.op=23\/x.op=16\/x.op=17->0<x.aO.length
def XW(l:List Instr):Prop:=∀(k:Nat)(x:Instr),l[k]? =some x->Rf k x
def MW(e:je m c l)(E:XW l){j:Int}(B:0<=j)(XJ:Int):sS 234 [c.v,vi j,vi XJ] m:=by
 apply Fv;simp -zeta only[dR];have I:=e.aT;have K:=e.kM;refine⟨λv _ M=>0<=v/\D m M,λv _ _=>((l.length:Int) -v).toNat,⟨B,cY⟩,?_⟩;rintro v G M ⟨F,i⟩;refine⟨λh=>?_,λ_=>rA i⟩;simp only[bg]at h;let⟨x,n⟩:=dU l v.toNat;let⟨b,L,d,J,r,s,t,w,z,A⟩:=(je.ext i e).bt n;have H:=d.aT;have k:=E _ x n;refine⟨F,V,_,r,_,s,_,t,_,w,_,z,_,A,?_⟩;intro N a;have g:D M a:=by grind [D.push,D.aV]
 have u:=i.J g;have Oc:(x.op==22)=true->(0<=x.cE/\D m a)/\((l.length:Int) -x.cE).toNat<((l.length:Int) -v).toNat:=λh=>by
  grind [Rf.Oc]
 have o:(x.op==23)=true->(0:Int)<=0/\(0:Int)<(b.len:Int)/\∃p:Int,aS a b.bu (b.off+Int.toNat (0:Int)*1)=some (vi p)/\∃q:Bool,vb (p==G)=.bool q/\D m a:=λh=>by
  simp only[bP]at h;have:=k.arg V;let⟨y,f⟩:=dU x.aO 0;exact⟨cD,V,y,(d.ext g).bt f,rA u⟩
 refine⟨λC=>?_,λ_=>⟨Oc,λ_=>⟨o,λ_=>rA u⟩⟩⟩;simp only[bP]at C;have:=k.arg V;let⟨y,f⟩:=dU x.aO 0;refine⟨cD,V,y,(d.ext g).bt f,λ_=>?_,λ_=>⟨Oc,λ_=>⟨o,λ_=>rA u⟩⟩⟩;grind [de,List.length]
def Po(l b:List Instr):Prop:=b.length=l.length/\∀(k:Nat)(a:Instr),b[k]? =some a->∃x,l[k]? =some x/\(a=x\/a=⟨24,0,x.cE,0,x.aO,x.gE⟩)
def VL(l:List Instr):Prop:=∀x∈l,x.aO.length<=10^12/\x.gE.length<=10^12
abbrev GIn(S:ad)(a m:bh)(s:E)(l:List Instr):Prop:=Gr S a m fx 6 gG s l
def OP(hS:∀c∈S,c<m.size)(h:je m c l)(ab:XW l)(ac:VL l)(hb:l.length<=10^12):
 bK dO 198 [c.v] m λH F=>∃s e,H=s.v/\GIn S m F s e/\Po l e/\D m F:=by
 apply HA
 simp -zeta only[dR]
 intro G
 have x1:=px G
 have U:GIn S m G (.mk m.size 0 0 0) []:=by grind [Gr.bF]
 have aa:=h.aT
 refine gL (n:=l.length) (aa▸h.kM) (λk s M=>D m M/\∃e,GIn S m M s e/\Po (l.take k) e) ⟨x1,[],U,by simp[Po]⟩ ?_
 rintro k s M I μ hk ⟨t,e,v,B,C⟩ af
 refine dit (λX=>?_) λX=>?_
 .let⟨d,E⟩:=dU l k
  let⟨ag,aj,Z,hj,K,L,N,P,Q,R⟩:=(je.ext t h).bt E
  have ad:=ac d (aZ E)
  have hy:=v.cJ
  have ai:e.length=k:=cB
  have Y:∀c∈s.bu::S,c<M.size:=λc h=>by
   grind
  refine⟨V,V,_,K,_,L,_,N,_,P,_,Q,_,R,?_⟩
  refine(Ax Y Z hj ad).aP λH z⟨p,q,J,w,y,x2⟩=>⟨_,_,_,_,_,_,J,?_⟩
  intro m3 r
  have g:D z r:=by grind [D.push,D.aV]
  have s4:r.size=z.size+1:=by grind [bD]
  have j:=x2.J g
  have u:∀{f:bh}{b:Instr},D r f->be (dA (s.bu::S) f) p b.aO->be (dA (s.bu::S) f) q b.gE->(b=d\/b=⟨24,0,d.cE,0,d.aO,d.gE⟩)->
   mj (f.push (.cells (db [.i b.op,.i b.bH,.i b.cE,.i b.dh,.s p,.s q]) fx)) fx [.i 0,.i 0,.i 0,.i 0,.s .nil,.s .nil] 80 s (.mk f.size 0 1 1) λA o=>gS [z.size] (f.push (.cells (db [.i b.op,.i b.bH,.i b.cE,.i b.dh,.s p,.s q]) fx)) o/\I A (eI ((k:Int)+1)) o/\μ A (eI ((k:Int)+1)) o<μ s k M:=λ{f b} xx h1 h2 h3=>by
   have z4:=j.aQ
   have zx:=xx.aQ
   refine Gr.nE (h:=[.i 0,.i 0,.i 0,.i 0,.s .nil,.s .nil]) (m:=b) gG.aP cD (v.ext gG.aP (j.J xx)) ((t.J (j.J xx)).fz []) ⟨p,q,O,h1,h2⟩ V λA o W T z3 q3=>⟨λc h=>?_,af V _ _ ⟨T.ext,_,W,eX,λae ak hi=>?_⟩⟩
   .grind [D.aQ,D.push,D.bG]
   .rcases dJ ae e.length with i|i
    .grind [List.getElem?_append_left,List.getElem?_take_of_lt]
    grind [List.getElem?_append_right,List.length,br,List.getElem?_take_of_lt]
  have z4:=j.aQ
  refine⟨λh9=>?_,λ_=>?_⟩
  .rw[de (b:=(k:Int)+1) V V]
   refine(MW (je.ext (t.J j) h) ab V d.bH).bL (D.cT r) cB λah m5 i _=>⟨_,O,λ_=>?_,λ_=>?_⟩
   .intro m6
    have:=u (b:=⟨24,0,d.cE,0,d.aO,d.gE⟩) i ((w.le g.fj).le i.fj) ((y.le g.fj).le i.fj) (bR O)
    grind [de]
   .intro m6
    have:=u (b:=d) i ((w.le g.fj).le i.fj) ((y.le g.fj).le i.fj) (bC O)
    grind [de]
  .intro m5
   exact u (b:=d) cY (w.le g.fj) (y.le g.fj) (bC O)
 .rw[eQ V]at B C
  exact⟨s,e,O,v,⟨B,C⟩,t⟩
end
section
variable{b:av}
@[grind cases] structure Y5 (p:eE):Prop where
 aY:p.aY.length<=3
 df:p.df.length<=3
 ju:0<p.eA.length
 p7:p.eA.length<=10^12
 eA:XW p.eA
 pL:VL p.eA
@[grind cases] structure DM (ps:av):Prop where
 ju:0<ps.length
 p7:ps.length<=4
 eR:∀p∈ps,Y5 p
def VJ(f:Nat)(c:ap)(m:bh)(S:ad)(e:af)(Q:av->Prop):Prop:=bK dO f c m λv a=>∃d p b,v=.agg #[d.v,p.v]/\dE (dA S a) d e/\mh (dA S a) p b/\Q b/\D m a
def Po.ok{l d:List Instr}(h:Po l d)(g:XW l)(f:VL l):XW d/\VL d:=by
 let⟨j,e⟩:=h;refine⟨λk a c=>?_,λa c=>?_⟩
 .obtain⟨x,b,rfl|rfl⟩:=e k a c
  .exact g k a b
  .exact⟨sx,sx⟩
 .let⟨k,i⟩:=cH.1 c;obtain⟨x,b,rfl|rfl⟩:=e k a i
  .exact f a (aZ b)
  .exact f x (aZ b)
def aaW{a:av}(h:DM b)(d:a.length=b.length)(c:∀(i:Nat)(q:eE),a[i]? =some q->Y5 q):DM a:=
 by constructor<;>grind [DM.ju,DM.p7,List.mem_iff_getElem?]
def MZ{f:ad}{o:bh}(P:∀c∈f,c<o.size){w x:E}{y:af}(hd:dE o w y)(ht:eT y)(hp:mh o x b)(T:DM b):VJ 130 [.agg #[w.v,x.v]] o f y DM:=by
 apply FD;simp -zeta only[dR];intro g a2;let⟨I,C⟩:=fU (a:=g) (c:=a2) O O;have s1:=pz g;have am:=hp.aT;have aA:=T.p7;refine(jJ (b:=g.size::f) (dD P I.aQ (C _ bO)) (hd.le I.le) ht).aP λ_ X⟨dd,e,ak,J⟩=>?_;subst e;refine⟨J.eW C,_,O,?_⟩;intro m ao ap;have u2:=I.J J;let⟨x5,B0,g0,s3,s5⟩:=om (b:=m.size::g.size::f) oI.aP (d:=X) (a:=m) (c:=ao) (j:=ap) O O O;have Q:∀c∈[g.size,o.size],c<X.size:=λc d=>J.lt (C c d);have ac:∀c∈g.size::f,c<X.size:=λc d=>J.lt (dD P I.aQ (C _ bO) c d);refine nV (R:=λj k M=>∃w x h,Value.agg #[j.v,k.v]=.agg #[w.v,x.v]/\dE (dA f M) w y/\mh (dA f M) x h/\DM h/\D o M) oI.aP cD cD P ⟨V,Q _ bO⟩ u2 s3 ak am V x5 B0 g0 (λ_ q=>Y5 q) (λh Y ag m' h1 A j k l=>⟨h,Y,ag,O,h1,A,aaW T j k,l⟩) λan M r ag av μ al ay xM ab K aq=>?_
 let⟨q,hq⟩:=dU b an al;have n:=T.eR q (aZ hq);have q3:=n.aY;have q4:=n.df;have qf:=n.p7;have qs:=n.ju;have v6:=u2.J xM;let⟨aw,k,c,c1,c2,c3,e0,e1,e2,e3,e4⟩:=hp.bt hq;have G:∀{Z:Value}{k t:Nat},aS o k t=some Z->aS M k t=some Z:=λz=>v6.aS z;refine⟨V,V,_,G e0,_,G e1,_,G e2,_,G e3,_,G e4,?_⟩;intro m7 p;have hy:=ab.cJ;have ax:=K.lt;obtain⟨x8,s8⟩:=pv p;have F:∀c∈[M.size,g.size,o.size],c<p.size:=λc d=>by
  rcases bo.1 d with e|e
  .omega
  .have:=Q c e;omega
 have w8:=v6.J x8;have B:∀{M':bh},p.size<=M'.size->∀c∈r.bu::m.size::g.size::f,c<M'.size:=λz c d=>by
  simp only[bo]at d;rcases d with e|e|e|e
  .omega
  .omega
  .have:=ac c (by simp[e]);omega
  .have:=ac c (by simp[e]);omega
 have h:∀{L M2:bh},D p L->D L M2->∀k,k<p.size->∀t,aS M2 k t=aS L k t:=λz h' k hb t=>bE (h'.bG k (z.lt hb)) t;have l:M.size<p.size:=V;have U:m.size<p.size:=V;refine⟨r,(K.ext x8).dx 1,?_⟩;refine(dB (r.bu::m.size::g.size::f) (c1.ext w8) V).bL (D.cT p) F λa' _ m9 ga e j _=>⟨_,O,h cY j _ l _,h cY j _ l _,h cY j _ l _,h cY j _ l _,h cY j _ U _,?_⟩;subst e;refine(dB (r.bu::m.size::g.size::f) (c2.ext (w8.J j)) V).bL j F λb' _ aB gb e v u=>⟨_,O,h j v _ l _,h j v _ l _,h j v _ l _,h j v _ U _,?_⟩;subst e;have z9:=j.aQ;have AU:=v.aQ;refine(OP (B V) (je.ext (w8.J u) c3) n.eA n.pL qf).aP λZ W⟨N,H,e,gc,ae,s⟩=>⟨λc d=>s.bG c (u.lt (F c d)),N,e,h u s _ l _,h u s _ l _,h u s _ U _,?_⟩;intro aC;have aa:=x8.J (u.J s);have aD:=s.aQ;let⟨ar,au⟩:=ae.ok n.eA n.pL;have az:=ae.1;have ah:be (dA (r.bu::m.size::g.size::f) W) a' q.aY:=(ga.cy (B V) V).le ((v.J s).fj);have ai:be (dA (r.bu::m.size::g.size::f) W) b' q.df:=(gb.cy (B V) V).le s.fj;have aj:je (dA (r.bu::m.size::g.size::f) W) N H:=gc.cy gG.aP (B V) cD V;exact Gr.bV (h:=[.s .nil,.s .nil,.i 0,.i 0,.s .nil]) (j:=1) (w:=88) (o:=[.s dd,.s r]) (v:=⟨q.aY,q.df,q.bQ,q.aU,H⟩) oI.aP cD (ab.ext oI.aP aa) ((xM.J aa).fz []) ⟨a',b',N,O,ah,ai,aj⟩ V (K.ext aa) bO cD ⟨V,bO⟩ (λc d=>by have h1:=F c d;have A:=Q c;simp only[bo]at d A;rcases d with e|e|e|e<;>first|omega|(have:=A (by simp[e]);omega)|simp at e) λY m' g' A f' z' q'=>aq Y m' _ g' A f'.ext ⟨q3,q4,by show 0<H.length;omega,by show H.length<=_;omega,ar,au⟩
end
section
variable{S:ad}{d c:bh}{b:Nat}{s:E}{l:List Instr}{x:Instr}
@[grind cases] structure DI (S:ad) (m0 m:bh) (eb:Nat) (s:E) (l:List Instr):Prop where
 bV:dF m eb vT [.s s]
 gr:GIn (eb::S) m0 m s l
 up:m0.size<=eb
def DI.ext{S:ad}{d c a:bh}{b:Nat}{s:E}{l:List Instr}(h:DI S d c b s l)(x:D c a):DI S d a b s l:=⟨h.bV.ext x,h.gr.ext gG.aP x,h.up⟩
def DI.ne{S:ad}{d c:bh}{b:Nat}{s:E}{l:List Instr}(h:DI S d c b s l):s.bu≠b:=h.gr.ne h.bV cD
def T5(S:ad)(d c:bh)(b:Nat)(s:E)(P:List Instr->Prop)(f:bh):Prop:=∃a e,DI S d f b a e/\P e/\Fz [b,s.bu] c f/\(a.bu=s.bu\/c.size<=a.bu)
def uD{n q:E}(i:DI S d c b s l)(A:d.size<=c.size)(G:be (dA (s.bu::b::S) c) n x.aO)(H:be (dA (s.bu::b::S) c) q x.gE)(j:l.length<=10^12):
 bK dO 191 [vp b 0,inV x n q] c λM K=>M=vi (l.length:Nat)/\T5 S d c b s (l++[x]=·) K:=by
 apply BJ (b,0)
 simp -zeta only[dR]
 intro B
 obtain⟨h,U⟩:=pu B
 have f:=i.ext h
 have z:=f.bV.lt
 have Q:=i.bV.lt
 have T:=i.gr.cJ
 refine⟨s,f.bV.dx 0,?_⟩
 intro L
 have C:=px L
 refine⟨bE (C.bG _ z) _,?_⟩
 have R:=ve A
 have g1:GIn (b::S) (c.extract 0 d.size) B s l:=Gr.cV gG.aP f.gr (λF j=>bC j) V
 refine Gr.nE gG.aP cD g1 ((((D.Q9 A).J h).fz [])) ⟨n,q,O,G.le h.fj,H.le h.fj⟩ V λr t v P N u=>?_
 have p:=f.bV.congr (u b z (tf f.ne))
 have J:=v.ne p cD
 refine⟨λa e=>?_,p.jb bO,?_⟩
 .simp at e;subst e
  rw[u c.size V V,C.bG _ V]
 intro k
 have y:dF k b vT [.s r]:=dF.aV (m:=t) p
 have o:∀a,a≠b->k[a]? =t[a]? :=λa e=>cq _ _ _ _ e
 have W:k.size=t.size:=bD _ _ _ _
 refine⟨λa e=>o a (by simp at e;omega),r,y.dx 0,?_⟩
 have w:GIn (b::S) d k r (l++[x]):=by
  refine Gr.cV gG.aP (v.re gG.aP (Y:=[b]) ⟨V,λa e g=>o a (sp g)⟩ bO (by simp;exact J) λa e=>bC e) (λF j=>bC j) V
 have F:=w.aT cD
 have I:r.len=l.length+1:=by rw[F];simp
 refine⟨?_,r,_,⟨y,w,i.up⟩,O,⟨V,λa e g=>?_⟩,oh N.2⟩
 .rw[I,iz];congr 1;omega
 .simp only[bo,nh,FV,FU]at g
  rw[o a g.1,u a V g.2,h.bG a e]
def WQ{i:Nat}(h:DI S d c b s l)(o:d.size<=c.size)(r:l[i]? =some x):
 bK dO 240 [vp b 0,vi i] c λ_ K=>T5 S d c b s (l.set i ⟨x.op,0,l.length,0,x.aO,x.gE⟩=·) K:=by
 apply BH (b,0)
 simp -zeta only[dR]
 have H:=br r
 have J:=h.gr.aT cD
 obtain⟨L,⟨q,t,rfl,F,G⟩,mu⟩:=h.gr.jH r
 have w:=mu 0 _ O;have y:=mu 1 _ O;have z:=mu 2 _ O;have A:=mu 3 _ O;have B:=mu 4 _ O;have C:=mu 5 _ O
 refine⟨s,h.bV.dx 0,V,V,_,w,_,y,_,z,_,A,_,B,_,C,?_⟩
 intro P j
 obtain⟨g,Q⟩:=pv j
 have f:=h.ext g
 have I:=f.ne
 have N:=h.gr.cJ
 refine⟨s,f.bV.dx 0,s,f.bV.dx 0,V,V,?_⟩
 have g1:GIn (b::S) (c.extract 0 d.size) j s l:=Gr.cV gG.aP f.gr (λv m=>bC m) (by rw[ve o];exact bY)
 rw[J]
 let⟨wr,E,M,p⟩:=Gr.dX (k:=i) (cs:=[.i x.op,.i 0,.i l.length,.i 0,.s q,.s t]) (a:=⟨x.op,0,l.length,0,x.aO,x.gE⟩) gG.aP g1 (((D.Q9 o).J g).fz []) H ⟨q,t,O,F.le g.fj,G.le g.fj⟩
 refine⟨wr,?_⟩
 intro u
 have R:u.size=j.size:=bD _ _ _ _
 refine⟨λe n=>p e (by simp at n;omega),s,_,⟨f.bV.congr (p b (tf I)),Gr.cV gG.aP E (λv m=>bC m) (by rw[ve o];exact bY),h.up⟩,O,⟨V,λe n m=>?_⟩,bC O⟩
 simp only[bo,nh,FV,FU]at m
 have v:u[e]? =j[e]? :=p e m.2
 rw[v,g.bG e n]
end
section
variable{n a:Nat}
def qE(l b:List Instr)(n:Nat):Prop:=∃a,b=l++a/\(∀(i:Nat)(x:Instr),a[i]? =some x->Rf (l.length+i) x)/\VL a/\a.length<=n
def qE.cT(l:List Instr):qE l l 0:=⟨[],bO,bO,λ_ h=>by simp at h,bY⟩
theorem qE.iU{l b:List Instr}(h:qE l b n)(i:n<=a):qE l b a:=let⟨f,c,d,e,g⟩:=h;⟨f,c,d,e,V⟩
def qE.aT{l a:List Instr}(h:qE l a n):a.length<=l.length+n:=by obtain⟨b,rfl,_,_,d⟩:=h;simp;omega
def qE.J{l b c:List Instr}(h:qE l b n)(f:qE b c a):qE l c (n+a):=by
 obtain⟨i,rfl,k,d,o⟩:=h;obtain⟨j,rfl,m,e,p⟩:=f;refine⟨i++j,bO,λr x q=>?_,λx g=>?_,eX⟩
 .grind [Nat.lt_or_ge,List.length,List.getElem?_append_left,List.getElem?_append_right]
 .rcases bU.1 g with h|h
  .exact d x h
  .exact e x h
def qE.mM{l:List Instr}{x:Instr}(h:Rf l.length x)(c:x.aO.length<=10^12/\x.gE.length<=10^12):qE l (l++[x]) 1:=
 ⟨[x],O,λi y a=>by
  have:i=0:=by have:=br a;simp at this;omega
  subst this;simp at a;subst a;exact h,λy b=>by simp at b;subst b;exact c,bO⟩
section
variable{S:ad}{d m c:bh}{b:Nat}{s e:E}{l f:List Instr}
def DI.kv(h:DI S d m b s l)(e:D d m)(a:Fz [b,s.bu] m c):D d c:=by
 constructor<;>grind [DI.gr,Gr.cJ,DI.up,Fz.ext,D.fz,E.bu,Fz.J,Fz.Ih]
def V8(g:Fz [b,s.bu] m c)(d:e.bu=s.bu\/m.size<=e.bu):Le (dA [s.bu,b] m) (dA [e.bu,b] c):=tF λa f h=>by
 grind [Fz.bG]
def T5.eW{L:ad}(f:Fz [b,s.bu] m c)(d:∀a∈L,a<m.size/\a≠b/\a≠s.bu):gS L m c:=λa e=>f.bG a (d a e).1 cB
end
@[grind cases] structure XY (S:ad) (mb m:bh) (eb:Nat) (s:E) (l:List Instr) (cons first:E) (cl fl:ab):Prop where
 em:DI S mb m eb s l
 x:D mb m
 kv:∀c∈S,c<m.size
 eB:be (dA [s.bu,eb] m) cons cl
 first:be (dA [s.bu,eb] m) first fl
 bG:fl.length=cl.length
 pL:∀y∈fl,0<=y/\y<=900000000000
def XY.ext{S:ad}{e m d:bh}{b:Nat}{s:E}{l:List Instr}{cons first:E}{a c:ab}(h:XY S e m b s l cons first a c)(x:D m d):XY S e d b s l cons first a c:=
 ⟨h.em.ext x,h.x.J x,λf g=>x.lt (h.kv f g),h.eB.le x.fj,h.first.le x.fj,h.bG,h.pL⟩
def XY.xz{S:ad}{e m d:bh}{a:Nat}{s c:E}{o j:List Instr}{cons first:E}{f g:ab}(h:XY S e m a s o cons first f g)(l:DI S e d a c j)(b:Fz [a,s.bu] m d)(i:c.bu=s.bu\/m.size<=c.bu):XY S e d a c j cons first f g:=
 ⟨l,h.em.kv h.x b,λk n=>cr (h.kv k n) b.aQ,h.eB.le (V8 b i),h.first.le (V8 b i),h.bG,h.pL⟩
def ads(f:af)(g:List j7)(x:eM):Prop:=∀(S:ad)(a m:bh)(c:Nat)(s:E)(l:List Instr)(cons first:E)(b h:ab)(e r d k:E),XY S a m c s l cons first b h->WS f g.length True b.length x->b.length+4*x.w<=900000000000->l.length+6*x.w<=10^12->iF a e r f g->be a d x.aO->rO a k x.dv->
 bK dO 220 [vp c 0,.agg #[e.v,r.v],tn x d k,cons.v,first.v] m λ_ j=>T5 S a m c s (λi=>qE l i (6*x.w)) j
def acJ(f:af)(g:List j7)(b:Bk):Prop:=∀(S:ad)(a m:bh)(d:Nat)(s:E)(l:List Instr)(cons first:E)(c h:ab)(e r t:E),XY S a m d s l cons first c h->WB f g.length True c.length b->c.length+4*b.w<=900000000000->l.length+6*b.w<=10^12->iF a e r f g->iN a t b.bA->
 bK dO 190 [vp d 0,.agg #[e.v,r.v],.agg #[t.v,vi b.bQ],cons.v,first.v] m λ_ j=>T5 S a m d s (λi=>qE l i (6*(b.w -1))) j
end
def xA{m:bh}:be m .nil []:=⟨O,bY,bO,bO⟩
def QJ{ds:af}{rs:List j7}{bA:au}{aX:Int}(a:∀b∈bA,b.op=7\/b.op=8->ads ds rs b):acJ ds rs (.mk bA aX):=by
 intro z mb L e ad ah cons first cl fl aD aV bm E0 aO a4 a5 hn hs
 have aP:=aO.cw;rw[Bk.vt]at*;simp only[Bk.mV,Bk.lV]at*;apply zA (e,0);simp -zeta only[dR];intro ab ac;let⟨x2,hl⟩:=fU (a:=ab) (c:=ac) O O;have s1:=pz ab;have s2:ac.size=L.size+2:=cB;have aN:=hs.aT;have aw:=FL bA;have bb:=jQ bA;have a7:=E0.em.bV.lt;have bj:=E0.em.gr.cJ;refine Be (j:=bA.length) (aN▸hs.kM) (λp cons first M=>∃o K A H,XY z mb M e o K cons first A H/\A.length=cl.length+dc (bA.take p)/\qE ah K (6*sw (bA.take p))/\Fz [e,ad.bu] L M/\(o.bu=ad.bu\/ac.size<=o.bu)/\ac.size<=M.size) ⟨ad,ah,cl,fl,E0.ext x2,bO,(qE.cT ah).iU (iD _),x2.fz _,bC O,bY⟩ ?_;rintro p cons first M aY μ hk ⟨o,K,A,H,P,aK,ag,fz,a9,hM⟩ aA
 have a8:=ag.aT;have bd:=aw p;have r:=P.em.gr.cJ;refine dit (λk=>?_) λk=>?_
 .let⟨b,Y⟩:=dU bA p;let⟨pa,pk,I,aL,e0,e1,e2,e3,e4⟩:=hs.bt Y;have bg:=ua Y;have bf:=uK Y;have bi:=eM.pP b;have bc:=aw (p+1);have a6:=xe (bA.take p);have a_:=jQ (bA.take p);have W:=aP.1 p b Y;rw[<-aK]at W;have X:=P.x;refine⟨V,V,_,X.aS e0,_,X.aS e1,_,X.aS e2,_,X.aS e3,_,X.aS e4,?_⟩;intro m3 s;have x4:D M s:=by grind [D.push,D.aV]
  have s4:s.size=M.size+1:=by grind [bD]
  have i:=P.ext x4;have U:∀{Q:bh},s.size<=Q.size->∀j∈[M.size,ab.size,L.size],j<Q.size/\j≠e/\j≠o.bu:=cB;have Z:∀{y R:bh},s.size<=y.size->D y R->gS [M.size,ab.size,L.size] y R:=λhz xx j J=>xx.bG j (U hz j J).1;have C:∀{y R:bh},s.size<=y.size->D y R->∀ai,aS R M.size ai=aS y M.size ai:=λhz xx ai=>bE (xx.bG _ V) ai;have an:∀{Q:bh},s.size<=Q.size->∀c∈o.bu::e::z,c<Q.size:=λhz c a=>by
   simp only[bo]at a;rcases a with f|f|f
   .omega
   .omega
   .have:=P.kv c f;have:=X.aQ;omega
  refine⟨λF=>∃g t,XY z mb F e g t cons first A H/\qE K t (6*b.w)/\Fz [e,o.bu] s F/\(g.bu=o.bu\/s.size<=g.bu),⟨λh7=>?_,λn7=>⟨λaG=>?_,λaT=>⟨λaH=>?_,λaU=>?_⟩⟩⟩,?_⟩
  .simp only[eG,bP]at h7;refine(a b (aZ Y) h7 z mb s e o K cons first A H aD aV pa pk i W V V hn I aL).aP λv m5⟨g,t,ae,p5,G,b5⟩=>⟨T5.eW G (U bY),g,t,i.xz ae G b5,p5,G,b5⟩
  .simp only[eG,bP]at aG;refine(dB (o.bu::e::z) (I.ext i.x) V).aP λv m5⟨a',la,f,ga,ea,d⟩=>⟨Z bY d,a',f,C bY d _,?_⟩;subst ea;have m:=i.ext d;have u:=d.aQ;refine(uD (x:=⟨b.op,0,0,0,b.aO,[]⟩) m.em m.x.aQ (GI.cy ga (an bY) cB) xA V).aP λv N⟨ev,s6,l6,aj,p6,B,b6⟩=>⟨T5.eW B (U u),_,ev,s6,l6,m.xz aj B b6,?_,(d.fz _).J B,V⟩;subst p6;exact(qE.mM ⟨λk=>by simp only at k;omega,λk=>by simp only at k;omega⟩ ⟨by show b.aO.length<=_;omega,bO⟩).iU V
  .simp only[eG,bP]at aH;have a1:=W.iY.mM V;let⟨E,am⟩:=dU b.aO 0;let⟨y0,y1⟩:=W.iY.aO E (aZ am);have a3:=I.aT;have c4:=(i.eB.le fL);have f4:=(i.first.le fL);have aJ:=c4.aT;have aQ:=f4.aT;have aM:=i.bG;let⟨cn,aB⟩:=dU A E.toNat;let⟨fn,al⟩:=dU H E.toNat;let⟨aR,a0⟩:=i.pL fn (aZ al);have F4:=f4.bt al;refine⟨cD,V,E,(I.ext i.x).bt am,y0,V,cn,c4.bt aB,y0,V,fn,F4,?_⟩;refine(fV (e:=[]) (hn.bT.le (i.x.le.J Ev)) hn.dm cn).aP λv m5⟨aF,bk,f,ay,ap,d⟩=>⟨Z bY d,aF,f,by rw[d.aS F4,F4],C bY d _,C bY d _,?_⟩;subst ap;have u:=d.aQ;have F3:=Kb hn.dm cn;obtain⟨fk,aC⟩:∃fk:Nat,fn=fk:=⟨fn.toNat,V⟩;subst aC;refine(vM (S:=[]) bO ay fk V).aP λv N⟨aI,bl,f,ar,ak,h⟩=>⟨Z u h,aI,f,C u h _,C u h _,?_⟩;have z6:=h.aQ;refine(iL (S:=[]) bO ((I.ext (i.x.J (d.J h))).le Ev) (ar.cy yi.aP bO cD (oh ak.2)) (oh ak.2)).aP λv m7⟨ao,aa,f,av,aE,q⟩=>⟨Z V q,ao,f,C V q _,?_⟩;have T:=(d.J h).J q;have w:=i.ext T;have z7:=q.aQ;have ax:GI (o.bu::e::z) N m7 ao aa:=GI.jY av;have a2:aa.length<=b.aO.length+3:=by rw[<-aE];simp;have:=ak.2;omega
   have az:0<aa.length:=cB;refine(uD (x:=⟨b.op,0,0,0,aa,[]⟩) w.em w.x.aQ (ax.cy (an V) V) xA V).aP λv m8⟨ev,s8,l8,aq,p8,f8,b8⟩=>⟨T5.eW f8 (U V),_,ev,s8,l8,w.xz aq f8 b8,?_,(T.fz _).J f8,V⟩;subst p8;exact(qE.mM ⟨λk=>by simp only at k;omega,λ_=>az⟩ ⟨by show aa.length<=_;omega,bO⟩).iU V
  .refine(dB (o.bu::e::z) (I.ext i.x) V).aP λv m5⟨a',la,f,ga,ea,d⟩=>⟨Z bY d,a',f,C bY d _,C bY d _,C bY d _,?_⟩;subst ea;simp only[cU,ba]at aT aU;have m:=i.ext d;have u:=d.aQ;have aa:b.op<=11:=by
    rcases W.iY.op with k|k
    .exact k.2
    .omega
   refine(uD (x:=⟨b.op,(cons.len:Int),b.cE,b.dh,b.aO,[]⟩) m.em m.x.aQ (GI.cy ga (an bY) cB) xA V).aP λv N⟨ev,s6,l6,aj,p6,B,b6⟩=>⟨T5.eW B (U u),_,ev,s6,l6,m.xz aj B b6,?_,(d.fz _).J B,V⟩;subst p6;exact(qE.mM ⟨λk=>by simp only at k;omega,λk=>by simp only at k;omega⟩ ⟨by show b.aO.length<=_;omega,bO⟩).iU V
  .rintro F ⟨g,t,m,p5,G,b5⟩;have u:=G.aQ;have ae:qE ah t (6*sw (bA.take (p+1))):=(ag.J p5).iU V;have aq:Fz [e,ad.bu] L F:=(fz.cg x4).vS G λE r=>by
    simp only[bo,nh,FV]at r⊢;grind
   have ar:g.bu=ad.bu\/ac.size<=g.bu:=V;have a2:=m.em.gr.cJ;have al:∀j∈[M.size,ab.size,L.size],j<F.size:=cB;have av:=λj J=>zR b j J;refine(mN b.op F).aP λv N⟨j,f,J,h⟩=>⟨λc a=>h.bG c (al c a),j,f,λht=>?_,λhf=>?_⟩
   .have hd:=av j J;rw[bn ht]at hd;intro m7;have q:=px m7;have a1:=m.em.bV.lt;have z6:=h.aQ;have aa:∀c∈[g.bu,e],c<N.size:=λc a=>by simp at a;omega
    have aQ:be (dA [g.bu,e] m7) (.mk N.size 0 1 1) [0]:=be.kd bB (l:=[0]) aa O O bO;have T:=h.J q;have w:=m.ext T;have a0:=w.eB.aT;refine(iL (S:=[g.bu,e]) (λc a=>q.lt (aa c a)) w.eB aQ cB).aP λv m8⟨aB,ax,f,aE,ao,B⟩=>⟨λc a=>B.bG c (q.lt (h.lt (al c a))),aB,f,?_⟩;intro m9;have d:=px m9;have z7:=q.aQ;have z8:=B.aQ;have am:∀c∈[g.bu,e],c<m8.size:=λc a=>by have:=aa c a;omega
    have aR:be (dA [g.bu,e] m9) (.mk m8.size 0 1 1) [0]:=be.kd bB (l:=[0]) am O O bO;have E9:=w.ext (B.J d);have aM:=E9.bG;refine(iL (S:=[g.bu,e]) (λc a=>d.lt (am c a)) E9.first aR cB).aP λv az⟨aC,ay,f,aF,ap,aj⟩=>⟨λc a=>aj.bG c (d.lt (B.lt (q.lt (h.lt (al c a))))),aC,f,?_⟩;have ak:=E9.ext aj;have aI:be (dA [g.bu,e] az) aB ax:=(GI.cy aE (λc a=>q.lt (aa c a)) (by rw[<-ao];simp;omega)).le ((d.J aj).fj);have aJ:be (dA [g.bu,e] az) aC ay:=GI.cy aF (λc a=>d.lt (am c a)) (by rw[<-ap];simp;omega);refine aA V _ _ _ ⟨g,t,ax,ay,⟨ak.em,ak.x,ak.kv,aI,aJ,by rw[<-ao,<-ap];simp;omega,λE r=>?_⟩,by rw[<-ao];simp;omega,ae,aq.cg (((T.J B).J d).J aj),ar,?_⟩
    .rw[<-ap]at r;rcases bU.1 r with r|r
     .exact m.pL E r
     .simp at r;omega
    grind [D.aQ]
   .have hd:=av j J;rw[aW (by simp[hf])]at hd;exact aA V _ _ _ ⟨g,t,A,H,m.ext h,V,ae,aq.cg h,ar,oh h.aQ⟩
 .have b:p=bA.length:=V;subst b;rw[fu]at ag;exact⟨o,K,P.em,ag.iU V,fz,V⟩
section
variable{m:bh}
def JR(m:bh)(s:E):Prop:=s.len<=s.cap/\∀k:Nat,k<s.len->∃v:Int,0<=v/\v<=255/\aS m s.bu (s.off+k*1)=some (.int .u8 v)
def MO{eA:E}(h:JR m eA):bK dO 44 [eA.v] m λv i=>∃a,v=vp m.size 0/\Rd m.size a 0 i/\D m i:=by
 let⟨g,f⟩:=h;apply Fj;have R:∀a:E,JR m a->∃l,vp m.size 0=vp m.size 0/\Rd m.size l 0 (m.push (.cells (db [.s a,.i 0]) ud))/\D m (m.push (.cells (db [.s a,.i 0]) ud)):=λa⟨n,o⟩=>by
  refine⟨a,O,⟨⟨0,dF.push _ _ _,dT _,bO⟩,n,λk c=>?_⟩,D.push _ _⟩;let⟨v,d,e,b⟩:=o k c;have s:=rT b;exact⟨v,d,e,iO.2 ⟨eX,(D.push m _).aS b⟩⟩
 refine⟨λh=>?_,λ_=>R eA ⟨g,f⟩⟩;simp only[bg]at h;refine⟨cD,cD,V,?_⟩;refine R _ ?_;cases eA with
 |nil=>simp at h
 |DG j p sp=>simp at h
 |mk j p t q=>
  simp only[E.ku,E.SN]at h g;refine⟨by simp[E.cut];omega,λk c=>?_⟩;have r:k<2000:=by simpa[E.cut]using c
  let⟨v,d,e,b⟩:=f k eX;exact⟨v,d,e,by simpa[E.cut]using b⟩
def Pg(f:Nat)(b:ap)(m:bh)(S:ad)(Q:Ex->Prop):Prop:=bK dO f b m λv a=>∃s e,v=.agg #[vi e.op,vi e.cE,s.v]/\jy (dA S a) s e.dv/\Q e/\D m a
def Fa(S:ad)(n:Int)(m:bh):Pg 287 [vi n] m S (.mk 0 n []=·):=by
 apply Jn;simp -zeta only[dR];intro a b d;have c:D m b:=(D.push m _).J (D.push a _);exact⟨_,.mk 0 n [],O,pX,O,c.aV bY _ _⟩
def pO(S:ad)(n:Int)(m:bh):Pg 322 [vi n] m S (.mk 12 n []=·):=by
 apply HB;simp -zeta only[dR];intro a b d;have c:D m b:=(D.push m _).J (D.push a _);exact⟨_,.mk 12 n [],O,pX,O,c.aV bY _ _⟩
def NM{S:ad}{s:E}{dv:ax}(h:jy (dA S m) s dv)(a cE:Int):Pg 320 [vi a,vi cE,s.v] m S (.mk a cE dv=·):=by
 apply OE;simp -zeta only[dR];intro d c;have b:=py c;exact⟨s,.mk a cE dv,O,h.le b.fj,O,b⟩
def Fy{a P:Nat}{b:E}(q:Rd a b P m)(x:P+4<=10^16):bK dO 339 [vp a 0] m λv h=>∃k:Int,v=vi k/\Rd a b (P+4) h/\Fz [a] m h:=by
 apply Jz (a,0);refine(dW q V 6).aP λv y⟨d,e,_,_,r,l⟩=>⟨d,e,?_⟩;refine(dW r V 6).aP λv z⟨f,e,_,_,s,n⟩=>⟨f,e,?_⟩;refine(dW s V 40).aP λv w⟨g,e,_,_,c,o⟩=>⟨g,e,?_⟩;intro i;have j:=px i;have u:be (dA [a] i) (.mk w.size 0 10 10) [d,f,0,1,2,-1,3,g,999,-998]:=be.kd bB (by have:=c.lt;simpa using this) O O bO;refine(og (c.ext j) V u bO).aP λv A⟨k,e,_,t,p⟩=>⟨k,e,k,O,t,((l.J n).J o).cg j|>.J p⟩
end
section
variable{m:bh}
def ae4(e:Ex):Prop:=∀(m:bh)(t:E),jy m t e.dv->∀left:Int,left<=600->wU 324 [.agg #[vi e.op,vi e.cE,t.v],vi left] m λk=>k= -1\/0<=k/\k+e.n=left
def MP:∀e:Ex,ae4 e:=by
 refine Ex.ind ?_;intro F cE dv r m G b left z;simp only[Ex.abN,Ex.ZW,Ex.Xx,Ex.Yv]at*;apply Fk;simp -zeta only[dR];intro a;have f:=px a;have o:∀i∈[m.size],i<a.size:=by simp[a]
 have d:∀{M:bh},D m M->∃k:Int,vi (-1:Int)=vi k/\(k= -1\/0<=k/\k+((1+en dv:Nat):Int)=left)/\D m M:=cB;refine⟨λ_=>d f,λl=>?_⟩;simp only[dk]at l;have q:=b.aT;rw[de (b:=left -1) V V];refine gL (n:=dv.length) (q▸b.kM) (λk(v:Int) M=>D a M/\0<=v/\v+1+en (dv.take k)=left) ⟨cY,V,bO⟩ ?_;rintro k v M I μ y ⟨g,J,K⟩ E
 have u:=f.J g;refine⟨λh=>?_,λh=>?_⟩
 .simp only[bg]at h;let⟨e,c⟩:=dU dv k;let⟨s,p,j,g1,g2⟩:=b.bt c;refine⟨V,V,_,u.aS j,_,u.aS g1,_,u.aS g2,?_⟩;refine(r e (aZ c) M s (jy.le u.le p) v V).bL g o λC B A t H=>⟨_,O,λ_=>d (u.J t),λw=>?_⟩;grind [decide_eq_false_iff_not,OV]
 .grind [decide_eq_false_iff_not,eQ]
def Fl{t:E}{e:Ex}(h:jy m t e.dv):wU 293 [.agg #[vi e.op,vi e.cE,t.v]] m λk=>k= -1\/k=e.n/\e.n<=30:=by
 apply Jt;simp -zeta only[dR];intro a;have b:=px a;have g:∀d∈[m.size],d<a.size:=by simp[a]
 refine(MP e a t (jy.le b.le h) 30 cD).bL (D.cT a) g λn j i c l=>⟨_,O,λ_=>⟨-1,O,bC O,b.J c⟩,λf=>?_⟩;simp only[dk]at f;rw[de (b:=30 -n) V V];exact⟨_,O,bR ⟨V,V⟩,b.J c⟩
def QT{s:E}{l:ab}(h:be m s l)(e:Int):wU 286 [s.v,vi e] m λk=>-1<=k/\k<l.length:=by
 apply Jw;have c:=h.aT;refine gP (n:=l.length) (c▸h.kM) (λ_ M=>D m M) cY ?_;rintro k M I μ g a f
 refine⟨λb=>?_,λ_=>⟨-1,O,⟨V,V⟩,a⟩⟩;simp only[bg]at b;let⟨x,d⟩:=dU l k;exact⟨V,V,x,(h.ext a).bt d,λ_=>⟨k,O,⟨V,V⟩,a⟩,λ_=>f V _ a⟩
def QG(f:E)(m:bh):bK dO 201 [f.v] m λv a=>v=.agg #[f.v]/\D m a:=by
 apply QF;simp -zeta only[dR];intro b c;exact⟨trivial,(D.push m _).aV bY _ _⟩
def WT{p:E}(r:Int):bK dO 257 [p.v,vi r] m λv a=>v=.agg #[p.v,vi r,vi 0,vi 0,E.v .nil]/\D m a:=by
 apply QU;simp -zeta only[dR];intro b c;exact⟨trivial,(D.push m _).aV bY _ _⟩
end
section
variable{b:ad}{m:bh}{c d p:E}{a:av}
def Lq(v:∀a∈b,a<m.size){l:ab}(h:be m c l)(w:l.length<=10^12)(t:Int):oA 340 [c.v,vi t] m b λa=>(∀y∈a,0<=y/\y<(l.length:Int))/\a.length<=l.length:=by
 apply DB;intro B;have q:=h.aT;refine gL (n:=l.length) (q▸h.kM) (λk s M=>D m M/\∃a,GI b m M s a/\(∀y∈a,0<=y/\y<(l.length:Int))/\a.length<=k) ⟨D.push m _,[],GI.gN b m,bO,bY⟩ ?_;rintro k s M I μ z ⟨e,a,g,f,A⟩ j
 refine⟨λi=>?_,λi=>⟨s,a,O,g,⟨f,V⟩,e⟩⟩;simp only[bg]at i;let⟨x,r⟩:=dU l k;refine⟨V,V,x,(h.ext e).bt r,λ_=>?_,λ_=>j V _ _ ⟨e,a,g,f,V⟩⟩;intro C;exact GI.nE g (e.fz []) V λE u p o _ _=>j V _ _ ⟨o.ext,_,p,λy d=>by
  rcases bU.1 d with d|d
  .exact f y d
  .simp at d;omega,eX⟩
def Y8(m:bh)(b:ae)(p:eE):Prop:=∃a x y z,b=[.s a,.i p.bQ,.i x,.i y,.s z]/\be m a p.aY
abbrev tz(m:bh)(s:E)(l:av):Prop:=fW m 5 (Y8 m) s l
theorem Y8.le{m b:bh}(h:Le m b){a:ae}{p:eE}:Y8 m a p->Y8 b a p:=λ⟨c,x,y,z,d,e⟩=>⟨c,x,y,z,d,e.le h⟩
def tz.le{m a:bh}(b:Le m a){s:E}{l:av}(h:tz m s l):tz a s l:=by grind [fW.le,Y8.le]
theorem tz.bt{s:E}{l:av}(h:tz m s l){k:Nat}{p:eE}(d:l[k]? =some p):∃a,be m a p.aY/\aS m s.bu (s.off+k*5)=some a.v/\aS m s.bu (s.off+k*5+1)=some (vi p.bQ):=by
 obtain⟨e,⟨a,x,y,z,rfl,c⟩,b⟩:=h.kY k p d;exact⟨a,c,b 0 _ O,b 1 _ O⟩
def ClQ(b:af)(a:av)(t y:Int):Prop:=∃(f:Nat)(q:eE),y=f/\a[f]? =some q/\0<q.aY.length/\(0<t->∃d∈b,d.eB.length=0/\q.aY.getLast?=some d.qe/\q.bQ=d.to)
def Ct(hS:∀j∈b,j<m.size){g:af}(hd:dE m d g)(ht:eT g)(o:tz m p a)(hf:a.length<=1000)(t:Int):oA 346 [.agg #[d.v,p.v],vi t] m b λc=>(∀y∈c,ClQ g a t y)/\c.length<=a.length:=by
 apply GX;simp -zeta only[dR];intro e J;have K:=px e;have F:∀j∈[m.size],j<e.size:=by simp[e]
 have R:GI b e J (.mk e.size 0 0 0) []:=GI.gN b e;have x2:=px J;have Z:=o.aT;refine gL (n:=a.length) (Z▸o.kM) (λk s M=>D e M/\∃c,GI b e M s c/\(∀y∈c,ClQ g a t y)/\c.length<=k) ⟨x2,[],R,bO,bY⟩ ?_;rintro k s M ab μ hk ⟨w,c,h,i,ad⟩ q
 have u:=K.J w;refine⟨λE=>?_,λE=>⟨s,c,O,h.cV (λ_ C=>C) K.aQ,⟨i,V⟩,u⟩⟩;simp only[bg]at E;let⟨r,H⟩:=dU a k;let⟨z,l,A,P⟩:=o.bt H;have ac:=l.aT;have ae:=l.kM;refine⟨V,V,_,u.aS A,λS=>?_,λ_=>q V _ _ ⟨w,c,h,i,V⟩⟩;simp only[bg]at S;rw[de (b:=(z.len:Int) -1) V V];let⟨y,I⟩:=dU r.aY (((z.len:Int) -1).toNat);refine⟨V,V,_,u.aS A,V,V,y,(l.ext u).bt I,V,V,_,u.aS P,?_⟩;refine(EJ (hd.le u.le) ht y r.bQ).bL w F λah m3 G L v=>⟨_,O,λY=>?_,λ_=>q V _ _ ⟨v,c,h.ext L,i,V⟩⟩;intro m4;refine GI.nE (h.ext L) (v.fz []) V λai M' Q B _ _=>⟨D.sM (v.bZ _) B.ext F,q V _ _ ⟨B.ext,_,Q,λaa f=>?_,eX⟩⟩;rcases bU.1 f with f|f
 .exact i aa f
 .simp at f Y;refine⟨k,r,f,H,V,λC=>?_⟩;rcases G with G|⟨ag,N,_,X,T,U,W⟩
  .omega
  .refine⟨N,aZ X,T,?_,W.symm⟩;rw[List.getLast?_eq_getElem?,U,<-I];congr 1;omega
def tX{j:af}{v:ab}(hd:dE m d j)(k:eT j)(q:tz m p a)(o:a.length<=1000)(r:be m c v)(t:Int):sS 341 [.agg #[d.v,p.v],c.v,vi t] m:=by
 apply Jb;simp -zeta only[dR];intro e;have g:=px e;have f:∀n∈[m.size],n<e.size:=by simp[e]
 refine(qQ (hd.le g.le) k t).jY.bL (D.cT e) f λl x h _=>⟨_,O,λ_=>rA (g.J h),λ_=>?_⟩;have b:=g.J h;refine(Ct (b:=[]) bO (hd.le b.le) k (tz.le b.le q) o t).bL h f λA w y _ _ i s=>⟨_,O,λ_=>rA (b.J i),λ_=>?_⟩;exact(fH (r.ext (b.J i)) t).jY.bL s f λl z u _=>⟨_,O,rA ((b.J i).J u)⟩
end
def QD{a P:Nat}{p:E}{m:bh}(h:Rd a p P m)(Q:P+1<=10^16){q v x:E}{g:af}{r:av}{L:ab}(hd:dE (dA [a] m) q g)(I:eT g)(H:tz (dA [a] m) v r)(B:r.length<=1000)(J:be (dA [a] m) x L):
 bK dO 334 [vp a 0,.agg #[q.v,v.v],x.v] m λw u=>∃k:Int,w=vi k/\(k=1\/0<=k/\k<=4/\k<=g.length)/\Rd a p (P+1) u/\Fz [a] m u:=by
 apply I9 (a,0)
 simp -zeta only[dR]
 intro o d
 have U:=pz o
 have M:=px o
 have y:=px d
 have z:D m d:=M.J y
 have S:=h.lt
 have t:∀c∈[m.size],c<d.size/\c∉[a]:=λc l=>by have:=y.aQ;simp at l⊢;omega
 have K:be (dA [a] d) (.mk o.size 0 7 7) [1,1,3,0,2,4,3]:=be.kd bB eX O O bO
 have R:=hd.aT
 refine(og (h.ext z) V K bO).aP λw e⟨k,A,C,j,i⟩=>⟨i.eW t,k,A,?_⟩
 have b:Fz [a] m e:=(z.fz _).J i
 have s:0<=k/\k<=4:=by simp at C;omega
 refine⟨λ_=>⟨1,O,bC O,j,b⟩,λG=>?_⟩
 simp only[dk]at G
 have n:Le (dA [a] m) e:=(b.fj λ_ h=>h).J fL
 have F:∀c∈[m.size],c<e.size:=λc l=>cr (t c l).1 i.aQ
 refine(tX (hd.le n) I (tz.le n H) B (J.le n) k).bL (D.cT e) F λN T f _=>⟨_,O,λ_=>⟨1,O,bC O,j.ext f,b.cg f⟩,λ_=>⟨k,O,bR ⟨s.1,s.2,V⟩,j.ext f,b.cg f⟩⟩

section
variable{t:Int}{x:Ex}
def Pt:af:=[⟨0,0,[[],[0,1]]⟩,⟨0,0,[]⟩,⟨0,0,[[],[3,0,3]]⟩]
def Xz:af:=[⟨0,0,[[1,3]]⟩,⟨1,0,[]⟩,⟨0,0,[[1,1,0],[0],[3]]⟩,⟨0,1,[]⟩]
def vz:List af:=Pt::Xz.map λd=>Pt++[d]
def Uh:List (ab×Int):=[([],0),([1],0),([1,1],1),([1],1),([1,0],1),([2,1],1),([1,1],0),([3],0),([0],1),([0,1],1),([3,0],3),([3],1),([1,3,0],0),([0],0),([0,0],0),([1,0],0)]
@[grind cases] structure GP (ds:af) (fs:av):Prop where
 ds:ds∈vz
 ju:0<fs.length
 p7:fs.length<=4
 eR:∀q∈fs,(q.aY,q.bQ)∈Uh
def Lo(t:Int):Prop:=t=0\/t=1\/t=3
instance(t:Int):Decidable (Lo t):=inferInstanceAs (Decidable (_\/_))
def Ty(b:af)(t:Int):Prop:=0<=t/\t<=(b.length:Int)
instance(b:af)(t:Int):Decidable (Ty b t):=inferInstanceAs (Decidable (_/\_))
section
variable{b:af}{e:av}
theorem tA:∀b∈vz,3<=b.length/\b.length<=4:=cD
def VQ:∀b∈vz,∀t∈[(0:Int),1,2,3,4],∀c∈(cX b t).take 2,((cX b t).head?=some c\/t∉cW b c)->(cW b c).length<=3/\(∀f∈cW b c,Lo f)/\(Lo t->(cW b c).length=0):=cD
def Xf:∀b∈vz,0<(cX b 1).length/\0<(cX b 3).length/\(cX b 0).length=0:=cD
def VO:∀b∈vz,∀d∈b,d.eB.length=0->∀s∈Uh,s.1.getLast?=some d.qe->s.2=d.to->∀f∈s.1.dropLast,Lo f:=cD
theorem RT:∀b∈vz,cX b 1=[0,1]/\cX b 3=[2,3]/\cW b 0=[]/\cW b 1=[0,1]/\cW b 2=[]/\cW b 3=[3,0,3]:=cD
def DP:∀b∈vz,(∀t∈[(0:Int),1,2,3,4],∀c∈cX b t,(cW b c).length<=3/\∀f∈cW b c,Ty b f)/\(∀t∈[(0:Int),1,2,3,4],(cX b t).length<=3)/\(∀d∈b,Ty b d.qe):=cD
def VP:∀b∈vz,∀t∈[(1:Int),3,4],(t:Int)<=b.length->(∀d∈b[t.toNat -1]?,d.eB.length≠0)->0<(cX b t).length:=cD
def AY:∀s∈Uh,s.1.length<=3/\(∀t∈s.1,0<=t/\t<=3)/\0<=s.2/\s.2<=3:=cD
def aaI(a:0<=t)(b:t<=4):t∈[(0:Int),1,2,3,4]:=eX
def Ty.adR(hd:b∈vz)(h:Ty b t):t∈[(0:Int),1,2,3,4]:=aaI h.1 (VE (tA b hd) h.2)
def GP.ty(h:GP b e)(a:0<=t)(c:t<=3):Ty b t:=⟨a,oh (tA b h.ds)⟩
theorem Lo.ty(hd:b∈vz)(h:Lo t):Ty b t:=by have:=tA b hd;unfold Lo at h;constructor<;>omega
end
def Za:∀b∈vz,∀d∈b,0<d.eB.length->d.eB.length<=3/\d.qe=0/\d.to=0/\∀f∈d.eB,f.length<=3/\∀t∈f,0<=t/\t<=(b.length:Int):=cD
def Zb:∀b∈vz,∀k∈List.range b.length,∀d∈b[k]?,d.eB.length=0->(∀e∈b.take k,¬(e.eB.length=0/\e.qe=d.qe/\e.to=d.to))/\Ty b d.qe/\Ty b d.to:=cD
def wX{b:af}(h:b∈vz):eT b:=
 ⟨(tA b h).2,λk d a=>⟨Za b h d (aZ a),Zb b h k (qY.2 (br a)) d a⟩⟩
@[grind cases] structure XF (ds:af) (nf a:Nat) (op cE:Int) (n:Nat):Prop where
 o:0<=op/\op<=13
 var:op=12->0<=cE/\cE<(a:Int)
 Nj:op=13->n=2
 aeF:op=7->n=3
 lY:op=8->n=1+(cX ds cE).length/\0<(cX ds cE).length
 jE:op=9->0<=cE/\cE<(nf:Int)
def xb(b:af)(c cE:Int):Nat->Nat
 |0=>0
 |i+1=>if c=13 then 1 else FY b c cE i
inductive WX(b:af)(d:Nat):Nat->Ex->Prop
 |mk {a:Nat} {c cE:Int} {dv:ax} (iY:XF b d a c cE dv.length) (hk:∀(i:Nat)(e:Ex),dv[i]? =some e->WX b d (a+xb b c cE i) e):WX b d a (.mk c cE dv)
variable{b:af}{d a:Nat}{c cE:Int}{dv:ax}
def WX.cw{e:Ex}(h:WX b d a e):XF b d a e.op e.cE e.dv.length/\∀(i:Nat)(x:Ex),e.dv[i]? =some x->WX b d (a+xb b e.op e.cE i) x:=by
 cases h with
 |mk iY c=>exact⟨iY,c⟩
def aeL(a:c≠13)(d:c≠8)(i:Nat):xb b c cE i=0:=by
 cases i with
 |zero=>rfl
 |succ i=>show(if c=13 then 1 else FY b c cE i)=0;rw[aW a,Pv d]
theorem WX.iY(k:0<=c/\c<=11)(g:c=7->dv.length=3)(f:c≠8)(i:c=9->0<=cE/\cE<(d:Int))(j:∀e∈dv,WX b d a e):WX b d a (.mk c cE dv):=
 .mk ⟨⟨V,V⟩,λh=>V,λh=>V,g,λh=>absurd h f,i⟩ λl e h=>by rw[aeL V f];exact j e (aZ h)
def WX.rV(n:Int):WX b d a (.mk 0 n []):=by grind [WX.iY]
def WX.var(h:0<=cE/\cE<(a:Int)):WX b d a (.mk 12 cE []):=.mk ⟨cD,λ_=>h,λh=>V,λh=>V,λh=>V,λh=>V⟩ bO
def WX.lt{y:Ex}(e:WX b d a x)(f:WX b d (a+1) y):WX b d a (.mk 13 0 [x,y]):=
 .mk ⟨cD,λh=>V,λ_=>O,λh=>V,λh=>V,λh=>V⟩ λi g c=>by
  rcases i with _|_|i
  .simp at c;subst c;exact e
  .simp at c;subst c;exact f
  .simp at c
theorem WX.mt{l:ax}(k:WX b d a x)(n:l.length=(cX b cE).length)(m:0<l.length)(j:∀(i:Nat)(e:Ex)(f:Int),l[i]? =some e->(cX b cE)[i]? =some f->WX b d (a+(cW b f).length) e):WX b d a (.mk 8 cE (x::l)):=
 .mk ⟨cD,λh=>V,λh=>V,λh=>V,λ_=>⟨eX,V⟩,λh=>V⟩ λi e c=>by
  rcases i with _|i
  .simp at c;subst c;exact k
  .simp at c;let⟨f,g⟩:=dU (cX b cE) i (oh (br c));have:=j i e f c g;show WX b d (a+FY b 8 cE i) e;grind [Pu]
end
end Go.Proofs.YtbbbdejieenniaaGreat
