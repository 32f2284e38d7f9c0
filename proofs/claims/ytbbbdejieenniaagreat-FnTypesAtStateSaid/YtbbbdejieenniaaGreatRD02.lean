/- Part of a proof. -/
import Derived.Test.YtbbbdejieenniaaGreatRD01
set_option linter.all false
set_option maxHeartbeats 8000000
set_option maxRecDepth 100000
namespace Go.Proofs.YtbbbdejieenniaaGreat
open Go.Vc
section
variable{w:Int}{r:ab}
structure dq where
 bT:Int
 js:Int
 bJ:ab
abbrev ah:=List dq
structure bW where
 fQ:Int
 pc:Int
 bH:Int
 aU:ab
 bI:ab
 cC:ab
abbrev an:=List bW
structure St where
 eC:Int
 iQ:Int
 dg:Int
 dL:Int
 cy:ab
 aR:ah
 bq:an
def bt(l:ab)(i:Int):Int:=l.getD i.toNat 0
def gX(l:ab)(i:Int)(v:Int):ab:=l.set i.toNat v
def ix(w:Int):Nat:=(w -1000).toNat
def ln(w:Int):Prop:=-999<=w/\w<=999
def jq(h:ah)(a:Nat):Prop:=∃c,h[a]? =some c/\0<c.bT
def iH(h:ah)(w:Int):Prop:=1000<=w/\jq h (ix w)
def vO(h:ah)(w:Int):Prop:=ln w\/iH h w
def kX:dq:=⟨0,0,[]⟩
def bu(h:ah)(w:Int):dq:=(h[ix w]?).getD kX
def afp:eG:=⟨[],[],0,0,[]⟩
def dG(a:cZ)(n:Int):eG:=(a.di[n.toNat]?).getD afp
def cF(a:cZ):Int:=(gR a.bS).length
def iW:ab->Nat->Int
 |[],_=>0
 |w::b,a=>(if w=1000+(a:Int)then 1 else 0)+iW b a
def jA:ah->Nat->Int
 |[],_=>0
 |c::h,a=>iW c.bJ a+jA h a
def fB:ab->ab->Nat->Int
 |r::c,o::b,a=>(if r=1000+(a:Int)then o else 0)+fB c b a
 |_,_,_=>0
def j8:an->Nat->Int
 |[],_=>0
 |f::b,a=>fB f.aU f.bI a+j8 b a
def eU:an->Nat->Int
 |[],_=>0
 |f::b,a=>iW f.cC a+eU b a
def lB(a:cZ)(x:Instr)(k:Nat):Bool:=(dG a x.cE).df.any (λy=>y==(k:Int))
def jW(a:cZ)(x:Instr):Nat->ab->ab
 |_,[]=>[]
 |k,r::b=>if lB a x k then jW a x (k+1) b else r::jW a x (k+1) b
def fK(a:cZ)(x:Instr):Nat->ab->ab
 |_,[]=>[]
 |k,r::b=>if lB a x k then r::fK a x (k+1) b else fK a x (k+1) b
def cO(a:cZ)(x:Instr):ab:=
 if x.op=15\/x.op=6\/x.op=10\/x.op=11\/x.op=18\/x.op=23 then x.aO
 else if x.op=16\/x.op=17 then x.aO.take 1
 else if x.op=9\/x.op=24 then jW a x 0 x.aO
 else[]
def cL(aU bI:ab):ab->ab
 |[]=>bI
 |r::a=>cL aU (if 1000<=bt aU r then gX bI r (bt bI r -1)else bI) a
def dQ(f:bW)(a:ab):ab:=a.map (bt f.aU)
def oC(l:ab):ab:=l.filter (λw=>decide (1000<=w))
def oI(h:ah)(a:ab):Prop:=∀w∈a,1000<=w->(bu h w).bT+iW a (ix w)<=999999
def Gb(h:ah)(f:bW)(x:Instr):Prop:=
 let w:=bt f.aU (bt x.aO 0)
 iH h w/\oC (bu h w).bJ=dQ f (x.aO.drop 1)/\((bu h w).bT=1\/oI h (bu h w).bJ)/\(x.op=17->bt f.cC (bt x.aO 0)=0)
def zS(a:cZ)(h:ah)(w:Int):Prop:=
 iH h w/\0<=(bu h w).js -cF a/\(bu h w).js -cF a<a.di.length/\
  (dG a ((bu h w).js -cF a)).aY.length=(bu h w).bJ.length+1/\(dG a ((bu h w).js -cF a)).df.length=0/\
  ((bu h w).bT=1\/oI h (bu h w).bJ)
def JY(h:ah)(f:bW)(x:Instr):Prop:=
 x.dh≠0->bt f.cC (x.dh -1)≠0->(bu h (bt f.cC (x.dh -1))).bJ.length=x.aO.length
def Po(a:cZ)(h:ah)(f:bW)(x:Instr):Prop:=∀r∈fK a x 0 x.aO,1000<=bt f.aU r->iH h (bt f.aU r)
def Yh(l:ab):Prop:=∀n∈l,n=0
@[grind cases] structure pb (im:cZ) (s:St) (f:bW) (x:Instr) (bI:ab):Prop where
 nn:∀o∈bI,0<=o
 bH:lO x.op->bt bI x.bH<=0
 oN:(x.op=1\/x.op=2\/x.op=3\/x.op=4\/x.op=5\/x.op=20)->∀r∈x.aO,bt f.aU r<1000
 kD:x.op=6->JY s.aR f x
 df:(x.op=9\/x.op=24)->Po im s.aR f x
 ov:(x.op=24\/x.op=23)->Yh bI/\Yh f.cC
 tU:x.op=23->1<s.bq.length\/bt f.aU (bt x.aO 0)<1000
 apply:x.op=11->zS im s.aR (bt f.aU (bt x.aO 0))
 dup:x.op=14->iH s.aR (bt f.aU (bt x.aO 0))/\(bu s.aR (bt f.aU (bt x.aO 0))).bT<999999
 Bg:x.op=15->1000<=bt f.aU (bt x.aO 0)
 Ql:(x.op=16\/x.op=17)->Gb s.aR f x
 tO:x.op=19->iH s.aR (bt f.aU (bt x.aO 0))/\x.cE<(bu s.aR (bt f.aU (bt x.aO 0))).bJ.length
 xW:x.op=21->iH s.aR (bt f.aU (bt x.aO 0))/\(bu s.aR (bt f.aU (bt x.aO 0))).js∈cT im.bS x.cE
def J6(n:Int):Int:=if n< -999 then -999 else if 999<n then 999 else n
def TB(c a b:Int):Int:=
 if c=1 then J6 (a+b)else if c=2 then J6 (a -b)else if c=3 then J6 (a*b)else if c=4/\a<b then 1 else 0
def fG:ah->Nat
 |[]=>0
 |c::h=>if c.bT=0 then 0 else fG h+1
def kD(h:ah)(a:Nat)(c:dq):ah:=if a=h.length then h++[c]else h.set a c
def qv(h:ah)(w:Int):ah:=h.set (ix w) {bu h w with bT:=(bu h w).bT+1}
def iU(h:ah)(w:Int):ah:=h.set (ix w) {bu h w with bT:=(bu h w).bT -1}
def kW(h:ah):ab->ah
 |[]=>h
 |w::a=>kW (qv h w) a
def lL(h:ah):Nat->Nat
 |0=>0
 |n+1=>match h[n]? with
  |some c=>if c.bT=0 then lL h n else n+1
  |none=>lL h n
def pG(h:ah):ah:=h.take (lL h h.length)
def D0:ah->Nat
 |[]=>0
 |c::h=>(if 0<c.bT then c.bT.toNat+c.bJ.length else 0)+D0 h
def mr:∀{e:ah}{f:Nat}{b d:dq},e[f]? =some b->D0 (e.set f d)+(if 0<b.bT then b.bT.toNat+b.bJ.length else 0)=D0 e+(if 0<d.bT then d.bT.toNat+d.bJ.length else 0)
 |[],f,b,d,e=>by simp at e
 |i::e,0,b,d,g=>by simp at g;subst g;simp only[ni,D0];omega
 |i::e,f+1,b,d,g=>by
  have:=mr (e:=e) (f:=f) (b:=b) (d:=d) cB;grind [D0]
theorem dy{h:ah}(b:iH h w):h[ix w]? =some (bu h w)/\0<(bu h w).bT:=by
 obtain⟨_,d,a,c⟩:=b;simp[bu,a,c]
open Classical in
noncomputable def jL (h:ah) (c:ab):ah:=
 match c with
 |[]=>h
 |w::r=>
  if b:iH h w then
   if a:(bu h w).bT=1 then jL (h.set (ix w) kX) ((bu h w).bJ.reverse++r)
   else jL (iU h w) r
  else jL h r
termination_by D0 h+c.length
decreasing_by
 .let⟨e,a⟩:=dy b
  have:=mr (d:=kX) e
  simp only[kX,bn a]at this
  simp[kX]
  simp at this
  omega
 .let⟨e,a⟩:=dy b
  have b:=mr (d:={bu h w with bT:=(bu h w).bT -1}) e
  simp only[bn a]at b
  rw[bn V]at b
  simp[iU]
  omega
 .simp
def ur(h:ah):jL h []=h:=by rw[jL]
def uv{h:ah}(b:iH h w)(a:(bu h w).bT=1):jL h (w::r)=jL (h.set (ix w) kX) ((bu h w).bJ.reverse++r):=by
 grind [jL]
def sG{h:ah}(b:iH h w)(a:(bu h w).bT≠1):jL h (w::r)=jL (iU h w) r:=by
 grind [jL]
def sH{h:ah}(a:¬iH h w):jL h (w::r)=jL h r:=by
 rw[jL,dif_neg a]
def bW.cG(f:bW)(r w o:Int):bW:={f with aU:=gX f.aU r w,bI:=gX f.bI r o}
def iV(w:Int):Int:=if 1000<=w then 1 else 0
def fe(bI:ab):ab->ab
 |[]=>bI
 |r::a=>fe (gX bI r (bt bI r+1)) a
def eP(n:Nat):ab:=List.replicate n 0
def fJ(df:ab):Nat->ab->ab
 |_,[]=>[]
 |k,w::a=>(if df.any (λy=>y==(k:Int))then 0 else iV w)::fJ df (k+1) a
def cz(a:cZ)(g c:Int)(b:ab):bW:=
 ⟨g,0,c,b++eP ((dG a g).aU.toNat -b.length),fJ (dG a g).df 0 b++eP ((dG a g).aU.toNat -b.length),eP (dG a g).aU.toNat⟩
open Classical in
noncomputable def iZ (h:ah) (w:Int):ah:=
 if(bu h w).bT=1 then pG (h.set (ix w) kX)else kW (iU h w) (oC (bu h w).bJ)
def tH(l:ab)(n:Int):Nat:=l.findIdx (λy=>y==n)
open Classical in
noncomputable def eD (b:cZ) (s:St) (a:an) (f:bW) (x:Instr) (bI:ab):St:=
 let g:bW:={f with bI:=bI,pc:=f.pc+1}
 let c:=bt x.aO 0
 let w:=bt f.aU c
 if x.op=0 then{s with bq:=a++[g.cG x.bH x.cE 0]}
 else if x.op=1\/x.op=2\/x.op=3\/x.op=4 then{s with bq:=a++[g.cG x.bH (TB x.op w (bt f.aU (bt x.aO 1))) 0]}
 else if x.op=5 then{s with cy:=s.cy++[w],bq:=a++[g.cG x.bH w 0]}
 else if x.op=6 then
  if x.dh≠0/\bt f.cC (x.dh -1)≠0 then
   {s with aR:=s.aR.set (ix (bt f.cC (x.dh -1))) ⟨1,x.cE,dQ f x.aO⟩,bq:=a++[{g with cC:=gX f.cC (x.dh -1) 0}.cG x.bH (bt f.cC (x.dh -1)) 1]}
  else{s with aR:=kD s.aR (fG s.aR) ⟨1,x.cE,dQ f x.aO⟩,bq:=a++[g.cG x.bH (1000+fG s.aR) 1]}
 else if x.op=10 then{s with aR:=kD s.aR (fG s.aR) ⟨1,cF b+x.cE,dQ f x.aO⟩,bq:=a++[g.cG x.bH (1000+fG s.aR) 1]}
 else if x.op=14 then{s with aR:=qv s.aR w,bq:=a++[{g with bI:=gX bI c (bt bI c+1)}]}
 else if x.op=15 then{s with aR:=pG (jL s.aR [w]),bq:=a++[g]}
 else if x.op=16\/x.op=17 then
  let d:={g with bI:=fe bI (x.aO.drop 1)}
  if(bu s.aR w).bT=1/\x.op=17 then{s with aR:=s.aR.set (ix w) ⟨-1,0,eP (bu s.aR w).bJ.length⟩,bq:=a++[{d with cC:=gX f.cC c w}]}
  else{s with aR:=iZ s.aR w,bq:=a++[d]}
 else if x.op=18 then{s with bq:=a++[g.cG x.bH w (iV w)]}
 else if x.op=19 then{s with bq:=a++[g.cG x.bH (bt (bu s.aR w).bJ x.cE) 0]}
 else if x.op=20 then{s with bq:=a++[{g with pc:=if w=0 then x.cE else f.pc+1}]}
 else if x.op=21 then{s with bq:=a++[{g with pc:=bt x.gE (tH (cT b.bS x.cE) (bu s.aR w).js)}]}
 else if x.op=22 then{s with bq:=a++[{g with pc:=x.cE}]}
 else if x.op=9 then{s with dg:=s.dg+1,bq:=a++[g,cz b x.cE x.bH (dQ f x.aO)]}
 else if x.op=24 then{s with dg:=s.dg+1,bq:=a++[cz b x.cE f.bH (dQ f x.aO)]}
 else if x.op=11 then
  {s with dg:=s.dg+1,aR:=iZ s.aR w,bq:=a++[g,cz b ((bu s.aR w).js -cF b) x.bH ((bu s.aR w).bJ++[bt f.aU (bt x.aO 1)])]}
 else -- 23
  match a.getLast? with
  |none=>{s with eC:=0,iQ:=w,bq:=[]}
  |some p=>{s with bq:=a.dropLast++[p.cG f.bH w (iV w)]}
def qM(a:Int):Prop:=a=9\/a=11\/a=24
instance(a:Int):Decidable (qM a):=by unfold qM;infer_instance
def fF(a:cZ)(f:bW):Instr:=((dG a f.fQ).eA[f.pc.toNat]?).getD ⟨0,0,0,0,[],[]⟩
open Classical in
noncomputable def qy (a:cZ) (s:St):St:=
 if s.eC≠3 then s else
 match s.bq.getLast? with
 |none=>s
 |some f=>
  if qM (fF a f).op/\s.dg=s.dL then{s with eC:=1}
  else if pb a s f (fF a f) (cL f.aU f.bI (cO a (fF a f)))then
   eD a s s.bq.dropLast f (fF a f) (cL f.aU f.bI (cO a (fF a f)))
  else{s with eC:=2}
end
section
variable{f b:Nat}{h g:ah}{e e':Nat->Int}{w:Int}{c d:dq}
def pB:∀(l r:ab)(f:Nat),iW (l++r) f=iW l f+iW r f
 |[],r,f=>by simp[iW]
 |w::l,r,f=>by simp only[eT,iW,pB l r f];omega
def ED:∀(l:ab)(f:Nat),iW l.reverse f=iW l f
 |[],f=>O
 |w::l,f=>by simp only[VC,pB,ED l f,iW];omega
def lD:∀(l:ab)(f:Nat),0<=iW l f
 |[],f=>by simp[iW]
 |w::l,f=>by have:=lD l f;simp only[iW];split<;>omega
theorem rY:∀{l:ab}{f:Nat},(1000+(f:Int))∉l->iW l f=0
 |[],f,_=>O
 |w::l,f,h=>by
  simp only[bo,FZ]at h;simp only[iW,rY h.2];grind
def wJ:∀{l:ab}{f:Nat},(1000+(f:Int))∈l->1<=iW l f
 |[],f,h=>by simp at h
 |w::l,f,h=>by
  simp only[iW];rcases bo.1 h with rfl|h
  .rw[bn O];have:=lD l f;omega
  .have:=wJ h;split<;>omega
theorem Tv{l:ab}(h:0<iW l f):(1000+(f:Int))∈l:=
 by grind [rY]
def YD{n:Nat}:iW (eP n) f=0:=rY λh=>by have:=abo h;omega
theorem EC:∀(l:ab)(f:Nat),iW (oC l) f=iW l f
 |[],f=>O
 |w::l,f=>by
  have:=EC l f;grind [oC,iW]
def pC:∀(l:ab)(f:Nat),iW l f<=l.length
 |[],f=>by simp[iW]
 |w::l,f=>by have:=pC l f;simp only[iW,dz];split<;>omega
def yV:∀(h k:ah)(f:Nat),jA (h++k) f=jA h f+jA k f
 |[],k,f=>by simp[jA]
 |c::h,k,f=>by simp only[eT,jA,yV h k f];omega
def yW:∀(h:ah)(f:Nat),0<=jA h f
 |[],f=>by simp[jA]
 |c::h,f=>by have:=yW h f;have:=lD c.bJ f;simp only[jA];omega
theorem EH:∀{h:ah}{f:Nat}{c:dq}(e:dq)(_:h[f]? =some c)(b:Nat),jA (h.set f e) b=jA h b -iW c.bJ b+iW e.bJ b
 |[],f,c,e,h,b=>by simp at h
 |d::h,0,c,e,g,b=>by simp at g;subst g;simp only[ni,jA];omega
 |d::h,f+1,c,e,g,b=>by
  have:=EH (h:=h) (f:=f) e (sp g) b;grind [jA]
def Qv:∀{h:ah}{f:Nat},0<jA h f->∃c∈h,(1000+(f:Int))∈c.bJ
 |[],f,h=>by simp[jA]at h
 |c::h,f,e=>by
  simp only[jA]at e;rcases gJ (0<iW c.bJ f)with b|b
  .grind [Tv]
  .let⟨d,hd,g⟩:=Qv (h:=h) (f:=f) (oh (lD c.bJ f));grind
def XO:∀{h:ah}{c:dq}(_:c∈h)(f:Nat),iW c.bJ f<=jA h f
 |[],c,a,f=>by simp at a
 |d::h,c,a,f=>by
  simp only[jA];rcases bo.1 a with rfl|a
  .have:=yW h f;omega
  .have:=XO a f;have:=lD d.bJ f;omega
@[grind cases] structure sC (h:ah) (c:dq):Prop where
 fl:c.bJ.length<=3
 lo: -1<=c.bT
 hi:c.bT<=999999
 LP:c.bT<1->c.js=0/\(∀w∈c.bJ,w=0)/\(c.bT=0->c.bJ=[])
 wZ:0<c.bT->(∀w∈c.bJ,vO h w)/\0<=c.js/\c.js<=99
def acJ(h:ah):Prop:=∃a:ag,∀(i:Nat)(c:dq),h[i]? =some c->∀w∈c.bJ,1000<=w->a (ix w)<a i
@[grind cases] structure jd (h:ah) (e:Nat->Int):Prop where
 gZ:∀c∈h,sC h c
 CM:acJ h
 ex:∀(a:Nat)(c:dq),h[a]? =some c->0<c.bT->c.bT=jA h a+e a
 nn:∀a,0<=e a
 lv:∀a,0<e a->jq h a
theorem jd.congr(c:jd h e)(a:∀b,e' b=e b):jd h e':=by
 constructor<;>grind
theorem sL(f:Nat):ix (1000+(f:Int))=f:=by unfold ix;omega
theorem lE(h:1000<=w):1000+((ix w:Nat):Int)=w:=by unfold ix;omega
def Ww{v:Int}(a:1000<=v)(b:1000<=w)(h:ix v=ix w):v=w:=by grind [lE]
theorem jd.qd(f:jd h e)(d:c∈h)(i:w∈c.bJ)(j:1000<=w):iH h w:=by
 have g:=f.gZ c d;rcases gJ (0<c.bT)with b|b
 .rcases(g.wZ b).1 w i with a|a
  .have:=a.2;omega
  .exact a
 .grind
def jd.adb(d:jd h e)(i:¬jq h f):jA h f=0:=by
 rcases gJ (0<jA h f)with a|a
 .let⟨c,b,g⟩:=Qv a;have:=(d.qd b g V).2;grind [sL]
 .have:=yW h f;omega
def jd.ad7(a:jd h e)(b:¬jq h f):e f=0:=by
 grind
theorem ph(a:b≠f):(h.set f c)[b]? =h[b]? :=cB
theorem lA(hd:h[f]? =some d):(h.set f c)[f]? =some c:=by
 rw[fu (br hd)]
theorem jq.ne(a:b≠f):jq (h.set f c) b<->jq h b:=by grind [jq]
theorem jq.GO(hd:h[f]? =some d):jq (h.set f c) f<->0<c.bT:=by
 grind [jq]
theorem vO.aP(c:vO h w)(b:1000<=w->jq h (ix w)->jq g (ix w)):vO g w:=by
 rcases c with a|a
 .exact bC a
 .exact bR ⟨a.1,b a.1 a.2⟩
theorem sC.aP{h g:ah}{c:dq}(a:sC h c)(b:0<c.bT->∀w∈c.bJ,1000<=w->jq h (ix w)->jq g (ix w)):sC g c:=
 by constructor<;>grind [vO.aP]
def rX{x:dq}(a:x∈h.set f c):x=c\/∃b,b≠f/\h[b]? =some x:=by
 grind [List.mem_iff_getElem?]
def jd.O2(k:jd h e)(a:h[f]? =some c)(g:0<c.bT){n:Int}(s:0<n)(r:n<=999999)
 (x:∀b,e' b=e b+if b=f then n -c.bT else 0)(u:0<=e' f):jd (h.set f {c with bT:=n}) e':=by
 have l:∀b,jq (h.set f {c with bT:=n}) b<->jq h b:=λb=>by
  by_cases i:b=f
  .subst i;rw[jq.GO a];exact⟨λ_=>⟨c,a,g⟩,λ_=>s⟩
  .exact jq.ne i
 have y:∀b,jA (h.set f {c with bT:=n}) b=jA h b:=λb=>by rw[EH _ a];simp only[];omega
 refine⟨λz t=>?_,?_,λb d hd v=>?_,λb=>?_,λb p=>?_⟩
 .rcases rX t with rfl|⟨b,_,p⟩
  .have j:=k.gZ c (aZ a)
   exact⟨j.fl,by simp only[];omega,r,λo=>by simp only[]at o;omega,λ_=>⟨λw m=>((j.wZ g).1 w m).aP λ_ q=>(l _).2 q,(j.wZ g).2⟩⟩
  grind [sC.aP]
 .let⟨j,o⟩:=k.CM
  refine⟨j,λq d hd w m g=>?_⟩
  grind
 .grind
 .grind
 .rw[l]
  by_cases i:b=f
  .subst i;exact⟨c,a,g⟩
  grind
def jd.Wq(i:jd h e)(o:h[f]? =some c)(A:c.bT=1)(C:0<e f){c':dq}(v: -1<=c'.bT)(E:c'.bT<1)(y:c'.js=0)
 (r:∀w∈c'.bJ,w=0)(t:c'.bJ.length<=3)(s:c'.bT=0->c'.bJ=[])
 (p:∀b,e' b=e b -(if b=f then 1 else 0)+iW c.bJ b):jd (h.set f c') e':=by
 have j:=i.ex f c o V
 have I:=yW h f
 have D:e f=1:=V
 have J:∀x∈h,(1000+(f:Int))∉x.bJ:=λx j g=>by
  have:=XO j f;have:=wJ g;omega
 have G:iW c.bJ f=0:=by grind [rY]
 have H:∀b,iW c'.bJ b=0:=λb=>rY λg=>by have:=r _ g;omega
 have u:∀b,b≠f->jq h b->jq (h.set f c') b:=by grind [jq.ne]
 have F:∀x∈h,∀w∈x.bJ,1000<=w->ix w≠f:=λx j w g q z=>by
  grind [lE]
 refine⟨λx j=>?_,?_,λb d hd B=>?_,λb=>?_,λb k=>?_⟩
 .rcases rX j with rfl|⟨b,_,k⟩
  .exact⟨t,v,V,λ_=>⟨y,r,s⟩,λq=>V⟩
  grind [sC.aP]
 .let⟨m,n⟩:=i.CM
  refine⟨m,λK d hd w g q=>?_⟩
  grind
 .grind [EH]
 .rw[p]
  have:=i.nn b
  have:=lD c.bJ b
  grind
 .rw[p]at k
  by_cases n:b=f
  .grind
  .rw[aW n]at k
   refine u b n ?_
   rcases gJ (0<e b)with m|m
   .exact i.lv b m
   .have:=i.nn b
    have g:=Tv (l:=c.bJ) (f:=b) V
    have:=(i.qd (aZ o) g V).2
    rwa[sL]at this
def jd.Wx(j:jd h e){t:Int}{a:ab}(s:¬jq h f)(p:g[f]? =some ⟨1,t,a⟩)(u:∀b,b≠f->g[b]? =h[b]?)
 (L:∀b,jA g b=jA h b+iW a b)(v:∀w∈a,vO h w)(z:a.length<=3)(D:0<=t/\t<=99)(A:∀b,iW a b<=e b)
 (y:∀b,e' b=e b -iW a b+if b=f then 1 else 0):jd g e':=by
 have r:∀b,jq h b->jq g b:=λb c=>by
  grind [jq]
 have J:=j.ad7 s
 have M:=j.adb s
 have K:iW a f=0:=by have:=lD a f;have:=A f;omega
 refine⟨λH F=>?_,?_,λb d hd I=>?_,λb=>?_,λb i=>?_⟩
 .let⟨b,i⟩:=cH.1 F
  by_cases l:b=f
  .subst l;rw[p]at i;simp at i;subst i
   exact⟨z,bO,bO,sx,λ_=>⟨λw m=>(v w m).aP λ_ c=>r _ c,D⟩⟩
  .rw[u b l]at i
   exact(j.gZ H (aZ i)).aP λ_ w _ _ c=>r _ c
 .let⟨q,N⟩:=j.CM
  refine⟨λk=>if k=f then(a.map λw=>q (ix w)).sum+1 else q k,λk d hd w m C=>?_⟩
  have E:ix w≠f:=λx=>by
   have B:iH h w:=by
    by_cases o:k=f
    .subst o;rw[p]at hd;simp at hd;subst hd;rcases v w m with n|n
     .have:=n.2;omega
     .exact n
    .rw[u k o]at hd;exact j.qd (aZ hd) m C
   exact s (x▸B.2)
  simp only[aW E]
  by_cases o:k=f
  .subst o;rw[p]at hd;simp at hd;subst hd
   rw[bn O]
   have:∀(n:ab),w∈n->q (ix w)<=(n.map λw=>q (ix w)).sum:=by
    intro n c;induction n with
    |nil=>simp at c
    |cons P n G=>
     simp only[eM,List.sum_cons];rcases bo.1 c with rfl|c
     .omega
     .have:=G c;omega
   have:=this a m;omega
  grind
 .grind
 .grind
 .rw[y]at i
  by_cases l:b=f
  .subst l;exact⟨_,p,bO⟩
  .rw[aW l]at i
   exact r b (j.lv b (oh (lD a b)))
theorem jd.jL:∀(n:Nat)(h:ah)(k:ab)(e:Nat->Int),D0 h+k.length<=n->jd h (λb=>e b+iW k b)->(∀b,0<=e b)->jd (jL h k) e
 |n,h,[],e,_,a,_=>by rw[ur];exact a.congr λb=>by simp[iW]
 |n,h,w::r,e,i,a,d=>by
  rcases gJ (iH h w)with c|c
  .let⟨f,j⟩:=dy c;have q:=lE c.1;have o:∀b,iW (w::r) b=(if b=ix w then 1 else 0)+iW r b:=λb=>by
    grind [iW]
   have l:=mr (d:=kX) f;by_cases g:(bu h w).bT=1
   .rw[uv c g];simp only[bn j,kX]at l;simp at l;cases n with
    |zero=>simp at i
    |succ n=>
    refine jd.jL n _ _ e ?_ (jd.Wq a f g ?_ cD cD O (by simp[kX]) (by simp[kX]) (λ_=>O) λb=>?_) d
    .grind [kX]
    .simp only[o,bn];have:=d (ix w);have:=lD r (ix w);omega
    .simp only[o,pB,ED];omega
   .rw[sG c g];have m:=mr (d:={bu h w with bT:=(bu h w).bT -1}) f;simp only[bn j]at m;rw[bn V]at m;have p:=(a.gZ _ (aZ f)).hi;cases n with
    |zero=>simp at i
    |succ n=>
    refine jd.jL n _ _ e ?_ (jd.O2 a f j V V (λb=>?_) ?_) d
    .grind [iU]
    .grind
    .have:=d (ix w);have:=lD r (ix w);omega
  .rw[sH c];cases n with
   |zero=>simp at i
   |succ n=>
   refine jd.jL n _ _ e cB (a.congr λb=>?_) d;simp only[iW];rw[aW]
   .omega
   .intro f;have:=a.lv b (by simp only[iW,bn f];have:=d b;have:=lD r b;omega);exact c ⟨V,by rw[f,sL];exact this⟩
theorem yd(h:ah):∀n,lL h n<=n
 |0=>bY
 |n+1=>by
  simp only[lL];have:=yd h n;grind
theorem xZ(h:ah):∀(n k:Nat)(c:dq),lL h n<=k->k<n->h[k]? =some c->c.bT=0
 |0,k,c,_,d,_=>V
 |n+1,k,c,a,e,b=>by
  simp only[lL]at a;by_cases d:k=n
  .grind
  .split at a
   .split at a
    .exact xZ h n k c a V b
    .omega
   .exact xZ h n k c a V b
def Q5(h:ah):∀(n:Nat)(c:dq),n<=h.length->h[lL h n -1]? =some c->0<lL h n->c.bT≠0
 |0,c,_,_,a=>by simp[lL]at a
 |n+1,c,f,b,a=>by
  simp only[lL]at b a;let⟨d,hd⟩:=dV h n;rw[hd]at b a;simp only[]at b a;split at b
  .rename_i e;rw[bn e]at a;exact Q5 h n c V b a
  .grind
def pZ(h:ah):Prop:=∀c,h[h.length -1]? =some c->c.bT≠0
def Lz:pZ (pG h):=by
 intro c a;have d:=yd h h.length;unfold pG at a;rw[qW,mH d]at a;rcases FY (lL h h.length)with b|b
 .grind
 .rw[nm V]at a;exact Q5 h _ c bY a b
def Sy:∀{h:ah},(∀c∈h,c.bJ=[])->∀f,jA h f=0
 |[],_,f=>O
 |c::h,a,f=>by simp only[jA,a c cK,iW,Sy (λd hd=>a d (aX _ hd)) f];rfl
theorem jd.pG{h:ah}{e:Nat->Int}(d:jd h e):jd (pG h) e:=by
 have u:=yd h h.length;have q:∀(b:Nat)(c:dq),h[b]? =some c->c.bT≠0->b<lL h h.length:=λb c a i=>
  iC λv=>i (xZ h h.length b c V (br a) a)
 have k:∀(b:Nat)(c:dq),(Go.Proofs.YtbbbdejieenniaaGreat.pG h)[b]? =some c->h[b]? =some c:=λb c a=>by
  unfold Go.Proofs.YtbbbdejieenniaaGreat.pG at a;have:=br a;rw[qW]at this;rwa[nm V]at a
 have l:∀b,jq h b->jq (Go.Proofs.YtbbbdejieenniaaGreat.pG h) b:=λb⟨c,a,j⟩=>⟨c,by
  unfold Go.Proofs.YtbbbdejieenniaaGreat.pG;rw[nm (q b c a V)];exact a,j⟩
 have s:∀b,jA (Go.Proofs.YtbbbdejieenniaaGreat.pG h) b=jA h b:=λb=>by
  have m:h=Go.Proofs.YtbbbdejieenniaaGreat.pG h++h.drop (lL h h.length):=(j9 _ _).symm;have n:jA (h.drop (lL h h.length)) b=0:=Sy (λc a=>by
   let⟨o,g⟩:=cH.1 a;rw[rL]at g;have i:=xZ h h.length _ c V (br g) g;exact((d.gZ c (aZ g)).LP V).2.2 i) b
  have o:=vw (λg=>jA g b) m;simp only[yV,n]at o;omega
 refine⟨λc a=>?_,?_,λf c a j=>?_,d.nn,λf p=>l f (d.lv f p)⟩
 .let⟨b,g⟩:=cH.1 a;exact(d.gZ c (aZ (k b c g))).aP λ_ w _ _ r=>l _ r
 .let⟨t,r⟩:=d.CM;exact⟨t,λg c a=>r g c (k g c a)⟩
 .rw[s];exact d.ex f c (k f c a) j
end
section
variable{i x v:Int}{k:Nat}{c:cZ}{f:bW}{s:St}
theorem jR{l:ab}(b:0<=i)(c:i<l.length):l[i.toNat]? =some (bt l i):=by
 let⟨x,a⟩:=dV l i.toNat;simp[bt,a]
theorem adG{l:ab}(h:l[k]? =some x):bt l k=x:=by simp[bt,h]
theorem Pv{l:ab}(h:l[i.toNat]? =some x):bt l i=x:=by simp[bt,h]
theorem iS{l:ab}(a:0<=i)(b:i<l.length):bt l i∈l:=kT (jR a b)
theorem jP{l:ab}:(gX l i v).length=l.length:=by simp[gX]
def tP{l:ab}(h:x∈gX l i v):x=v\/x∈l:=by
 rcases jc h with h|h
 .exact bR h
 .exact bC h
def EL(l:ab)(i v:Int)(k:Nat):(gX l i v)[k]? =if k=i.toNat/\k<l.length then some v else l[k]? :=by
 unfold gX;by_cases h:k=i.toNat
 .subst h;by_cases a:i.toNat<l.length
  .rw[fu a,bn ⟨O,a⟩]
  .rw[aW V,abq V]
 .rw[aW V,dU (λe=>h e.symm)]
theorem ny{l:ab}(a:0<=i)(b:i<l.length)(j:Int)(c:0<=j):bt (gX l i v) j=if j=i then v else bt l j:=by
 unfold bt;rw[fH,fH,EL];by_cases h:j=i
 .subst h;rw[bn O,bn ⟨O,V⟩];rfl
 .rw[aW h,aW V]
def Mk:∀(aU bI:ab)(k:Nat)(w o e d:Int)(a:Nat),aU[k]? =some e->bI[k]? =some d->
 fB (aU.set k w) (bI.set k o) a=fB aU bI a -(if e=1000+(a:Int)then d else 0)+(if w=1000+(a:Int)then o else 0)
 |[],bI,k,w,o,e,d,a,b,c=>by simp at b
 |r::f,[],k,w,o,e,d,a,b,c=>by simp at c
 |r::f,q::g,0,w,o,e,d,a,b,c=>by
  simp at b c;subst b;subst c;simp only[ni,fB];omega
 |r::f,q::g,k+1,w,o,e,d,a,b,c=>by
  have:=Mk f g k w o e d a (sp b) (sp c);simp only[vY,fB,this];omega
def aab{l:ab}(h:l[k]? =some x):l.set k x=l:=by
 apply ft;intro i;by_cases a:k=i
 .subst a;rw[fu (br h),h]
 .rw[dU a]
def Mj{aU bI:ab}{r:Int}(c:0<=r)(d:r<aU.length)(e:r<bI.length)(o:Int)(a:Nat):
 fB aU (gX bI r o) a=fB aU bI a+(if bt aU r=1000+(a:Int)then o -bt bI r else 0):=by
 have b:=jR c d
 have:=Mk aU bI r.toNat (bt aU r) o _ _ a b (jR c e)
 rw[aab b]at this
 rw[gX,this];split<;>omega
def Su{aU bI:ab}{r:Int}(b:0<=r)(c:r<aU.length)(d:r<bI.length)(e:bt bI r=0)(w o:Int)(a:Nat):
 fB (gX aU r w) (gX bI r o) a=fB aU bI a+(if w=1000+(a:Int)then o else 0):=by
 have:=Mk aU bI r.toNat w o _ _ a (jR b c) (jR b d)
 rw[gX,gX,this,e];split<;>omega
def ve:∀{aU bI:ab},(∀o∈bI,0<=o)->∀a,0<=fB aU bI a
 |[],bI,h,a=>by cases bI<;>simp[fB]
 |r::b,[],h,a=>by simp[fB]
 |r::b,o::d,h,a=>by
  have:=ve (aU:=b) (bI:=d) (λx c=>h x (aX _ c)) a;have:=h o cK;simp only[fB];split<;>omega
def xG:∀{aU bI:ab},Yh bI->∀a,fB aU bI a=0
 |[],bI,h,a=>by cases bI<;>simp[fB]
 |r::b,[],h,a=>by simp[fB]
 |r::b,o::d,h,a=>by
  have:=xG (aU:=b) (bI:=d) (λx c=>h x (aX _ c)) a;have:=h o cK;simp only[fB,this];split<;>omega
def KF:∀{c o1:ab}(b o2:ab),c.length=o1.length->∀a,fB (c++b) (o1++o2) a=fB c o1 a+fB b o2 a
 |[],[],b,o2,_,a=>by simp[fB]
 |[],_::_,_,_,h,_=>by simp at h
 |_::_,[],_,_,h,_=>by simp at h
 |r::e,o::d,b,o2,h,a=>by
  have:=KF (c:=e) (o1:=d) b o2 (sp h) a;simp only[eT,fB,this];omega
def KG:∀{aU bI:ab}{k:Nat}{w o:Int}(_:∀o∈bI,0<=o)(_:aU[k]? =some w)(_:bI[k]? =some o){c:Nat}(_:w=1000+(c:Int)),o<=fB aU bI c
 |[],_,_,_,_,_,a,_,_,_=>by simp at a
 |_::_,[],_,_,_,_,_,b,_,_=>by simp at b
 |r::h,q::g,0,w,o,d,a,b,c,e=>by
  simp at a b;subst a;subst b;have:=ve (aU:=h) (bI:=g) (λx f=>d x (aX _ f)) c;simp only[fB,bn e];omega
 |r::h,q::g,k+1,w,o,d,a,b,c,e=>by
  have:=KG (aU:=h) (bI:=g) (k:=k) (λx f=>d x (aX _ f)) (sp a) (sp b) e;have:=d q cK;simp only[fB];split<;>omega
def jM:∀(l r:an)(a:Nat),j8 (l++r) a=j8 l a+j8 r a
 |[],r,a=>by simp[j8]
 |f::l,r,a=>by simp only[eT,j8,jM l r a];omega
theorem nR(f:bW)(a:Nat):j8 [f] a=fB f.aU f.bI a:=by simp[j8]
def iT:∀(l r:an)(a:Nat),eU (l++r) a=eU l a+eU r a
 |[],r,a=>by simp[eU]
 |f::l,r,a=>by simp only[eT,eU,iT l r a];omega
def lU(f:bW)(a:Nat):eU [f] a=iW f.cC a:=by simp[eU]
def zY:∀(l:an)(a:Nat),0<=eU l a
 |[],a=>by simp[eU]
 |f::l,a=>by have:=zY l a;have:=lD f.cC a;simp only[eU];omega
theorem my(aU:ab):∀(a bI:ab),(cL aU bI a).length=bI.length
 |[],bI=>O
 |r::a,bI=>by simp only[cL];rw[my aU a];split<;>simp[jP]
def Cl{aU:ab}:∀(b bI:ab),(∀r∈b,0<=r/\r<aU.length)->aU.length=bI.length->∀a,fB aU (cL aU bI b) a=fB aU bI a -iW (b.map (bt aU)) a
 |[],bI,_,_,a=>by simp[cL,iW]
 |r::b,bI,h,c,a=>by
  have e:=h r cK;have f:=λbI c=>Cl (aU:=aU) b bI (λx d=>h x (aX _ d)) c a;simp only[cL,eM,iW];by_cases d:1000<=bt aU r
  .rw[bn d,f _ (by rw[jP];exact c),Mj e.1 e.2 V];split<;>omega
  .rw[aW d,f _ c,aW V];omega
def ou{aU:ab}:∀(b bI:ab)(k:Nat)(o:Int),(cL aU bI b)[k]? =some o->∃q,bI[k]? =some q/\o<=q
 |[],bI,k,o,h=>⟨o,h,dT _⟩
 |r::b,bI,k,o,h=>by
  simp only[cL]at h;let⟨q,a,d⟩:=ou b _ k o h;split at a
  .rw[EL]at a;split at a
   .rename_i c;let⟨y,e⟩:=gD c.2;have f:bt bI r=y:=by rw[bt,fH,<-c.1,e];rfl
    simp at a;exact⟨y,e,V⟩
   .exact⟨q,a,d⟩
  .exact⟨q,a,d⟩
theorem uX:∀(a bI:ab),(fe bI a).length=bI.length
 |[],bI=>O
 |r::a,bI=>by simp only[fe];rw[uX a,jP]
def J3{aU:ab}:∀(b bI:ab),(∀r∈b,0<=r/\r<aU.length)->aU.length=bI.length->∀a,fB aU (fe bI b) a=fB aU bI a+iW (b.map (bt aU)) a
 |[],bI,_,_,a=>by simp[fe,iW]
 |r::b,bI,h,d,a=>by
  have c:=h r cK;simp only[fe,eM,iW];rw[J3 (aU:=aU) b _ (λx e=>h x (aX _ e)) (by rw[jP];exact d) a,Mj c.1 c.2 V];split<;>omega
def PB{aU:ab}:∀(c bI:ab),(∀r∈c,0<=r/\r<bI.length/\1000<=bt aU r)->
 (∀(k:Nat)(o w:Int),bI[k]? =some o->aU[k]? =some w->0<=o/\(0<o->1000<=w))->∀(k:Nat)(o w:Int),(fe bI c)[k]? =some o->aU[k]? =some w->0<=o/\(0<o->1000<=w)
 |[],bI,_,h,k,o,w,a,b=>h k o w a b
 |r::c,bI,f,h,k,o,w,a,b=>by
  refine PB (aU:=aU) c (gX bI r (bt bI r+1)) (λx d=>by rw[jP];exact f x (aX _ d)) (λk o w a b=>?_) k o w a b;rw[EL]at a;split at a
  .rename_i e;have d:=f r cK;have g:bt aU r=w:=by rw[bt,fH,<-e.1,b];rfl
   have i:=h k (bt bI r) w (by rw[e.1];exact jR d.1 d.2.1) b;simp at a;exact⟨V,λ_=>V⟩
  .exact h k o w a b
def jJ(h:ah)(a:Nat):Prop:=∃c,h[a]? =some c/\c.bT<0
@[grind cases] structure iI (im:cZ) (f:bW):Prop where
 fQ:0<=f.fQ/\f.fQ<im.di.length
 pc:0<=f.pc/\f.pc<(dG im f.fQ).eA.length
 lr:(f.aU.length:Int)=(dG im f.fQ).aU
 lo:(f.bI.length:Int)=(dG im f.fQ).aU
 lh:(f.cC.length:Int)=(dG im f.fQ).aU
 XQ:∀w∈f.aU,ln w\/1000<=w
 bI:∀(k:Nat)(o w:Int),f.bI[k]? =some o->f.aU[k]? =some w->0<=o/\(0<o->1000<=w)
 cC:∀w∈f.cC,w=0\/1000<=w
@[grind cases] structure eu (im:cZ) (s:St):Prop where
 iG:iB im
 eC:0<=s.eC/\s.eC<=3
 cr:s.eC=0<->s.bq=[]
 iQ:ln s.iQ
 Co:s.iQ≠0->s.eC=0
 dL:0<=s.dL/\s.dL<=40
 dg:0<=s.dg/\s.dg<=s.dL
 kV:(s.bq.length:Int)<=s.dg+1
 cy:∀n∈s.cy,ln n
 aR:jd s.aR (j8 s.bq)
 mG:pZ s.aR
 bq:∀f∈s.bq,iI im f
 first:∀f,s.bq[0]? =some f->f.bH=0
 uK:∀(k:Nat)(f g:bW),s.bq[k]? =some f->s.bq[k+1]? =some g->0<=g.bH/\g.bH<f.bI.length/\bt f.bI g.bH=0
 eO:∀a,jJ s.aR a->eU s.bq a=1
 qV:∀a,¬jJ s.aR a->eU s.bq a=0
def iI.Qo(h:iI c f):∀o∈f.bI,0<=o:=λo b=>by
 let⟨k,a⟩:=cH.1 b;have e:=br a;have:=h.lo;have:=h.lr;let⟨w,d⟩:=dV f.aU k;exact(h.bI k o w a d).1
def KH{c:cZ}:∀{b:an},(∀f∈b,iI c f)->∀a,0<=j8 b a
 |[],_,a=>by simp[j8]
 |f::b,h,a=>by
  have:=KH (λg d=>h g (aX _ d)) a;have:=ve (aU:=f.aU) (h f cK).Qo a;simp only[j8];omega
def eu.split(h:eu c s)(b:s.eC=3):∃a f,s.bq=a++[f]:=by
 have:s.bq≠[]:=λe=>by have:=h.cr.2 e;omega
 exact⟨s.bq.dropLast,s.bq.getLast this,(nH this).symm⟩
theorem iI.Ky(j:iB c)(h:iI c f):∃p,c.di[f.fQ.toNat]? =some p/\dG c f.fQ=p/\pd c p/\p.eA[f.pc.toNat]? =some (fF c f)/\iP c p f.pc.toNat (fF c f):=by
 let⟨p,b⟩:=dV c.di f.fQ.toNat (oh h.fQ);have e:dG c f.fQ=p:=by simp[dG,b]
 have g:=j.eS p (aZ b);have k:=h.pc;rw[e]at k;let⟨i,a⟩:=dV p.eA f.pc.toNat;have d:fF c f=i:=by simp[fF,e,a]
 exact⟨p,b,e,g,d▸a,d▸g.eS _ _ a⟩
def YZ(l:an):Prop:=∀(k:Nat)(f g:bW),l[k]? =some f->l[k+1]? =some g->0<=g.bH/\g.bH<f.bI.length/\bt f.bI g.bH=0
section
variable{l r d:an}{a b:bW}
def YZ.Of(h:YZ (l++[a]))(e:b.bH=a.bH):YZ (l++[b]):=λk p q c d=>by
 have:=h k;grind
def YZ.iJ(h:YZ (l++[a]))(e:0<=b.bH/\b.bH<a.bI.length/\bt a.bI b.bH=0):YZ (l++[a,b]):=λk p q c d=>by
 have:=h k;grind
def YZ.ry(h:YZ (l++[a]++[b])):YZ (l++[a]):=λk p q c d=>by
 have:=h k;grind
def PQ(h:∀x,(l++a::r)[0]? =some x->x.bH=0)(e:b.bH=a.bH)(x:bW)(c:(l++b::d)[0]? =some x):x.bH=0:=by
 cases l<;>grind
end
def eu.jO(h:eu c s)(r:s.eC=3){b:an}{g:bW}(e:s.bq=b++[f]){d:ah}{cy:ab}(q:iI c g)(hd:g.bH=f.bH)
 (k:jd d (j8 (b++[g])))(n:pZ d)(l:∀a,jJ d a->eU (b++[g]) a=1)(o:∀a,¬jJ d a->eU (b++[g]) a=0)(m:∀a∈cy,ln a){dg:Int}(j:s.dg<=dg/\dg<=s.dL):
 eu c {s with aR:=d,cy:=cy,dg:=dg,bq:=b++[g]}:=by
 have p:=h.dg
 have a:=h.kV
 rw[e]at a
 refine⟨h.iG,h.eC,⟨λi=>by simp at i;omega,sx⟩,h.iQ,h.Co,h.dL,⟨by simp only[];omega,j.2⟩,by simp at a⊢;omega,m,k,n,λt i=>?_,PQ (e▸h.first) hd,YZ.Of (e▸h.uK) hd,l,o⟩
 grind [eu.bq,List.mem_append_left]
end
section
variable{h:ah}{a:Nat}{c d:dq}{w:Int}{e e':Nat->Int}
def jJ.ne{b:Nat}(d:b≠a):jJ (h.set a c) b<->jJ h b:=by grind [jJ,ph]
def jJ.GO(hd:h[a]? =some d):jJ (h.set a c) a<->c.bT<0:=by grind [jJ,lA]
theorem jJ.dY(hd:h[a]? =some d)(g:0<=d.bT)(i:0<=c.bT)(b:Nat):jJ (h.set a c) b<->jJ h b:=by
 by_cases f:b=a
 .subst f;rw[jJ.GO hd];refine⟨λj=>V,λ⟨e,l,k⟩=>?_⟩;grind
 .exact jJ.ne f
def jJ.aaj(b:jJ h a):¬jq h a:=λ⟨c,e,g⟩=>by
 let⟨d,hd,f⟩:=b;grind
theorem jJ.iU(c:iH h w)(b:Nat):jJ (iU h w) b<->jJ h b:=by
 let⟨a,d⟩:=dy c;exact jJ.dY a V cB b
def jJ.qv(c:iH h w)(b:Nat):jJ (qv h w) b<->jJ h b:=by
 let⟨a,d⟩:=dy c;exact jJ.dY a V cB b
def jJ.Wq(a:iH h w)(b:Nat):jJ (h.set (ix w) kX) b<->jJ h b:=by
 let⟨c,d⟩:=dy a;grind [jJ.dY,kX]
theorem jJ.jL:∀(n:Nat)(h:ah)(i:ab),D0 h+i.length<=n->∀b,jJ (jL h i) b<->jJ h b
 |n,h,[],_,b=>by rw[ur]
 |0,h,w::r,c,b=>by simp at c
 |n+1,h,w::r,c,b=>by
  simp only[dz]at c;rcases gJ (iH h w)with a|a
  .let⟨f,g⟩:=dy a;by_cases d:(bu h w).bT=1
   .have e:=mr (d:=kX) f;simp only[bn g,kX]at e;simp at e;rw[uv a d,jJ.jL n _ _ (by simp[kX];omega) b,jJ.Wq a]
   .have e:=mr (d:={bu h w with bT:=(bu h w).bT -1}) f;simp only[bn g]at e;rw[bn V]at e;rw[sG a d,jJ.jL n _ _ (by simp only[Go.Proofs.YtbbbdejieenniaaGreat.iU];omega) b,jJ.iU a]
  .rw[sH a,jJ.jL n _ _ V b]
theorem jJ.pG{h:ah}(b:Nat):jJ (pG h) b<->jJ h b:=by
 grind [yd,List.length,jJ,pG,br,List.length_take,List.getElem?_take_of_lt,xZ]
def jd.qv(c:jd h e)(d:iH h w)(i:(bu h w).bT<999999)(g:∀b,e' b=e b+if b=ix w then 1 else 0):jd (qv h w) e':=by
 let⟨a,f⟩:=dy d;refine c.O2 a f V V (λb=>?_) ?_
 .grind
 .grind [ix]
def Uq(a:iH h w){v:Int}(c:1000<=v):(bu (qv h w) v).bT=(bu h v).bT+(if v=w then 1 else 0):=by
 let⟨d,f⟩:=dy a;unfold qv;by_cases e:v=w
 .grind [bu,lA]
 .rw[aW e];conv=>lhs;unfold bu
  rw[ph (λb=>e (Ww c a.1 b))];simp[bu]
theorem jq.qv{h:ah}{w:Int}(a:iH h w){b:Nat}:jq (qv h w) b<->jq h b:=by
 let⟨c,d⟩:=dy a;by_cases e:b=ix w
 .subst e;unfold Go.Proofs.YtbbbdejieenniaaGreat.qv;rw[jq.GO c];exact⟨λ_=>a.2,λ_=>by simp only[];omega⟩
 .exact jq.ne e
def lC(a:1000<=w)(r:ab)(b:Nat):iW (w::r) b=(if b=ix w then 1 else 0)+iW r b:=by
 grind [iW,lE,ix,sL]
def jd.kW:∀(a:ab)(h:ah)(e e':Nat->Int),jd h e->(∀w∈a,iH h w/\(bu h w).bT+iW a (ix w)<=999999)->(∀b,e' b=e b+iW a b)->jd (kW h a) e'/\(∀b,jJ (kW h a) b<->jJ h b)/\(kW h a).length=h.length
 |[],h,e,e',i,_,g=>⟨i.congr λb=>by rw[g];simp[iW],λ_=>Rf,O⟩
 |w::a,h,e,e',i,k,g=>by
  let⟨c,p⟩:=k w cK;rw[lC c.1,bn O]at p;have:=lD a (ix w);let⟨m,n,o⟩:=jd.kW a (Go.Proofs.YtbbbdejieenniaaGreat.qv h w) (λb=>e b+if b=ix w then 1 else 0) e' (i.qv c V λb=>O) (λv q=>by
   let⟨d,j⟩:=k v (aX _ q);refine⟨⟨d.1,(jq.qv c).2 d.2⟩,?_⟩;rw[Uq c d.1];rw[lC c.1]at j;split
   .rename_i f;subst f;rw[bn O]at j;omega
   .rename_i f;rw[aW (λl=>f (Ww d.1 c.1 l))]at j;omega) (λb=>by rw[g,lC c.1];omega)
  refine⟨m,λb=>by rw[Go.Proofs.YtbbbdejieenniaaGreat.kW,n,jJ.qv c],by rw[Go.Proofs.YtbbbdejieenniaaGreat.kW,o];simp[Go.Proofs.YtbbbdejieenniaaGreat.qv]⟩
theorem nT{l:ab}:w∈oC l<->w∈l/\1000<=w:=by simp[oC]
theorem jd.iZ{h:ah}{e e':Nat->Int}(j:jd h e){w:Int}(o:iH h w)(H:0<e (ix w))(t:(bu h w).bT=1\/oI h (bu h w).bJ)
 (A:∀b,e' b=e b -(if b=ix w then 1 else 0)+iW (bu h w).bJ b)(K:pZ h):jd (iZ h w) e'/\(∀b,jJ (iZ h w) b<->jJ h b)/\pZ (iZ h w):=by
 let⟨g,J⟩:=dy o
 unfold Go.Proofs.YtbbbdejieenniaaGreat.iZ
 by_cases r:(bu h w).bT=1
 .rw[bn r]
  exact⟨(j.Wq g r H (c':=kX) cD cD O (by simp[kX]) (by simp[kX]) (λ_=>O) A).pG,λb=>by rw[jJ.pG,jJ.Wq o],Lz⟩
 .rw[aW r]
  have t:oI h (bu h w).bJ:=by rcases t with m|m;exact absurd m r;exact m
  have R:=(j.gZ _ (aZ g)).hi
  have I:jd (Go.Proofs.YtbbbdejieenniaaGreat.iU h w) (λb=>e b -if b=ix w then 1 else 0):=j.O2 g J V V (λb=>by split<;>omega) eX
  have u:∀b,jq h b->jq (Go.Proofs.YtbbbdejieenniaaGreat.iU h w) b:=λb f=>by
   by_cases k:b=ix w
   .subst k;unfold Go.Proofs.YtbbbdejieenniaaGreat.iU;rw[jq.GO g];simp only[];omega
   .exact(jq.ne k).2 f
  let⟨m,y,z⟩:=jd.kW (oC (bu h w).bJ) _ _ e' I (λv x=>by
   let⟨s,p⟩:=nT.1 x;have a:=j.qd (aZ g) s p;refine⟨⟨a.1,u _ a.2⟩,?_⟩;have:=t v s p;rw[EC];have P:(bu (Go.Proofs.YtbbbdejieenniaaGreat.iU h w) v).bT<=(bu h v).bT:=by
    by_cases k:ix v=ix w
    .have i:=Ww p o.1 k;subst i;unfold Go.Proofs.YtbbbdejieenniaaGreat.iU;conv=>lhs;unfold bu
     rw[lA g];show(bu h v).bT -1<=(bu h v).bT;omega
    .unfold Go.Proofs.YtbbbdejieenniaaGreat.iU;conv=>lhs;unfold bu
     rw[ph k];exact dT _
   omega) (λb=>by rw[A,EC])
  refine⟨m,λb=>by rw[y,jJ.iU o],λc n=>?_⟩
  intro M
  rw[z]at n
  have B:(Go.Proofs.YtbbbdejieenniaaGreat.iU h w).length=h.length:=by simp[Go.Proofs.YtbbbdejieenniaaGreat.iU]
  rw[B]at n
  have f:=br n
  rw[z,B]at f
  let⟨d,hd⟩:=dV h (h.length -1)
  have N:=K d hd
  have G:=j.gZ d (aZ hd)
  have Q:=G.lo
  rcases gJ (0<d.bT)with C|C
  .have F:∀(q:ab)(l:ah),(∀v∈q,iH l v)->∀b,jq l b->jq (Go.Proofs.YtbbbdejieenniaaGreat.kW l q) b:=by
    intro q;induction q with
    |nil=>intro l _ b f;exact f
    |cons v q L=>
     intro l i b f;have a:=i v cK;exact L _ (λE D=>⟨(i E (aX _ D)).1,(jq.qv a).2 (i E (aX _ D)).2⟩) b ((jq.qv a).2 f)
   let⟨D,i,E⟩:=F (oC (bu h w).bJ) (Go.Proofs.YtbbbdejieenniaaGreat.iU h w) (λv x=>by
    let⟨s,p⟩:=nT.1 x;have a:=j.qd (aZ g) s p;exact⟨a.1,u _ a.2⟩) _ (u _ ⟨d,hd,C⟩)
   rw[n]at i;simp at i;subst i;omega
  .have l:jJ h (h.length -1):=⟨d,hd,V⟩
   let⟨D,i,q⟩:=(y (h.length -1)).2 ((jJ.iU o _).2 l)
   rw[n]at i;simp at i;subst i;omega
def sW:∀(h:ah),fG h<=h.length
 |[]=>bY
 |c::h=>by have:=sW h;simp only[fG,dz];split<;>omega
def Bj:∀(h:ah)(c:dq),h[fG h]? =some c->c.bT=0
 |[],c,a=>by simp[fG]at a
 |d::h,c,a=>by
  simp only[fG]at a;split at a
  .rename_i b;simp at a;subst a;exact b
  .exact Bj h c (sp a)
def jd.aaC(k:jd h e){t:Int}{f:ab}(s:∀w∈f,vO h w)(m:f.length<=3)(r:0<=t/\t<=99)(n:∀b,iW f b<=e b)
 (l:∀b,e' b=e b -iW f b+if b=fG h then 1 else 0)(u:pZ h):
 jd (kD h (fG h) ⟨1,t,f⟩) e'/\(∀b,jJ (kD h (fG h) ⟨1,t,f⟩) b<->jJ h b)/\pZ (kD h (fG h) ⟨1,t,f⟩):=by
 unfold kD
 have o:¬jq h (fG h):=λ⟨c,a,v⟩=>by have:=Bj h c a;omega
 by_cases i:fG h=h.length
 .rw[bn i]
  have q:(h++[⟨1,t,f⟩])[fG h]? =some ⟨1,t,f⟩:=by rw[i];simp
  have p:∀b,b≠fG h->(h++[⟨1,t,f⟩])[b]? =h[b]? :=λb g=>by
   rcases dJ b h.length with j|j
   .rw[dZ j]
   .rw[jE eX,jE j]
  refine⟨k.Wx o q p (λb=>by rw[yV];simp[jA]) s m r n l,λb=>?_,λc a=>?_⟩
  .by_cases g:b=fG h
   .rw[g];unfold jJ;rw[q,i];simp
   .unfold jJ;rw[p b g]
  .simp at a;subst a;simp
 .rw[aW i]
  have q:fG h<h.length:=by have:=sW h;omega
  let⟨d,hd⟩:=gD q
  have j:=Bj h d hd
  have p:=((k.gZ d (aZ hd)).LP V).2.2 j
  refine⟨k.Wx o (lA hd) (λb g=>ph g) (λb=>by rw[EH _ hd,p];simp[iW]) s m r n l,λb=>jJ.dY hd V bO b,λc a=>?_⟩
  rw[pJ]at a
  by_cases g:h.length -1=fG h
  .rw[g,lA hd]at a;simp at a;subst a;simp
  .rw[ph g]at a;exact u c a
end
section
variable{c:cZ}{w n g j:Int}{e:ab}{s:St}{d:an}{f:bW}
theorem uG{c:cZ}{x:Instr}:∀{l:ab}{k:Nat}{r:Int},r∈jW c x k l->r∈l
 |[],k,r,h=>by simp[jW]at h
 |y::l,k,r,h=>by
  simp only[jW]at h;split at h
  .exact aX _ (uG h)
  .rcases bo.1 h with rfl|h
   .exact cK
   .exact aX _ (uG h)
def wV{x:Instr}{r:Int}(h:r∈cO c x):r∈x.aO:=by
 unfold cO at h;split at h
 .exact h
 split at h
 .exact gW h
 split at h
 .exact uG h
 .simp at h
def Ed{a:af}(h:eR a)(c:Int):(cX a c).length<=3:=by
 unfold cX;split
 .cases g:(gR a)[c.toNat]? with
  |none=>simp
  |some f=>
   have d:=aZ g;unfold gR at d;let⟨e,hd,b⟩:=List.mem_flatMap.1 d;let⟨k,i⟩:=cH.1 hd;have:=(h.eS k e i).jw (adn b);exact(this.2.2.2 f b).1
 .simp
def iI.cG{c:cZ}{g:bW}(h:iI c g){r w o:Int}(f:ln w\/1000<=w)(d:0<=o)(e:0<o->1000<=w):iI c (g.cG r w o):=by
 refine⟨h.fQ,h.pc,by simp only[bW.cG,jP];exact h.lr,by simp only[bW.cG,jP];exact h.lo,h.lh,λy a=>?_,λk q y b a=>?_,h.cC⟩
 .rcases tP a with rfl|a
  .exact f
  .exact h.XQ y a
 .simp only[bW.cG]at b a;rw[EL]at b a;have:=h.lr;have:=h.lo;split at b<;>split at a
  .simp at b a;subst b;subst a;exact⟨d,e⟩
  .omega
  .omega
  .exact h.bI k q y b a
def Mm:0<=iV w:=by unfold iV;split<;>omega
def IS(h:0<iV w):1000<=w:=by unfold iV at h;split at h<;>omega
def BC(w:Int)(b:Nat):(if w=1000+(b:Int)then iV w else 0)=iW [w] b:=by
 simp only[iW,iV];split
 .rw[bn V];rfl
 .rfl
def LO:ln (J6 n):=by unfold J6 ln;split<;>(try split)<;>omega
def Qq(c a b:Int):ln (TB c a b):=by
 unfold TB;split
 .exact LO
 split
 .exact LO
 split
 .exact LO
 split<;>(unfold ln;omega)
theorem mf(df:ab):∀(e:ab)(k:Nat),(fJ df k e).length=e.length
 |[],k=>O
 |w::e,k=>by simp only[fJ,dz,mf df e]
def NI(df:ab):∀(e:ab)(k j:Nat)(o w:Int),(fJ df k e)[j]? =some o->e[j]? =some w->0<=o/\(0<o->1000<=w)
 |[],k,j,o,w,_,h=>by simp at h
 |v::e,k,0,o,w,a,b=>by
  simp[fJ]at a b;subst b;split at a
  .subst a;omega
  .subst a;exact⟨Mm,IS⟩
 |v::e,k,j+1,o,w,a,b=>NI df e (k+1) j o w (by simpa[fJ]using a) (sp b)
theorem lH(n:Nat):(eP n).length=n:=by simp[eP]
theorem pR{n:Nat}(h:w∈eP n):w=0:=abo h
def yT{p:eG}(m:iB c)(l:0<=g)(h:c.di[g.toNat]? =some p)(q:e.length=p.aY.length)(n:∀w∈e,ln w\/1000<=w):iI c (cz c g j e):=by
 have d:dG c g=p:=by simp[dG,h]
 have i:=m.eS p (aZ h);have t:=i.aU;have r:=i.aT;have s:=br h;refine⟨⟨l,by simp only[cz];omega⟩,⟨by simp[cz],by simp only[cz,d];omega⟩,?_,?_,?_,λw a=>?_,λk o w b a=>?_,λw a=>bC (pR a)⟩
 .simp only[cz,d,dH,lH];omega
 .simp only[cz,d,dH,lH,mf];omega
 .simp only[cz,d,lH];omega
 .simp only[cz]at a;rcases bU.1 a with a|a
  .exact n w a
  .rw[pR a];exact bC (by unfold ln;omega)
 .simp only[cz]at b a;rcases dJ k e.length with f|f
  .rw[dZ (by rw[mf];exact f)]at b;rw[dZ f]at a;exact NI _ e 0 k o w b a
  .rw[dP (by rw[mf];exact f)]at b;rw[pR (kT b)];omega
theorem uP(c:cZ)(g j:Int)(e:ab)(b:Nat):fB (cz c g j e).aU (cz c g j e).bI b=fB e (fJ (dG c g).df 0 e) b:=by
 simp only[cz];rw[KF _ _ (mf _ _ _).symm,xG (λn a=>pR a)];omega
def tQ(b:Nat):eU [cz c g j e] b=0:=by
 rw[lU];exact YD
def Ml{c:cZ}{d:Instr}(f:bW):∀(e:ab)(k:Nat)(b:Nat),fB (dQ f e) (fJ (dG c d.cE).df k (dQ f e)) b=iW ((jW c d k e).map (bt f.aU)) b
 |[],k,b=>by simp[dQ,fB,jW,iW]
 |r::h,k,b=>by
  have g:=Ml (c:=c) (d:=d) f h (k+1) b;simp only[dQ,eM,fJ,fB,jW]at g⊢;rw[g];by_cases a:lB c d k=true
  .rw[bn a];unfold lB at a;rw[bn a];split<;>omega
  .rw[aW a];unfold lB at a;rw[aW a];simp only[eM,iW];have:=BC (bt f.aU r) b;simp only[iW]at this;omega
def NJ:∀(e:ab)(k:Nat)(b:Nat),fB e (fJ [] k e) b=iW e b
 |[],k,b=>by simp[fB,iW]
 |w::e,k,b=>by
  have:=NJ e (k+1) b;have a:=BC w b;simp only[iW]at a;simp only[fJ,fB,iW,this,VA,oT,nv];omega
def eu.ux{e:ah}{g:bW}(i:eu c s)(l:s.bq=d++[f])(m:g.cC=f.cC)(j:∀b,jJ e b<->jJ s.aR b):
 (∀a,jJ e a->eU (d++[g]) a=1)/\(∀a,¬jJ e a->eU (d++[g]) a=0):=by
 have h:∀a,eU (d++[g]) a=eU s.bq a:=λa=>by rw[l,iT,iT,lU,lU,m]
 exact⟨λa b=>by rw[h];exact i.eO a ((j a).1 b),λa b=>by rw[h];exact i.qV a λk=>b ((j a).2 k)⟩
def Tw:∀{l:ab}{k:Nat}{v:Int}(w:Int)(b:Nat),l[k]? =some v->iW (l.set k w) b=iW l b -(if v=1000+(b:Int)then 1 else 0)+(if w=1000+(b:Int)then 1 else 0)
 |[],k,v,w,b,h=>by simp at h
 |y::l,0,v,w,b,h=>by simp at h;subst h;simp only[ni,iW];omega
 |y::l,k+1,v,w,b,h=>by have:=Tw w b (sp h);simp only[vY,iW,this];omega
def pZ.dY{h:ah}{a:Nat}{c:dq}(t:pZ h)(b:c.bT≠0):pZ (h.set a c):=by
 grind [pZ]
def Tx{b:Nat}(h:1000<=w):(if w=1000+(b:Int)then n else 0)=if b=ix w then n else 0:=by grind [lE,sL]
def abV{l:ab}(h:1<=l.length):l.take 1=[bt l 0]:=by
 cases l with
 |nil=>simp at h
 |cons v l=>rfl
def WD(j:eu c s)(P:s.eC=3)(u:s.bq=d++[f])
 (I:pb c s f (fF c f) (cL f.aU f.bI (cO c (fF c f))))(a4:¬(qM (fF c f).op/\s.dg=s.dL)):
 eu c (eD c s d f (fF c f) (cL f.aU f.bI (cO c (fF c f)))):=by
 have E:iI c f:=j.bq f (by rw[u];simp)
 let⟨Z,hp,aj,hP,aJ,hI⟩:=E.Ky j.iG
 generalize fF c f=x at*
 have⟨lr,lo,lh⟩:(f.aU.length:Int)=Z.aU/\(f.bI.length:Int)=Z.aU/\(f.cC.length:Int)=Z.aU:=⟨aj▸E.lr,aj▸E.lo,aj▸E.lh⟩
 have aa:∀p∈x.aO,0<=p/\p<f.aU.length:=λp q=>by have:=hI.aO p q;omega
 have aH:∀m∈cO c x,0<=m/\m<f.aU.length:=λm P=>aa m (wV P)
 have a_:=Cl (aU:=f.aU) (cO c x) f.bI aH V
 have a9:=my f.aU (cO c x) f.bI
 have a8:=ou (aU:=f.aU) (cO c x) f.bI
 generalize cL f.aU f.bI (cO c x)=bI at*
 have ay:∀M∈d,iI c M:=λM J=>j.bq M (by rw[u];exact dN _ J)
 have ac:∀e,0<=j8 d e+fB f.aU bI e:=λe=>by
  have:=KH ay e;have:=ve (aU:=f.aU) I.nn e;omega
 have C:jd s.aR (λe=>j8 d e+fB f.aU bI e+iW ((cO c x).map (bt f.aU)) e):=j.aR.congr λe=>by
  rw[u,jM,nR,a_];omega
 have aS:∀L:Int,0<=L->L<Z.eA.length->iI c {f with bI:=bI,pc:=L}:=λL h0 k=>
  ⟨E.fQ,⟨h0,by rw[aj];exact k⟩,E.lr,by simp only[a9];exact E.lo,E.lh,E.XQ,λX Y w T o=>by
   let⟨M,J,y⟩:=a8 X Y T;have z:=E.bI X M w J o;exact⟨I.nn Y (kT T),λv=>z.2 V⟩,E.cC⟩
 have aw:=j.first
 have au:YZ s.bq:=j.uK
 rw[u]at aw au
 have ba:=E.pc
 rw[aj]at ba
 have aP:x.op≠23->x.op≠24->f.pc+1<Z.eA.length:=λk z=>by
  rcases gJ (f.pc+1<Z.eA.length)with D|D
  .exact D
  .have R:f.pc.toNat=Z.eA.length -1:=V;rw[R]at aJ;have:=hP.Of x aJ;omega
 have W:x.op≠23->x.op≠24->iI c {f with bI:=bI,pc:=f.pc+1}:=λk z=>aS _ V (aP k z)
 have ae:∀m:Int,0<=m->m<f.aU.length->ln (bt f.aU m)\/1000<=bt f.aU m:=λm h0 k=>E.XQ _ (iS h0 k)
 have aN:∀m:Int,0<=m->m<f.aU.length->bt f.aU m<1000->ln (bt f.aU m):=λm h0 k z=>by rcases ae m h0 k with D|D;exact D;omega
 have av:=hI.bH
 have aK:lO x.op->bt bI x.bH=0:=λK=>by
  have k:=I.bH K;have z:=I.nn _ (iS (l:=bI) av.1 V);omega
 have bc:∀m∈cO c x,vO s.aR (bt f.aU m):=λm aT=>by
  have aV:=aH m aT;rcases ae m aV.1 aV.2 with D|D
  .exact bC D
  .refine bR ⟨D,C.lv _ ?_⟩;have:=ac (ix (bt f.aU m));have:=wJ (l:=(cO c x).map (bt f.aU)) (f:=ix (bt f.aU m)) (by rw[lE D];exact gK.2 ⟨m,aT,O⟩);omega
 have al:∀(L:Int)(aL:ab)(w Y:Int),lO x.op->∀e,j8 (d++[bW.cG {f with bI:=bI,pc:=L,cC:=aL} x.bH w Y]) e=j8 d e+fB f.aU bI e+(if w=1000+(e:Int)then Y else 0):=λL aL w Y K e=>by
  rw[jM,nR];simp only[bW.cG];rw[Su av.1 V V (aK K)];omega
 have ap:∀(w:Int)(cy:ab),lO x.op->x.op≠23->x.op≠24->cO c x=[]->(ln w\/1000<=w)->(∀n∈cy,ln n)->eu c {s with cy:=cy,bq:=d++[bW.cG {f with bI:=bI,pc:=f.pc+1} x.bH w 0]}:=λw cy K k z v o T=>by
  let⟨F,N⟩:=j.ux u (g:=bW.cG {f with bI:=bI,pc:=f.pc+1} x.bH w 0) O (λe=>Rf);refine j.jO P u (hd:=O) ((W k z).cG o (dT _) (λD=>V)) (C.congr λe=>?_) j.mG F N T (dg:=s.dg) ⟨dT _,j.dg.2⟩;rw[al _ _ _ _ K,v];simp[iW]
 have ar:∀L:Int,0<=L->L<Z.eA.length->cO c x=[]->eu c {s with bq:=d++[{f with bI:=bI,pc:=L}]}:=λL h0 k v=>by
  let⟨F,N⟩:=j.ux u (g:={f with bI:=bI,pc:=L}) O (λe=>Rf);refine j.jO P u (hd:=O) (aS L h0 k) (C.congr λe=>?_) j.mG F N j.cy (dg:=s.dg) ⟨dT _,j.dg.2⟩;rw[jM,nR,v];simp[iW]
 have y:=hI.op
 unfold mJ at y
 by_cases e0:x.op=0
 .simp(disch:=omega) only[eD,aW,bn]at y⊢
  exact ap _ _ (by unfold lO;omega) V V (by simp[cO,e0]) (bC y.2) j.cy
 by_cases e1:x.op=1\/x.op=2\/x.op=3\/x.op=4
 .simp(disch:=omega) only[eD,aW,bn]
  exact ap _ _ (by unfold lO;omega) V V (by simp(disch:=omega) only[cO,aW]) (bC (Qq _ _ _)) j.cy
 have af:1<=x.aO.length->0<=bt x.aO 0/\bt x.aO 0<f.aU.length:=λk=>aa _ (iS V V)
 by_cases e5:x.op=5
 .simp(disch:=omega) only[eD,aW,bn]at y⊢
  have q:=af V
  have ag:ln (bt f.aU (bt x.aO 0)):=aN _ q.1 q.2 (I.oN V _ (iS V V))
  refine ap _ _ (by unfold lO;omega) V V (by simp[cO,e5]) (bC ag) λn B=>?_
  rcases bU.1 B with B|B
  .exact j.cy n B
  .simp at B;subst B;exact ag
 have aX:(cO c x=x.aO)->∀w∈dQ f x.aO,vO s.aR w:=λv w o=>by
  obtain⟨m,U,rfl⟩:=gK.1 o;exact bc m (v▸U)
 have aC:∀ak,cO c x=x.aO->x.op≠23->x.op≠24->lO x.op->x.aO.length<=3->0<=ak/\ak<=99->eu c {s with aR:=kD s.aR (fG s.aR) ⟨1,ak,dQ f x.aO⟩,bq:=d++[bW.cG {f with bI:=bI,pc:=f.pc+1} x.bH (1000+fG s.aR) 1]}:=λak v k z K D aA=>by
  let⟨Q,k2,k3⟩:=C.aaC (t:=ak) (f:=dQ f x.aO) (e':=j8 (d++[bW.cG {f with bI:=bI,pc:=f.pc+1} x.bH (1000+fG s.aR) 1])) (aX v) (by simpa[dQ]using D) aA (λe=>by rw[v];have:=ac e;simp only[dQ];omega) (λe=>by
   rw[al _ _ _ _ K,v];simp only[dQ];have:(if(1000+(fG s.aR:Int))=1000+(e:Int)then(1:Int)else 0)=if e=fG s.aR then 1 else 0:=by
    by_cases A:e=fG s.aR
    .rw[bn A,bn V]
    .rw[aW A,aW V]
   rw[this];omega) j.mG
  let⟨F,N⟩:=j.ux u (g:=bW.cG {f with bI:=bI,pc:=f.pc+1} x.bH (1000+fG s.aR) 1) O k2;exact j.jO P u (hd:=O) ((W k z).cG (bR V) V (λ_=>V)) Q k3 F N j.cy (dg:=s.dg) ⟨dT _,j.dg.2⟩
 have bg:(gR c.bS).length<=12:=by
  have:=tF j.iG.mN.dk c.bS.length;rw[qI _ _ bY]at this;exact this
 have bi:=j.iG.mN.aT
 by_cases e6:x.op=6
 .simp(disch:=omega) only[eD,aW,bn]at y⊢
  have v:cO c x=x.aO:=by simp(disch:=omega) only[cO,aW,bn]
  have K:lO x.op:=by unfold lO;omega
  have am:x.aO.length<=3:=by rw[y.2.1];exact Ed j.iG.mN.dk _
  split
  .rename_i aB
   have G:0<=x.dh -1/\x.dh -1<f.cC.length:=V
   have hv:=E.cC _ (iS (l:=f.cC) G.1 G.2)
   have S:1000<=bt f.cC (x.dh -1):=V
   have az:0<eU s.bq (ix (bt f.cC (x.dh -1))):=by
    rw[u,iT,lU];have:=zY d (ix (bt f.cC (x.dh -1)));have:=wJ (l:=f.cC) (f:=ix (bt f.cC (x.dh -1))) (by rw[lE S];exact iS G.1 G.2);omega
   have ai:jJ s.aR (ix (bt f.cC (x.dh -1))):=iC λB=>by have:=j.qV _ B;omega
   have ao:=j.eO _ ai
   let⟨ad,hd,aq⟩:=ai
   have ax:∀e,iW ad.bJ e=0:=λe=>rY λo=>by
    have:=((C.gZ ad (aZ hd)).LP V).2.1 _ o;omega
   have Q:=C.Wx (t:=x.cE) (a:=dQ f x.aO) (e':=j8 (d++[bW.cG {f with bI:=bI,pc:=f.pc+1,cC:=gX f.cC (x.dh -1) 0} x.bH (bt f.cC (x.dh -1)) 1])) (f:=ix (bt f.cC (x.dh -1))) (g:=s.aR.set (ix (bt f.cC (x.dh -1))) ⟨1,x.cE,dQ f x.aO⟩)
    (jJ.aaj ⟨ad,hd,aq⟩) (lA hd) (λe A=>ph A) (λe=>by rw[EH _ hd,ax];simp only[];omega) (aX v) (by simpa[dQ]using am) V (λe=>by rw[v];have:=ac e;simp only[dQ];omega) (λe=>by
     rw[al _ _ _ _ K,v];simp only[dQ];rw[Tx S];omega)
   have H:∀e,eU (d++[bW.cG {f with bI:=bI,pc:=f.pc+1,cC:=gX f.cC (x.dh -1) 0} x.bH (bt f.cC (x.dh -1)) 1]) e=eU s.bq e -(if e=ix (bt f.cC (x.dh -1))then 1 else 0):=λe=>by
    rw[u,iT,iT,lU,lU];simp only[bW.cG,gX];rw[Tw _ _ (jR G.1 G.2),Tx S,aW (show¬0=1000+(e:Int)by omega)];omega
   have an:iI c {f with bI:=bI,pc:=f.pc+1,cC:=gX f.cC (x.dh -1) 0}:=by
    have k:=W V V;exact⟨k.fQ,k.pc,k.lr,k.lo,by simp only[jP];exact k.lh,k.XQ,k.bI,λw o=>by rcases tP o with o|o;exact bC o;exact k.cC w o⟩
   refine j.jO P u (hd:=O) (an.cG (bR S) V (λ_=>S)) Q (j.mG.dY bO) (λp q=>?_) (λp q=>?_) j.cy (dg:=s.dg) ⟨dT _,j.dg.2⟩
   .rw[H]
    by_cases A:p=ix (bt f.cC (x.dh -1))
    .subst A;rw[jJ.GO hd]at q;simp at q
    .rw[aW A];rw[jJ.ne A]at q;have:=j.eO p q;omega
   .rw[H]
    by_cases A:p=ix (bt f.cC (x.dh -1))
    .subst A;rw[bn O];omega
    .rw[aW A];rw[jJ.ne A]at q;have:=j.qV p q;omega
  .exact aC _ v V V K am V
 by_cases bd:x.op=10
 .simp(disch:=omega) only[eD,aW,bn]at y⊢
  obtain⟨⟨M,am,ad,an⟩,_⟩:=y
  have D:=(j.iG.mN.eS M (aZ ad)).1
  have:=br ad
  exact aC _ (by simp(disch:=omega) only[cO,aW,bn]) V V (by unfold lO;omega) V (by unfold cF;omega)
 by_cases aD:x.op=14
 .simp(disch:=omega) only[eD,aW,bn]at y⊢
  have q:=af V
  have v:cO c x=[]:=by simp[cO,aD]
  let⟨B,aq⟩:=I.dup aD
  let⟨F,N⟩:=j.ux u (g:={f with bI:=gX bI (bt x.aO 0) (bt bI (bt x.aO 0)+1),pc:=f.pc+1}) O (λe=>jJ.qv B e)
  have k:=W V V
  refine j.jO P u (hd:=O) (g:={f with bI:=gX bI (bt x.aO 0) (bt bI (bt x.aO 0)+1),pc:=f.pc+1}) ⟨k.fQ,k.pc,k.lr,by simp only[jP];exact k.lo,k.lh,k.XQ,λX Y w T o=>?_,k.cC⟩ (C.qv B aq λe=>?_) ?_ F N j.cy (dg:=s.dg) ⟨dT _,j.dg.2⟩
  .simp only[]at T o
   rw[EL]at T
   split at T
   .rename_i G
    simp at T
    have R:bt f.aU (bt x.aO 0)=w:=by rw[bt,fH,<-G.1,o];rfl
    have:=I.nn _ (iS (l:=bI) q.1 V)
    have:=B.1
    exact⟨V,λ_=>V⟩
   .exact k.bI X Y w T o
  .rw[jM,nR,v]
   simp only[]
   rw[Mj q.1 q.2 V]
   have G:=lE B.1
   simp only[ji,iW]
   rw[Tx B.1];omega
  .let⟨S,ai⟩:=dy B
   exact j.mG.dY eX
 have aq:x.aO.length=1->x.aO=[bt x.aO 0]:=λk=>by
  let⟨bk,hv⟩:=Nn.1 k;rw[hv];rfl
 by_cases be:x.op=15
 .simp(disch:=omega) only[eD,aW,bn]at y⊢
  have v:cO c x=[bt x.aO 0]:=by simp(disch:=omega) only[cO,bn];exact aq V
  rw[v]at C
  have Q:=jd.jL _ s.aR [bt f.aU (bt x.aO 0)] (λe=>j8 d e+fB f.aU bI e) bY (C.congr λe=>O) ac
  let⟨F,N⟩:=j.ux u (g:={f with bI:=bI,pc:=f.pc+1}) O (λe=>(jJ.pG (h:=jL s.aR [bt f.aU (bt x.aO 0)]) e).trans (jJ.jL _ _ _ bY e))
  exact j.jO P u (hd:=O) (W V V) (Q.pG.congr λe=>by rw[jM,nR]) Lz F N j.cy (dg:=s.dg) ⟨dT _,j.dg.2⟩
 by_cases a0:x.op=16\/x.op=17
 .simp(disch:=omega) only[eD,aW,bn]at y⊢
  have q:=af V
  have v:cO c x=[bt x.aO 0]:=by simp(disch:=omega) only[cO,aW,bn,abV]
  let⟨B,aF,ax,aO⟩:=I.Ql a0
  let⟨S,ai⟩:=dy B
  have aG:∀m∈x.aO.drop 1,0<=m/\m<bI.length/\1000<=bt f.aU m:=λm U=>by
   have k:=aa m (uf U);have z:bt f.aU m∈oC (bu s.aR (bt f.aU (bt x.aO 0))).bJ:=by rw[aF];exact gK.2 ⟨m,U,O⟩
   exact⟨k.1,V,(nT.1 z).2⟩
  have k:=W V V
  have X:iI c {f with bI:=fe bI (x.aO.drop 1),pc:=f.pc+1}:=⟨k.fQ,k.pc,k.lr,by simp only[uX];exact k.lo,k.lh,k.XQ,PB (aU:=f.aU) _ bI aG k.bI,k.cC⟩
  have aY:∀e,fB f.aU (fe bI (x.aO.drop 1)) e=fB f.aU bI e+iW (bu s.aR (bt f.aU (bt x.aO 0))).bJ e:=λe=>by
   rw[J3 (aU:=f.aU) _ _ (λm U=>oh (aG m U)) V,<-EC (bu s.aR _).bJ,aF];rfl
  have aB:0<j8 d (ix (bt f.aU (bt x.aO 0)))+fB f.aU bI (ix (bt f.aU (bt x.aO 0)))+iW ((cO c x).map (bt f.aU)) (ix (bt f.aU (bt x.aO 0))):=by
   rw[v];have:=ac (ix (bt f.aU (bt x.aO 0)));simp only[eM,ji,lC B.1,bn,iW];omega
  have az:∀e,j8 d e+fB f.aU (fe bI (x.aO.drop 1)) e=(j8 d e+fB f.aU bI e+iW ((cO c x).map (bt f.aU)) e) -(if e=ix (bt f.aU (bt x.aO 0))then 1 else 0)+iW (bu s.aR (bt f.aU (bt x.aO 0))).bJ e:=λe=>by
   rw[aY,v];simp only[eM,ji,lC B.1,iW];omega
  split
  .rename_i ao
   have aM:=aO ao.2
   have Q:=C.Wq S ao.1 aB (c':=⟨-1,0,eP (bu s.aR (bt f.aU (bt x.aO 0))).bJ.length⟩) bO bO O (λw o=>pR o) (by simp only[lH];exact(C.gZ _ (aZ S)).fl) sx (e':=j8 (d++[{f with bI:=fe bI (x.aO.drop 1),pc:=f.pc+1,cC:=gX f.cC (bt x.aO 0) (bt f.aU (bt x.aO 0))}])) (λe=>by rw[jM,nR];exact az e)
   have aI:bt x.aO 0<f.cC.length:=V
   have H:∀e,eU (d++[{f with bI:=fe bI (x.aO.drop 1),pc:=f.pc+1,cC:=gX f.cC (bt x.aO 0) (bt f.aU (bt x.aO 0))}]) e=eU s.bq e+(if e=ix (bt f.aU (bt x.aO 0))then 1 else 0):=λe=>by
    rw[u,iT,iT,lU,lU];have aE:=jR (l:=f.cC) q.1 aI;rw[aM]at aE;simp only[gX];rw[Tw _ _ aE,Tx B.1,aW V];omega
   have aQ:¬jJ s.aR (ix (bt f.aU (bt x.aO 0))):=λF=>F.aaj B.2
   refine j.jO P u (hd:=O) (g:={f with bI:=fe bI (x.aO.drop 1),pc:=f.pc+1,cC:=gX f.cC (bt x.aO 0) (bt f.aU (bt x.aO 0))}) ⟨X.fQ,X.pc,X.lr,X.lo,by simp only[jP];exact X.lh,X.XQ,X.bI,λw o=>?_⟩ Q (j.mG.dY bO) (λp G=>?_) (λp G=>?_) j.cy (dg:=s.dg) ⟨dT _,j.dg.2⟩
   .rcases tP o with o|o
    .rw[o];exact bR B.1
    .exact E.cC w o
   .rw[H]
    by_cases A:p=ix (bt f.aU (bt x.aO 0))
    .rw[bn A,A,j.qV _ aQ];rfl
    .rw[aW A];rw[jJ.ne A]at G;have:=j.eO p G;omega
   .rw[H]
    by_cases A:p=ix (bt f.aU (bt x.aO 0))
    .subst A;rw[jJ.GO S]at G;simp at G
    .rw[aW A];rw[jJ.ne A]at G;have:=j.qV p G;omega
  .let⟨Q,k2,k3⟩:=C.iZ B aB ax (e':=j8 (d++[{f with bI:=fe bI (x.aO.drop 1),pc:=f.pc+1}])) (λe=>by rw[jM,nR];exact az e) j.mG
   let⟨F,N⟩:=j.ux u (g:={f with bI:=fe bI (x.aO.drop 1),pc:=f.pc+1}) O k2
   exact j.jO P u (hd:=O) X Q k3 F N j.cy (dg:=s.dg) ⟨dT _,j.dg.2⟩
 by_cases bf:x.op=18
 .simp(disch:=omega) only[eD,aW,bn]at y⊢
  have q:=af V
  have v:cO c x=[bt x.aO 0]:=by simp(disch:=omega) only[cO,bn];exact aq V
  have K:lO x.op:=by unfold lO;omega
  let⟨F,N⟩:=j.ux u (g:=bW.cG {f with bI:=bI,pc:=f.pc+1} x.bH (bt f.aU (bt x.aO 0)) (iV (bt f.aU (bt x.aO 0)))) O (λe=>Rf)
  refine j.jO P u (hd:=O) ((W V V).cG (ae _ q.1 q.2) Mm IS) (C.congr λe=>?_) j.mG F N j.cy (dg:=s.dg) ⟨dT _,j.dg.2⟩
  rw[al _ _ _ _ K,v,BC];rfl
 by_cases aE:x.op=19
 .simp(disch:=omega) only[eD,aW,bn]at y⊢
  let⟨B,A⟩:=I.tO aE
  let⟨S,ai⟩:=dy B
  refine ap _ _ (by unfold lO;omega) V V (by simp[cO,aE]) ?_ j.cy
  rcases((C.gZ _ (aZ S)).wZ ai).1 _ (iS y.2.1 A)with z|z
  .exact bC z
  .exact bR z.1
 by_cases a1:x.op=20
 .simp(disch:=omega) only[eD,aW,bn]at y⊢
  have:=aP V V
  exact ar _ (by split<;>omega) (by split<;>omega) (by simp[cO,a1])
 by_cases aF:x.op=21
 .simp(disch:=omega) only[eD,aW,bn]at y⊢
  let⟨B,aA⟩:=I.xW aF
  have X:tH (cT c.bS x.cE) (bu s.aR (bt f.aU (bt x.aO 0))).js<(cT c.bS x.cE).length:=mB ⟨_,aA,bO⟩
  let⟨ao,A⟩:=y.2.2
  have:=A _ (iS (l:=x.gE) (i:=(tH (cT c.bS x.cE) (bu s.aR (bt f.aU (bt x.aO 0))).js:Nat)) V V)
  exact ar _ V V (by simp[cO,aF])
 by_cases a2:x.op=22
 .simp(disch:=omega) only[eD,aW,bn]at y⊢
  exact ar _ V V (by simp[cO,a2])
 have aY:∀w∈dQ f x.aO,ln w\/1000<=w:=λw o=>by
  obtain⟨m,U,rfl⟩:=gK.1 o;exact ae m (aa m U).1 (aa m U).2
 have az:qM x.op->s.dg<s.dL:=λS=>by
  have:=j.dg;have:s.dg≠s.dL:=λR=>a4 ⟨S,R⟩;omega
 have aO:∀(hp:ah),s.dg<s.dL->x.op≠23->x.op≠24->∀(g:bW),iI c g->lO x.op->g.bH=x.bH->jd hp (j8 (d++[{f with bI:=bI,pc:=f.pc+1},g]))->pZ hp->(∀e,jJ hp e<->jJ s.aR e)->(∀e,eU [g] e=0)->
  eu c {s with dg:=s.dg+1,aR:=hp,bq:=d++[{f with bI:=bI,pc:=f.pc+1},g]}:=λhp bh k z g hg K a6 hH hT hK a7=>by
  have aI:=j.dg
  have X:=j.kV
  rw[u]at X
  have H:∀e,eU (d++[{f with bI:=bI,pc:=f.pc+1},g]) e=eU s.bq e:=λe=>by
   have:=a7 e;simp only[u,iT,eU]at this⊢;omega
  refine⟨j.iG,j.eC,⟨λR=>by simp at R;omega,sx⟩,j.iQ,j.Co,j.dL,⟨by simp only[];omega,by simp only[];omega⟩,by simp at X⊢;omega,j.cy,hH,hT,λM J=>?_,PQ aw O,(au.Of (b:={f with bI:=bI,pc:=f.pc+1}) O).iJ (by rw[a6];exact⟨av.1,by simp only[];omega,aK K⟩),λp q=>by rw[H];exact j.eO p ((hK p).1 q),λp q=>by rw[H];exact j.qV p λD=>q ((hK p).2 D)⟩
  have:=W k z
  grind
 by_cases e9:x.op=9
 .simp(disch:=omega) only[eD,aW,bn]at y⊢
  let⟨M,am,ad,an⟩:=y
  have v:cO c x=jW c x 0 x.aO:=by simp(disch:=omega) only[cO,aW,bn]
  refine aO s.aR (az (bC e9)) V V (cz c x.cE x.bH (dQ f x.aO)) (yT j.iG am ad (by simp[dQ,an]) aY) (by unfold lO;omega) O (C.congr λe=>?_) j.mG (λ_=>Rf) tQ
  rw[jM,v]
  simp only[j8]
  rw[uP,Ml];omega
 by_cases aG:x.op=24
 .simp(disch:=omega) only[eD,aW,bn]at y⊢
  let⟨M,am,ad,an⟩:=y
  have v:cO c x=jW c x 0 x.aO:=by simp(disch:=omega) only[cO,aW,bn]
  let⟨ao,aB⟩:=I.ov (bC aG)
  have H:∀e,eU (d++[cz c x.cE f.bH (dQ f x.aO)]) e=eU s.bq e:=λe=>by
   rw[u,iT,iT,tQ,lU,rY (λo=>oh (aB _ o))]
  have A:=az (bR (bR aG))
  refine j.jO P u (hd:=O) (yT j.iG am ad (by simp[dQ,an]) aY) (C.congr λe=>?_) j.mG (λp q=>by rw[H];exact j.eO p q) (λp q=>by rw[H];exact j.qV p q) j.cy (dg:=s.dg+1) V
  rw[jM,nR,uP,Ml,v,xG ao];omega
 by_cases am:x.op=11
 .simp(disch:=omega) only[eD,aW,bn]at y⊢
  have v:cO c x=x.aO:=by simp(disch:=omega) only[cO,aW,bn]
  have a3:x.aO=[bt x.aO 0,bt x.aO 1]:=by
   cases A:x.aO with
   |nil=>rw[A]at y;simp at y
   |cons an ad=>cases ad with
    |nil=>rw[A]at y;simp at y
    |cons aM ad=>cases ad with
     |nil=>rfl
     |cons _ _=>rw[A]at y;simp at y
  have an:0<=bt x.aO 1/\bt x.aO 1<f.aU.length:=aa _ (iS V V)
  let⟨B,bb,bj,a5,aM,ax⟩:=I.apply am
  let⟨S,ai⟩:=dy B
  let⟨M,J⟩:=dV c.di (((bu s.aR (bt f.aU (bt x.aO 0))).js -cF c).toNat)
  have aQ:dG c ((bu s.aR (bt f.aU (bt x.aO 0))).js -cF c)=M:=by simp[dG,J]
  rw[aQ]at a5 aM
  have ad:∀e,iW ((cO c x).map (bt f.aU)) e=(if e=ix (bt f.aU (bt x.aO 0))then 1 else 0)+iW [bt f.aU (bt x.aO 1)] e:=λe=>by
   rw[v,a3];simp only[eM,ji];rw[lC]
   .rfl
   .exact B.1
  let⟨Q,k2,k3⟩:=C.iZ B (by simp only[ad,bn];have:=ac (ix (bt f.aU (bt x.aO 0)));have:=lD [bt f.aU (bt x.aO 1)] (ix (bt f.aU (bt x.aO 0)));omega) ax
   (e':=j8 (d++[{f with bI:=bI,pc:=f.pc+1},cz c ((bu s.aR (bt f.aU (bt x.aO 0))).js -cF c) x.bH ((bu s.aR (bt f.aU (bt x.aO 0))).bJ++[bt f.aU (bt x.aO 1)])])) (λe=>by
    rw[jM,ad];simp only[j8];rw[uP,aQ,cp.1 aM,NJ,pB];omega) j.mG
  refine aO _ (az (bR (bC am))) V V _ (yT j.iG bb J eX λw o=>?_) (by unfold lO;omega) O Q k3 k2 tQ
  rcases bU.1 o with o|o
  .rcases((C.gZ _ (aZ S)).wZ ai).1 w o with z|z
   .exact bC z
   .exact bR z.1
  .simp at o;subst o;exact ae _ an.1 an.2
 have ai:x.op=23:=iC λ_=>by simp(disch:=omega) only[aW]at y
 simp(disch:=omega) only[eD,aW,bn]at y⊢
 have q:=af V
 have v:cO c x=[bt x.aO 0]:=by simp(disch:=omega) only[cO,bn];exact aq V
 let⟨ao,aB⟩:=I.ov (bR ai)
 have an:∀e,eU [f] e=0:=λe=>by rw[lU];exact rY (λo=>oh (aB _ o))
 split
 .rename_i A
  have ad:d=[]:=List.getLast?_eq_none_iff.1 A
  subst ad
  have B:=I.tU ai
  have ag:=aN _ q.1 q.2 (by rcases B with k|k;(rw[u]at k;simp at k);exact k)
  have aI:=j.dg
  refine⟨j.iG,⟨bO,bO⟩,bO,ag,bO,j.dL,j.dg,eX,j.cy,C.congr λe=>?_,j.mG,bO,bO,bO,λp G=>?_,λp G=>?_⟩
  .rw[v,xG ao]
   simp only[j8,eM,ji]
   rw[rY (by simp;have:=ag.2;omega)];rfl
  .have k:=j.eO p G
   rw[u]at k
   have z:=an p
   simp only[iA]at k
   omega
  .simp[eU]
 .rename_i B A
  have ad:d=d.dropLast++[B]:=by
   have ax:d≠[]:=λR=>by rw[R]at A;simp at A
   rw[rC ax]at A;simp at A;rw[<-A];exact(nH ax).symm
  generalize d.dropLast=fs' at ad
  subst ad
  have ag:iI c B:=ay B bO
  let⟨aM,aQ,a3⟩:=j.uK fs'.length B f (by rw[u];simp) (by rw[u];simp)
  have a5:f.bH<B.aU.length:=by have:=ag.lr;have:=ag.lo;omega
  have aI:=j.dg
  have X:=j.kV
  rw[u]at X
  have H:∀e,eU (fs'++[B.cG f.bH (bt f.aU (bt x.aO 0)) (iV (bt f.aU (bt x.aO 0)))]) e=eU s.bq e:=λe=>by
   rw[u,iT,iT,an,iT,lU,lU];simp[bW.cG]
  refine⟨j.iG,j.eC,⟨λR=>by simp at R;omega,sx⟩,j.iQ,j.Co,j.dL,j.dg,by simp at X⊢;omega,j.cy,C.congr λe=>?_,j.mG,λM J=>?_,PQ (l:=fs') (a:=B) (r:=[f]) (sp aw) O,au.ry.Of O,λp G=>by rw[H];exact j.eO p G,λp G=>by rw[H];exact j.qV p G⟩
  .rw[jM,nR,jM,nR,v,xG ao]
   simp only[bW.cG,eM,ji]
   rw[Su aM a5 aQ a3,BC];omega
  .rcases bU.1 J with J|J
   .exact ay M (dN _ J)
   .simp at J;subst J
    exact ag.cG (ae _ q.1 q.2) Mm IS
def O8(h:eu c s):eu c (qy c s):=by
 unfold qy;by_cases b:s.eC=3
 .rw[aW (sp b)];let⟨d,f,a⟩:=h.split b;have i:s.bq.getLast?=some f:=by rw[a];simp
  have j:s.bq.dropLast=d:=by rw[a];simp
  rw[i,j];simp only[];have g:∀n,1<=n->n<=2->eu c {s with eC:=n}:=λn l m=>
   ⟨h.iG,⟨by simp only[];omega,by simp only[];omega⟩,⟨λe=>by simp only[]at e;omega,λe=>by simp only[]at e;rw[a]at e;simp at e⟩,h.iQ,λe=>oh (h.Co e),h.dL,h.dg,h.kV,h.cy,h.aR,h.mG,h.bq,h.first,h.uK,h.eO,h.qV⟩
  split
  .exact g 1 V V
  .rename_i e;split
   .rename_i k;exact WD h b a k e
   .exact g 2 V V
 .rw[bn (sp b)];exact h
end
section
variable{a:cZ}{s:St}
def wj(a:cZ):an->Int
 |[]=>0
 |f::b=>((dG a f.fQ).eA.length -f.pc)+wj a b
def qN(a:cZ):∀(l r:an),wj a (l++r)=wj a l+wj a r
 |[],r=>by simp[wj]
 |f::l,r=>by simp only[eT,wj,qN a l r];omega
def AX(a:cZ)(s:St):Int:=wj a s.bq+(s.dL -s.dg)*2000
def Z6{a:cZ}:∀{b:an},(∀f∈b,iI a f)->0<=wj a b
 |[],_=>by simp[wj]
 |f::b,h=>by
  have:=Z6 (λg c=>h g (aX _ c));have:=(h f cK).pc;simp only[wj];omega
def aa8(h:eu a s):0<=AX a s:=by
 have:=Z6 h.bq;have:=h.dg;unfold AX;omega
def TA{d:an}{f:bW}(I:eu a s)(m:s.bq=d++[f])
 (M:pb a s f (fF a f) (cL f.aU f.bI (cO a (fF a f)))):
 AX a (eD a s d f (fF a f) (cL f.aU f.bI (cO a (fF a f))))<AX a s:=by
 have K:iI a f:=by grind [eu.bq]
 let⟨ac,hp,N,hP,aa,T⟩:=K.Ky I.iG
 have U:=K.pc
 generalize fF a f=x at*
 generalize cL f.aU f.bI (cO a x)=bI at*
 rw[N]at U
 have mM:∀(g:bW)(b:St),b.bq=d++[g]->g.fQ=f.fQ->f.pc<g.pc->b.dL=s.dL->b.dg=s.dg->AX a b<AX a s:=λg b e J R h j=>by
  unfold AX;rw[m,e,h,j,qN,qN];grind [wj]
 have eA:∀q:Int,0<=q->q<a.di.length->((dG a q).eA.length:Int)<=2000:=λq Z J=>by
  let⟨P,W⟩:=dV a.di q.toNat;have:=(I.iG.eS P (aZ W)).aT;have Q:dG a q=P:=by grind [dG]
  rw[Q];omega
 have Nk:∀(g n:bW)(b:St),b.bq=d++[g,n]->g.fQ=f.fQ->f.pc<g.pc->0<=n.fQ->n.fQ<a.di.length->n.pc=0->b.dL=s.dL->b.dg=s.dg+1->AX a b<AX a s:=λg n b e J R r t S h j=>by
  have:=eA n.fQ r t;unfold AX;rw[m,e,h,j,qN,qN];grind [wj]
 have tail:∀(n:bW)(b:St),b.bq=d++[n]->0<=n.fQ->n.fQ<a.di.length->n.pc=0->b.dL=s.dL->b.dg=s.dg+1->AX a b<AX a s:=λn b e r t S h j=>by
  have:=eA n.fQ r t;unfold AX;rw[m,e,h,j,qN,qN];grind [wj]
 have c:=T.op
 unfold mJ at c
 unfold eD
 simp only[]
 by_cases u:x.op=0
 .rw[bn u];exact mM _ _ O O (by show f.pc<f.pc+1;omega) O O
 rw[aW u]at c⊢
 by_cases v:x.op=1\/x.op=2\/x.op=3\/x.op=4
 .rw[bn v];exact mM _ _ O O (by show f.pc<f.pc+1;omega) O O
 rw[aW v]
 by_cases G:x.op=5
 .rw[bn G];exact mM _ _ O O (by show f.pc<f.pc+1;omega) O O
 rw[aW G]
 by_cases k:x.op=6
 .rw[bn k]
  split
  .exact mM _ _ O O (by show f.pc<f.pc+1;omega) O O
  .exact mM _ _ O O (by show f.pc<f.pc+1;omega) O O
 rw[aW k]
 by_cases w:x.op=10
 .rw[bn w];exact mM _ _ O O (by show f.pc<f.pc+1;omega) O O
 rw[aW w]
 by_cases y:x.op=14
 .rw[bn y];exact mM _ _ O O cB O O
 rw[aW y]
 by_cases z:x.op=15
 .rw[bn z];exact mM _ _ O O cB O O
 rw[aW z]
 by_cases A:x.op=16\/x.op=17
 .rw[bn A]
  split
  .exact mM _ _ O O cB O O
  .exact mM _ _ O O cB O O
 rw[aW A]
 by_cases B:x.op=18
 .rw[bn B];exact mM _ _ O O (by show f.pc<f.pc+1;omega) O O
 rw[aW B]
 by_cases C:x.op=19
 .rw[bn C];exact mM _ _ O O (by show f.pc<f.pc+1;omega) O O
 rw[aW C]
 by_cases D:x.op=20
 .rw[bn D]
  simp(disch:=omega) only[aW,bn]at c
  exact mM _ _ O O cB O O
 rw[aW D]
 by_cases p:x.op=21
 .rw[bn p]
  simp(disch:=omega) only[aW,bn]at c
  let⟨L,E⟩:=M.xW p
  have F:tH (cT a.bS x.cE) (bu s.aR (bt f.aU (bt x.aO 0))).js<(cT a.bS x.cE).length:=mB ⟨_,E,bO⟩
  let⟨H,o⟩:=c.2.2
  have:=o _ (iS (l:=x.gE) (i:=(tH (cT a.bS x.cE) (bu s.aR (bt f.aU (bt x.aO 0))).js:Nat)) V V)
  exact mM _ _ O O cB O O
 rw[aW p]
 by_cases E:x.op=22
 .rw[bn E]
  simp(disch:=omega) only[aW,bn]at c
  exact mM _ _ O O cB O O
 rw[aW E]
 by_cases H:x.op=9
 .rw[bn H]
  rw[aW V,aW V,aW k,bn V]at c
  let⟨q,X,o,Y⟩:=c
  have:=br o
  exact Nk _ _ _ O O cB (by simp only[cz];omega) (by simp only[cz];omega) O O O
 rw[aW H]
 by_cases F:x.op=24
 .rw[bn F]
  rw[aW V,aW V,aW k,bn V]at c
  let⟨q,X,o,Y⟩:=c
  have:=br o
  exact tail _ _ O (by simp only[cz];omega) (by simp only[cz];omega) O O O
 rw[aW F]
 by_cases o:x.op=11
 .rw[bn o]
  obtain⟨L,X,Y,_⟩:=M.apply o
  exact Nk _ _ _ O O cB (by simp only[cz];omega) (by simp only[cz];omega) O O O
 rw[aW o]
 split
 .grind [List.getLast?_eq_none_iff,AX,wj]
 .rename_i X Y
  have L:d=d.dropLast++[X]:=by
   have ab:d≠[]:=cB;grind [List.getLast?_eq_some_getLast,List.dropLast_concat_getLast]
  generalize d.dropLast=fs' at L
  subst L
  unfold AX
  rw[m]
  simp only[qN,wj,bW.cG,N];omega
def YO(h:eu a s)(k:s.eC=3)(b:(qy a s).eC=3):AX a (qy a s)<AX a s:=by
 let⟨g,f,j⟩:=h.split k;have d:s.bq.getLast?=some f:=cB;have e:s.bq.dropLast=g:=cB;unfold qy at b⊢;rw[aW cB,d,e]at b⊢;simp only[]at b⊢;split at b
 .simp at b
 .rename_i i;rw[aW i];split at b
  .rename_i c;rw[bn c];exact TA h j c
  .simp at b
noncomputable def bA (a:cZ):Nat->St->St
 |0,s=>s
 |n+1,s=>bA a n (qy a s)
theorem xV(a:cZ):∀(n:Nat)(s:St),bA a (n+1) s=qy a (bA a n s)
 |0,s=>O
 |n+1,s=>by rw[bA,xV a n,bA]
def xU{a:cZ}:∀(n:Nat){s:St},eu a s->eu a (bA a n s)
 |0,s,h=>h
 |n+1,s,h=>xU n (O8 h)
theorem ua(h:s.eC≠3):qy a s=s:=by grind [qy]
theorem pV{a:cZ}:∀(n:Nat){s:St},s.eC≠3->bA a n s=s
 |0,s,_=>O
 |n+1,s,h=>by rw[bA,ua h,pV n h]
def QZ{a:cZ}:∀(n:Nat){s:St},eu a s->AX a s<n->(bA a n s).eC≠3
 |0,s,h,d=>by have:=aa8 h;omega
 |n+1,s,h,d=>by
  rcases gJ (s.eC=3)with b|b
  .rcases gJ ((qy a s).eC=3)with c|c
   .have:=YO h b c;exact QZ n (O8 h) V
   grind [bA,pV]
  .grind [pV]
def jC(a:cZ)(dL:Int):St:=⟨3,0,0,dL,[],[],[cz a 0 0 []]⟩
def AT{dL:Int}(b:iB a)(j:0<=dL/\dL<=40):eu a (jC a dL):=by
 have n:=b.mN.aT;let⟨p,g⟩:=dV a.di 0;have m:=b.mN.first p g;have l:=yT (j:=0) (e:=[]) b (dT 0) g cB bO;have f:∀h,j8 [cz a 0 0 []] h=0:=by grind [nR,uP,fB]
 refine⟨b,by simp[jC],by simp[jC],by simp[jC,ln],by simp[jC],j,by simp[jC];omega,by simp[jC],by simp[jC],⟨by simp[jC],⟨λ_=>0,by simp[jC]⟩,by simp[jC],λc=>by simp only[jC];rw[f];omega,λc d=>by simp only[jC]at d;rw[f]at d;omega⟩,?_,?_,?_,?_,λc⟨i,d,_⟩=>by simp[jC]at d,λc _=>tQ _⟩
 .intro i d;simp[jC]at d
 .grind [jC]
 .intro k e;simp[jC]at e;subst e;rfl
 .grind [jC]
def WZ{dL:Int}(b:iB a)(c:0<=dL/\dL<=40):AX a (jC a dL)<=82000:=by
 grind [iB.mN,nD.aT,dV,iB.eS,aZ,pd.aT,dG,AX,jC,wj,cz]
end
section
variable{k:Nat}{m:bg}
theorem qG{a:af}{d:cR}:zj a k d<->((zR a.length d.qe/\zR a.length d.to/\d.eB.length<=3/\(0<d.eB.length->d.qe=0/\d.to=0))/\
 (∀f∈d.eB,f.length<=3/\HL a.length f)/\∀e∈a.take k,¬(d.eB.length=0/\e.eB.length=0/\e.qe=d.qe/\e.to=d.to)):=by
 constructor
 .grind [Nat.eq_zero_or_pos,List.length,zj.Qi,List.length_eq_zero_iff,zj.jw,zR]
 .rintro⟨⟨f,g,h,c⟩,i,j⟩
  exact⟨λb=>⟨h,(c b).1,(c b).2,i⟩,λb=>⟨λe l m=>j e l ⟨b,m⟩,f,g⟩⟩
def xr{bS:E}{a:af}(hd:dA m bS a):fW dO 42 [bS.v] m (eR a):=by
 apply CS;simp -zeta only[dR];have r:=hd.aT;have aj:=hd.ms;refine⟨λJ=>?_,λJ=>?_⟩
 .grind [eR.aT,D.cU]
 simp only[dm]at J;refine gP (n:=a.length) V (λk b=>D m b/\∀(j:Nat)(d:cR),j<k->a[j]? =some d->zj a j d) ⟨cY,bO⟩ ?_;rintro j C ag μ hj ⟨z,Z⟩ ae
 refine dit (λU=>?_) λU=>?_
 .let⟨d,X⟩:=dV a j;let⟨u,y,T,g1,g2⟩:=(dA.ext z hd).bt X;have am:=y.aT;refine⟨V,V,_,T,_,g1,u,g2,?_⟩;intro m2 s;have A:D C s:=by grind [D.cU,D.bZ,D.aV]
  have M:∀i∈[C.size],i<s.size:=by grind [bD]
  have ab:=z.J A;have q:∀{b:bg},D s b->¬zj a j d->∃H:Bool,vb false=.bool H/\(H=true<->eR a)/\D m b:=by grind [eR.eS,D.J]
  refine⟨λb=>D s b/\zR a.length d.qe/\zR a.length d.to/\d.eB.length<=3/\(0<d.eB.length->d.qe=0/\d.to=0),?_,?_⟩
  .refine(tI).bL cY M λi m4 e K l=>⟨_,O,λc=>q l λg=>nb e c (r▸(qG.1 g).1.1),λc=>?_⟩;have w:=yb e c;refine(tI).bL l M λi t e v f=>⟨_,O,λh=>q f λg=>nb e h (r▸(qG.1 g).1.2.1),λh=>?_⟩;have x:=yb e h;rw[r]at w x;refine⟨λo=>?_,λo=>?_⟩
   .grind [qG]
   simp only[dm]at o;refine⟨λp=>?_,λp=>?_⟩
   .grind [qG,bne_eq_false_iff_eq]
   grind [decide_eq_false_iff_not]
  .rintro m4 ⟨P,al⟩;have ak:=tr.ext (A.J P) y;refine gP (n:=d.eB.length) V (λk b=>D s b/\∀u∈d.eB.take k,u.length<=3/\HL a.length u) ⟨P,bO⟩ ?_;rintro B t I2 μ2 hi ⟨o,N⟩ ac;refine dit (λK=>?_) λK=>?_
   .let⟨I,p⟩:=dV d.eB B;let⟨Q,L,R⟩:=(tr.ext (A.J o) y).bt p;have W:=L.aT;refine⟨V,V,Q,R,?_⟩;intro F G;have w:D t G:=by grind [D.cU,D.bZ,D.aV]
    have S:∀i∈[t.size,C.size],i<G.size:=by
     grind [D.lt,Array.size,bD]
    refine dit (λl=>?_) λl=>?_
    .exact q (o.J w) λg=>by have:=((qG.1 g).2.1 I (aZ p)).1;omega
    exact(Aa (L.ext w)).bL cY S λi x e c v=>⟨_,O,λf=>q ((o.J w).J c) λg=>nb e f (r▸((qG.1 g).2.1 I (aZ p)).2),λf=>ac V _ ⟨(o.J w).J c,dK p N ⟨V,r▸yb e f⟩⟩⟩
   .have ah:=gH V N;refine⟨V,V,V,?_⟩;have W:dA t (bS.cut 0 j 3) (a.take j):=by grind [fX.SZ,dA.ext,D.J]
    have ai:(bS.cut 0 j 3).len=j:=by grind [fX.aT]
    simp -zeta only[fq,Int.toNat_zero];refine gP (n:=j) V (λk b=>D t b/\∀e∈a.take k,¬(d.eB.length=0/\e.eB.length=0/\e.qe=d.qe/\e.to=d.to)) ⟨cY,bO⟩ ?_;rintro p F R μ3 ao ⟨w,aa⟩ ad;refine dit (λl=>?_) λl=>?_
    .let⟨e,I⟩:=dV a p;have L:(a.take j)[p]? =some e:=by rw[lQ,bn V];exact I
     let⟨S,Y,q0,q1,q2⟩:=(dA.ext w W).bt L;have an:=Y.aT;refine⟨V,V,_,q0,_,q1,S,q2,?_⟩;intro G x;have Q:D F x:=by grind [D.cU,D.bZ,D.aV]
     have ap:¬(d.eB.length=0/\e.eB.length=0/\e.qe=d.qe/\e.to=d.to)->R (eJ ((p:Int)+1)) x/\μ3 (eJ ((p:Int)+1)) x<μ3 p F:=λhq=>ad V _ ⟨w.J Q,dK I aa hq⟩;refine⟨λc=>?_,λc=>?_⟩
     .simp only[bP]at c;refine⟨λv=>?_,λv=>?_⟩
      .simp only[bP]at v;refine⟨λf=>?_,λf=>?_⟩
       .simp only[bP]at f;refine⟨λh=>?_,λh=>?_⟩
        .simp only[bP]at h;exact q ((o.J w).J Q) λg=>(qG.1 g).2.2 e (aZ L) ⟨V,V,f,h⟩
        grind [beq_eq_false_iff_ne]
       grind [beq_eq_false_iff_ne]
      grind [beq_eq_false_iff_ne]
     grind [beq_eq_false_iff_ne]
    .have:p=j:=V;subst this;refine ae V _ ⟨(ab.J o).J w,λg c f e=>?_⟩
     grind [qG]
 .exact oD ⟨V,λB d dB=>Z B d (oh (br dB)) dB⟩ z
def SK(m:bg)(b:ae)(p:eG):Prop:=∃a l,b=[.s a,.s l,.i p.bQ]/\ba m a p.aY/\ba m l p.df
def SK.ext{m d:bg}(b:D m d)(a:ae)(c:eG):SK m a c->SK d a c:=λ⟨f,g,e,h,i⟩=>⟨f,g,e,h.ext b,i.ext b⟩
abbrev oW(m:bg)(s:E)(l:av):Prop:=fX m 3 (SK m) s l
def oW.ext{m b:bg}(a:D m b){s:E}{l:av}(h:oW m s l):oW b s l:=h.aP a (SK.ext a)
theorem oW.bt{s:E}{l:av}(h:oW m s l){x:eG}(f:l[k]? =some x):
 ∃a b,ba m a x.aY/\ba m b x.df/\aS m s.bz (s.off+k*3)=some a.v/\aS m s.bz (s.off+k*3+1)=some b.v/\aS m s.bz (s.off+k*3+2)=some (vi x.bQ):=by
 obtain⟨g,⟨a,b,rfl,d,e⟩,c⟩:=h.kZ k x f
 exact⟨a,b,d,e,c 0 (.s a) O,c 1 (.s b) O,c 2 (.i x.bQ) O⟩
def Kv{L M:E}{f:af}{b:av}(hd:dA m L f)(C:oW m M b):
 fW dO 78 [L.v,M.v] m (nD f b/\∀p∈b,Ip p.aY p.df):=by
 apply Es
 simp -zeta only[dR]
 have B:=hd.aT
 have ax:=C.aT
 refine(xr hd).cg λh m1 c F=>⟨_,O,λu=>fy (λa=>nb c u a.1.dk) F,λu=>?_⟩
 have ht:=yb c u
 refine⟨λR=>?_,λR=>?_⟩
 .grind [nD.aT]
 simp only[dm]at R
 refine⟨λS=>?_,λS=>?_⟩
 .grind [nD.aT]
 simp only[dm]at S
 let⟨p0,ak⟩:=dV b 0
 let⟨a0,l0,aj,az,g0,g1,g2⟩:=(oW.ext F C).bt ak
 have au:=aj.aT
 refine⟨V,V,a0,g0,λT=>?_,λT=>?_⟩
 .grind [nD.first]
 simp only[dm]at T
 refine⟨V,V,_,g2,λU=>?_,λU=>?_⟩
 .grind [nD.first]
 simp only[nX]at U
 refine gP (n:=b.length) V (λj H=>D m H/\∀p∈b.take j,(p.aY.length<=3/\HL f.length p.aY/\zR f.length p.bQ)/\Ip p.aY p.df) ⟨F,bO⟩ ?_
 rintro j I aq μ hj ⟨q,Y⟩ ap
 refine dit (λh6=>?_) λh6=>?_
 .let⟨p,o⟩:=dV b j
  let⟨ae,an,A,l,q0,q1,q2⟩:=(oW.ext q C).bt o
  have aw:=A.aT
  have aB:=l.aT
  have aA:=l.kK
  refine⟨V,V,ae,q0,an,q1,_,q2,?_⟩
  intro m3 m4
  have r:D I m4:=by grind [D.cU,D.bZ,D.aV]
  have X:∀h∈[I.size],h<m4.size:=by grind [bD]
  refine⟨λW=>?_,λW=>?_⟩
  .grind [nD.eS,aZ,D.J]
  simp only[dm]at W
  refine(Aa (A.ext r)).bL cY X λh m5 c h8 h9=>⟨_,O,λw=>fy (λa=>nb c w (B▸(a.1.eS p (aZ o)).2.1)) ((q.J r).J h8),λw=>?_⟩
  have ab:=yb c w
  refine(tI).bL h9 X λh J c ar N=>⟨_,O,λy=>fy (λa=>nb c y (B▸(a.1.eS p (aZ o)).2.2)) ((q.J r).J N),λy=>?_⟩
  have aa:=yb c y
  rw[B]at ab aa
  have am:D m J:=by grind [D.J]
  have G:D I J:=r.J N
  refine gP (n:=p.df.length) V (λk H=>H=J/\∀(j:Nat)(v:Int),j<k->p.df[j]? =some v->(∃t,0<=v/\p.aY[v.toNat]? =some t/\t≠0)/\(∀ac:Int,0<j->p.df[j -1]? =some ac->ac<v)) ⟨O,bO⟩ ?_
  rintro k m7 I2 μ2 hk ⟨rfl,Z⟩ ao
  have i:¬Ip p.aY p.df->∃K:Bool,vb false=.bool K/\(K=true<->nD f b/\∀p∈b,Ip p.aY p.df)/\D m m7:=by grind [aZ]
  refine dit (λah=>?_) λah=>?_
  .let⟨x,e⟩:=dV p.df k
   refine⟨V,V,x,by simpa using G.aS (l.bt e),dit (λai=>?_) λai=>?_⟩
   .exact i λa=>by obtain⟨⟨t,P,_⟩,_⟩:=a k x e;omega
   refine dit (λP=>?_) λP=>?_
   .refine i λa=>?_
    obtain⟨⟨t,_,g,_⟩,_⟩:=a k x e
    have:=br g;omega
   let⟨t,al⟩:=dV p.aY x.toNat
   refine⟨V,V,t,by simpa using G.aS (A.bt al),λg=>?_,λg=>?_⟩
   .simp only[bP]at g
    refine i λa=>?_
    obtain⟨⟨d,_,z,Q⟩,_⟩:=a k x e
    grind
   simp only[bd]at g
   refine⟨λz=>?_,λz=>?_⟩
   .simp only[bh]at z
    have e2:eJ ((k:Int) -1)=((k -1:Nat):Int):=by grind [de]
    let⟨ad,hy⟩:=dV p.df (k -1)
    rw[e2]
    refine⟨V,V,ad,by simpa using G.aS (l.bt hy),dit (λQ=>?_) λQ=>?_⟩
    .exact i λa=>by have:=(a k x e).2 ad V hy;omega
    .refine ao V _ ⟨O,λs v ay d=>?_⟩
     by_cases ag:s=k
     .subst ag
      rw[e]at d;simp at d;subst d
      constructor<;>grind
     .exact Z s v V d
   grind [decide_eq_false_iff_not]
  .exact ap V _ ⟨am,dK o Y ⟨⟨V,ab,aa⟩,λs v d=>Z s v (oh (br d)) d⟩⟩
 .have d:=gH V Y
  refine oD ⟨⟨ht,V,λp a=>(d p a).1,λp a=>?_⟩,λp a=>(d p a).2⟩ q
  grind
end
section
variable{c:bg}{d f a j:E}{b:cZ}{i:Instr}
def yR{I:E}(B:gY c d I b):
 bK dO 47 [.agg #[E.v d,E.v I]] c λam s=>∃T f e,am=.tuple #[.agg #[E.v T,E.v f],vb e]/\(e=true<->nD b.bS b.di/\∀I∈b.di,Ip I.aY I.df)/\
  (e=true->T=d/\oW s f b.di)/\D c s:=by
 apply Ep
 simp -zeta only[kL,nO]
 intro N h
 have ap:=B.di.aT
 have s1:=pz N
 have s2:h.size=c.size+2:=by simp[h,N]
 have ab:D c h:=((D.cU c).bZ _).bZ _
 refine dit (λh1=>?_) λh1=>?_
 .intro g
  exact⟨_,_,_,O,⟨sx,λB=>oh B.1.aT⟩,sx,ab.aV V _ _⟩
 intro m4 H
 have s5:H.size=c.size+3:=by simp[H,m4,bD,s2]
 have ak:D c H:=(ab.bZ _).aV V _ _
 have ag:dF H h.size pH [.s d,.s .nil]:=dF.aV (m:=m4) (o:=0) (r:=[.s d,.s .nil]) (dF.push h _ _)
 refine gP (n:=b.di.length) V (λM s=>D c s/\H.size<=s.size/\∃g w,dF s h.size pH [.s d,.s g]/\jy c s ud 3 g w.flatten/\iy 3 (SK c) w (b.di.take M)/\(g≠.nil->h.size<g.bz)/\g.len=M)
  ⟨ak,bY,.nil,[],ag,jy.gN _ _ _ _,by simpa using iy.gN 3 (SK c),bO,O⟩ ?_
 rintro M t an μ hk ⟨j,aq,g,w,q,K,L,R,aa⟩ al
 refine dit (λh2=>?_) λh2=>?_
 .let⟨P,Y⟩:=dV b.di M
  let⟨a,e,ac,ha,l,y,g0,g1,g2,g3,g4⟩:=B.di.bt Y
  refine⟨V,V,a,by simpa using j.aS g0,e,by simpa using j.aS g1,_,by simpa using j.aS g2,_,by simpa using j.aS g3,ac,by simpa using j.aS g4,?_⟩
  intro m7 k
  obtain⟨F,s8⟩:=pv k
  clear_value k
  refine⟨g,(q.ext F).dx 1,?_⟩
  intro u
  have S:D t u:=F.bZ _
  have s9:u.size=t.size+2:=by simp[u,s8]
  have mu:jG u k.size 0 [.s a,.s e,.i P.bQ]:=(dF.push k _ _).kZ
  clear_value u
  refine jy.fx (c:=[.s .nil,.s .nil,.i 0]) (i:=[.s a,.s e,.i P.bQ]) (K.ext S) (j.J S) O mu (by simp[aa];omega) ?_
  intro v A h7 h8 U ao ad ae
  have Z:v≠.nil->h.size<v.bz:=by
   intro z;rcases ae with⟨_,x⟩|⟨ai,x,_⟩|x
   .exact absurd x z
   .have:=R ai;omega
   .omega
  have J:∀i,i<u.size->i<=h.size\/i=t.size/\(g=.nil\/g.bz<t.size)->A[i]? =u[i]? :=by
   intro i p y;refine ad i p λz=>?_;have:=R z;rcases y with y|⟨rfl,y|y⟩
   .omega
   .exact absurd y z
   .omega
  have ah:g=.nil\/g.bz<t.size:=K.lt
  have W:dF A h.size pH [.s d,.s g]:=(q.ext S).congr (J _ V (bC bY))
  refine⟨λi p=>?_,W.jb bO,?_⟩
  .simp at p
   rcases p with rfl|rfl|rfl
   .exact J _ V (bR ⟨O,ah⟩)
   .exact J _ V (bC V)
   .exact J _ V (bC V)
  intro G
  have ar:G.size=A.size:=by simp[G,bD]
  have af:dF G h.size pH [.s d,.s v]:=dF.aV (m:=A) (o:=1) (r:=[.s v]) W
  have X:∀e,e≠h.size->G[e]? =A[e]? :=λe l=>cq _ _ _ _ l
  have aj:D c G:=h8.aV V _ _
  refine⟨λi p=>?_,?_⟩
  .simp at p
   rcases p with rfl|rfl|rfl<;>exact X _ V
  refine al V _ ⟨aj,V,v,w++[[.s a,.s e,.i P.bQ]],af,?_,?_,Z,by simp[U,aa]⟩
  .rw[uI]
   have Q:jy c A ud 3 v (w.flatten++[[.s a,.s e,.i P.bQ]].flatten):=sp h7
   rcases Q.lt with x|x
   .subst x;exact⟨Q.aT,bC O⟩
   .refine Q.congr (X _ λe2=>?_)
    by_cases C:v=.nil
    .subst C
     have:=U
     simp at this
    .have:=Z C;omega
  .rw[bX Y]
   exact L.Dh O ⟨a,e,O,ha,l⟩
 .rw[eQ V]at L
  have x:oW t g b.di:=(fX.ju K L V V).aP cY (SK.ext j)
  refine⟨d,q.dx 0,g,q.dx 1,g,q.dx 1,?_⟩
  have u:∀e∈[N.size,c.size],e<t.size:=eX
  refine(Kv (dA.ext j B.bS) x).bL cY u λe m7 l i _=>⟨_,O,i.da (q.dx 0),i.da (q.dx 1),?_⟩
  intro k
  have z:∀e,e≠N.size->k[e]? =m7[e]? :=λe l=>cq _ _ _ _ l
  have F:D c k:=(j.J i).aV V _ _
  refine⟨d,g,e,O,l,λ_=>⟨O,?_⟩,F⟩
  have p:=K.ext i
  have v:jy c k ud 3 g w.flatten:=by
   by_cases C:g=.nil
   .subst C;exact⟨p.aT,bC O⟩
   .exact p.congr (z _ (oh (R C)))
  exact(fX.ju v L V V).aP cY (SK.ext F)
def tx(b:cZ)(i:Instr)(a:Int->Prop):Prop:=
 if i.op=0 then -999<=i.cE/\i.cE<=999
 else if i.op=6 then 0<=i.cE/\i.cE<(gR b.bS).length
 else if i.op=9\/i.op=24 then 0<=i.cE/\i.cE<b.di.length
 else if i.op=10 then 0<=i.cE/\∃q,b.di[i.cE.toNat]? =some q/\q.df.length=0
 else if i.op=19 then 0<=i.cE/\i.cE<3
 else if i.op=20\/i.op=22 then a i.cE
 else if i.op=21 then 0<(cT b.bS i.cE).length/\i.gE.length=(cT b.bS i.cE).length
 else i.cE=0
def Mb(hd:dA c d b.bS)(x:eR b.bS)(z:oW c f b.di)(K:ba c a i.aO)(F:ba c j i.gE)(q:Nat)(v t:Array Value)(E:GL.elem q=true)(l:Int->Prop)
 (G:∀e,D c e->fW dO q (v.toList++[vi i.cE]++t.toList) e (l i.cE)):
 fW dO 83 [.agg #[d.v,f.v],.agg #[vi i.op,vi i.bH,vi i.cE,vi i.dh,a.v,j.v],.func (.func q) v t] c (tx b i l):=by
 apply uz d f i.op i.bH i.cE i.dh a j (.func q,v,t)
 simp -zeta only[dR]
 intro A s
 have e:D c s:=((D.cU c).bZ _).bZ _
 have w:∀y∈[A.size,c.size],y<s.size:=cB
 have M:=z.aT
 have N:=F.aT
 have C:dF s A.size fA [.i i.op,.i i.bH,.i i.cE,.i i.dh,.s a,.s j]:=dF.push _ _ _
 refine⟨λm=>?_,λm=>?_⟩
 .grind [tx]
 simp only[bd]at m
 refine⟨λk=>?_,λk=>?_⟩
 .simp only[bP]at k
  rw[show tx b i l<->0<=i.cE/\i.cE<(gR b.bS).length by rw[tx,aW m,bn k]]
  refine⟨λh=>?_,λh=>fy ?_ e⟩<;>simp at h
  .refine(rh (dA.ext e hd) x.aT (OW x)).bL cY w λB g _=>⟨_,O,g.da (C.dx 2),kY ?_ (e.J g)⟩
   simp;omega
  .omega
 simp only[bd]at k
 refine⟨λn=>?_,λn=>?_⟩
 .grind [tx,List.length]
 simp only[cV,bd]at n
 replace n:¬(i.op=9\/i.op=24):=V
 refine⟨λo=>?_,λo=>?_⟩
 .simp only[bP]at o
  rw[show tx b i l<->0<=i.cE/\∃p,b.di[i.cE.toNat]? =some p/\p.df.length=0 by rw[tx,aW m,aW k,aW n,bn o]]
  refine⟨λh=>⟨λr=>?_,λr=>?_⟩,λh=>fy ?_ e⟩<;>simp at h
  .simp at r
   let⟨p,H⟩:=dV b.di i.cE.toNat
   let⟨I,P,L,u,J,g1,g2⟩:=(oW.ext e z).bt H
   have:=u.aT
   constructor<;>grind
  .grind [br]
  .omega
 simp only[bd]at o
 refine⟨λr=>?_,λr=>?_⟩
 .grind [tx]
 simp only[bd]at r
 refine⟨λp=>?_,λp=>?_⟩
 .simp only[eH,bP]at p
  rw[show tx b i l<->l i.cE by rw[tx,aW m,aW k,aW n,aW o,aW r,bn p]]
  exact⟨q,O,E,(G s e).bL cY w λy B u g _=>⟨_,O,kY u (e.J g)⟩⟩
 simp only[cV,bd]at p
 replace p:¬(i.op=20\/i.op=22):=V
 refine⟨λu=>?_,λu=>?_⟩
 .simp only[bP]at u
  rw[show tx b i l<->0<(cT b.bS i.cE).length/\i.gE.length=(cT b.bS i.cE).length by rw[tx,aW m,aW k,aW n,aW o,aW r,aW p,bn u]]
  refine(xt (dA.ext e hd) x _).bL cY w ?_
  rintro _ B ⟨I,rfl,H,g⟩
  have:=H.aT
  refine⟨g,_,O,λh=>kY ?_ (e.J g),λh=>fy ?_ (e.J g)⟩<;>simp at h
  .grind
  .omega
 .grind [beq_eq_false_iff_ne,tx]
def wW(b:cZ)(i:Instr)(c a:Int):Prop:=
 if i.op=0\/i.op=22 then c=0/\a=0
 else if i.op=1\/i.op=2\/i.op=3\/i.op=4\/i.op=11 then c=2/\a=2
 else if i.op=6 then c=(cX b.bS i.cE).length/\a=(cX b.bS i.cE).length
 else if i.op=9\/i.op=24 then∃q,b.di[i.cE.toNat]? =some q/\c=q.aY.length/\a=q.aY.length
 else if i.op=10 then∃q,b.di[i.cE.toNat]? =some q/\c=(q.aY.length:Int) -1/\a=(q.aY.length:Int) -1
 else if i.op=16\/i.op=17 then c=1/\a=4
 else c=1/\a=1
def PZ(hd:dA c d b.bS)(t:eR b.bS)(o:oW c f b.di){E:Int->Prop}(l:tx b i E):
 bK dO 84 [.agg #[d.v,f.v],.agg #[vi i.op,vi i.bH,vi i.cE,vi i.dh,a.v,j.v]] c λH F=>∃u s:Int,H=.tuple #[vi u,vi s]/\wW b i u s/\D c F:=by
 apply vI
 simp -zeta only[dR]
 intro G v
 have p:D c v:=((D.cU c).bZ _).bZ _
 have A:∀x∈[G.size,c.size],x<v.size:=cB
 have K:=o.aT
 refine⟨λg=>?_,λg=>?_⟩
 .grind [wW]
 simp only[cV,bd]at g
 refine⟨λr=>?_,λr=>?_⟩
 .grind [wW]
 simp only[cV,bd]at r
 refine⟨λe=>?_,λe=>?_⟩
 .simp only[bP]at e
  rw[tx,aW g.1,bn e]at l
  have h:=tF t b.bS.length
  rw[qI _ _ bY]at h
  refine(uy (dA.ext p hd) t V).bL cY A ?_
  grind [fX.aT,wW,D.J]
 simp only[bd]at e
 refine⟨λh=>?_,λh=>?_⟩
 .simp only[eH,bP]at h
  rw[tx,aW g.1,aW e,bn h]at l
  let⟨w,m⟩:=dV b.di i.cE.toNat
  let⟨q,C,k,B,z,g1,g2⟩:=(oW.ext p o).bt m
  have:=k.aT
  grind [wW]
 simp only[cV,bd]at h
 have y:¬(i.op=9\/i.op=24):=V
 refine⟨λn=>?_,λn=>?_⟩
 .simp only[bP]at n
  rw[tx,aW g.1,aW e,aW y,bn n]at l
  obtain⟨J,w,m,_⟩:=l
  let⟨q,C,k,B,z,g1,g2⟩:=(oW.ext p o).bt m
  have:=k.aT
  have:=k.kK
  have:=br m
  have I:eJ ((q.len:Int) -1)=(w.aY.length:Int) -1:=by grind [de]
  grind [wW]
 grind [beq_eq_false_iff_ne,wW,Bool.or_eq_false_iff]
end
section
variable{m:bg}{x k:Int}{a b1:Nat}{c:E}
def Cs(b:aS m a 0=some (vi k))(d:aS m b1 4=some c.v):
 fW dO 80 [vi x,vp a 0,vp b1 0] m (k+1<=x/\x<=(c.len:Int) -1):=by
 apply sJ (a,0) (b1,0)
 refine⟨k,b,λh=>⟨c,d,kY ?_ cY⟩,λh=>fy ?_ cY⟩<;>simp at h
 .simp;omega
 .omega
def Od{b2:Nat}(b:aS m a 0=some (vi k))(d:aS m b1 4=some c.v)
 (e:aS m b2 0=some (.func (.func 80) #[] #[vp a 0,vp b1 0])):
 fW dO 82 [vi x,vp b2 0] m (¬(k+1<=x/\x<=(c.len:Int) -1)):=by
 apply sK (b2,0)
 refine⟨(.func 80,#[],#[vp a 0,vp b1 0]),e,_,O,O,?_⟩
 refine(Cs b d).cg λh i f g=>⟨_,O,kY ?_ g⟩
 rw[<-f];simp
theorem Ny{a:cZ}{p:eG}{k:Nat}{i:Instr}(m:∀q∈a.di,q.aY.length<=3):
 iP a p k i<->((0<=i.op/\i.op<=24/\i.op≠7/\i.op≠8/\i.op≠12/\i.op≠13)/\(0<=i.bH/\i.bH<p.aU/\(i.bH=0\/lO i.op)/\0<=i.dh/\i.dh<=p.aU/\(i.dh=0\/i.op=6))/\
  (∀b∈i.aO,0<=b/\b<p.aU)/\(i.gE.length=0\/i.op=21)/\(∀t∈i.gE,(k:Int)+1<=t/\t<=(p.eA.length:Int) -1)/\
  tx a i (λt=>(k:Int)+1<=t/\t<=(p.eA.length:Int) -1)/\∀c b,wW a i c b->c<=i.aO.length/\(i.aO.length:Int)<=b):=by
 have L:=λq(h:a.di[i.cE.toNat]? =some q)=>br h
 have G:0<=i.cE/\i.cE<a.di.length->∃q,a.di[i.cE.toNat]? =some q:=λh=>gD V
 unfold tx wW
 constructor
 .rintro⟨e,a2,a3,a4,f,b⟩
  unfold mJ rS JX at b
  refine⟨?_,?_,?_,?_,?_,?_,?_⟩<;>grind (splits:=24)
 .rintro⟨j,l,n,o,r,s,b⟩
  have g:=b 0 0
  have e:=b 1 1
  have a2:=b 2 2
  have a3:=b 1 4
  have a4:=b (cX a.bS i.cE).length (cX a.bS i.cE).length
  have f:∀q,a.di[i.cE.toNat]? =some q->(i.op=9\/i.op=24->q.aY.length=i.aO.length)/\(i.op=10->q.aY.length=i.aO.length+1):=λq d=>by
   refine⟨λc=>?_,λc=>?_⟩
   .have:=b q.aY.length q.aY.length (by rw[aW V,aW V,aW V,bn c];exact⟨q,d,O,O⟩);omega
   .have:=b (q.aY.length -1) (q.aY.length -1) (by rw[aW V,aW V,aW V,aW V,bn c];exact⟨q,d,O,O⟩);omega
  refine⟨?_,?_,?_,?_,?_,?_⟩
  rotate_right
  .unfold mJ rS JX
   grind (splits:=24)
  all_goals grind
end
section
variable{b:bg}{d:E}{c:cZ}
def II{R ad al Q:E}(hd:dA b d c.bS)(ht:eR c.bS)(hf:oW b R c.di)(aF:c.di.length<=4)(h3:∀q∈c.di,q.aY.length<=3)
 {q:eG}(hc:je b Q q.eA)(hr:q.aU<=2000){l:Nat}{e:Instr}{G N:E}(S:ba b G e.aO)(Z:ba b N e.gE):
 fW dO 48 [.agg #[d.v,R.v],.agg #[ad.v,al.v,vi q.bQ,vi q.aU,Q.v],vi l,.agg #[vi e.op,vi e.bH,vi e.cE,vi e.dh,G.v,N.v]] b (iP c q l e):=by
 apply tJ
 simp -zeta only[dR]
 intro F A H v
 have s1:=pz F
 have s2:A.size=b.size+2:=cB
 have s3:H.size=b.size+3:=cB
 have s4:v.size=b.size+4:=cB
 have u:D b v:=by grind [D.cU,D.bZ]
 have ag:dF v A.size bB [.i l]:=(dF.push A _ _).ext (D.push _ _)
 have ah:dF v F.size nW [.s ad,.s al,.i q.bQ,.i q.aU,.s Q]:=(dF.push F _ _).ext ((D.push A _).bZ _)
 have K:=Ny (a:=c) (p:=q) (k:=l) (i:=e) h3
 have ap:=hc.aT
 have aB:=S.aT
 have aE:=Z.aT
 refine⟨λh=>fy (λf=>?_) u,λc0=>⟨λh=>fy (λf=>?_) u,λc1=>⟨λh=>fy (λf=>?_) u,λc2=>⟨λh=>fy (λf=>?_) u,λc3=>⟨λh=>fy (λf=>?_) u,λc4=>⟨λh=>fy (λf=>?_) u,λc5=>?_⟩⟩⟩⟩⟩⟩
 any_goals (have:=(K.1 f).1;simp at h;omega)
 simp at c0 c1 c2 c3 c4 c5
 have f1:0<=e.op/\e.op<=24/\e.op≠7/\e.op≠8/\e.op≠12/\e.op≠13:=V
 refine⟨λs=>D v s/\(0<=e.bH/\e.bH<q.aU/\(e.bH=0\/lO e.op)/\0<=e.dh/\e.dh<=q.aU/\(e.dh=0\/e.op=6)),?_,?_⟩
 .refine⟨λh=>fy (λf=>?_) u,λz=>⟨λh=>fy (λf=>?_) u,λB=>?_⟩⟩
  .grind
  .grind
  simp at z B
  have tail:∀s,D v s->(e.bH=0\/lO e.op)->((decide (e.dh<(0:Int)))=true->∃g:Bool,Value.bool false=.bool g/\(g=true<->iP c q l e)/\D b s)/\((decide (e.dh<(0:Int)))=false->
   ((decide (e.dh>q.aU))=true->∃g:Bool,Value.bool false=.bool g/\(g=true<->iP c q l e)/\D b s)/\((decide (e.dh>q.aU))=false->
   ((e.dh !=(0:Int))=true->((e.op !=(6:Int))=true->∃g:Bool,Value.bool false=.bool g/\(g=true<->iP c q l e)/\D b s)/\((e.op !=(6:Int))=false->D v s/\(0<=e.bH/\e.bH<q.aU/\(e.bH=0\/lO e.op)/\0<=e.dh/\e.dh<=q.aU/\(e.dh=0\/e.op=6))))/\
   ((e.dh !=(0:Int))=false->D v s/\(0<=e.bH/\e.bH<q.aU/\(e.bH=0\/lO e.op)/\0<=e.dh/\e.dh<=q.aU/\(e.dh=0\/e.op=6))))):=by
   intro s C M
   have t:=u.J C
   refine⟨λh=>fy (λf=>?_) t,λJ=>⟨λh=>fy (λf=>?_) t,λL=>⟨λx=>⟨λh=>fy (λf=>?_) t,λI=>⟨C,?_⟩⟩,λx=>⟨C,?_⟩⟩⟩⟩
   .grind
   .grind
   .grind
   .grind
   .grind
  refine⟨λh=>?_,λh=>tail v cY (bC cB)⟩
  refine(qL e.op v ⟨V,V⟩).bL cY cB λy s hb C _=>⟨y,O,λw=>fy (λf=>?_) (u.J C),λw=>tail s C (bR (yb hb w))⟩
  have:=(K.1 f).2.1.2.2.1
  grind
 .rintro s ⟨C,f2⟩
  refine gP (n:=e.aO.length) (oh S.kK) (λaa U=>D v U/\∀B∈e.aO.take aa,0<=B/\B<q.aU) ⟨C,bO⟩ ?_
  rintro aa I aA μ hn ⟨w,an⟩ ay
  have W:=u.J w
  refine dit (λh=>?_) λh=>?_
  .let⟨B,t⟩:=dV e.aO aa
   refine⟨V,V,B,by simpa using(S.ext W).bt t,λx=>fy (λf=>?_) W,λx=>⟨λz=>fy (λf=>?_) W,λz=>ay V _ ⟨w,dK t an ?_⟩⟩⟩
   .have:=(K.1 f).2.2.1 B (aZ t);simp at x;omega
   .have:=(K.1 f).2.2.1 B (aZ t);simp at z;omega
   .simp at x z;omega
  .have ao:∀B∈e.aO,0<=B/\B<q.aU:=cB
   intro m7 J
   have s8:J.size=I.size+1:=by grind [bD]
   have z:D I J:=by grind [D.cU,D.bZ,D.aV]
   have ak:=W.J z
   have af:aS J I.size 0=some (.func (.func 80) #[] #[vp A.size 0,vp F.size 0]):=
    (dF.aV (m:=m7) (o:=0) (r:=[.fn (.func 80) #[] #[vp A.size 0,vp F.size 0]]) (dF.push I _ _)).dx 0
   have aG:=w.aQ
   have aw:∀L,D J L->∀t,fW dO 80 [vi t,vp A.size 0,vp F.size 0] L ((l:Int)+1<=t/\t<=(q.eA.length:Int) -1):=λL x t=>by
    rw[<-ap];exact Cs (ag.ext (w.J (z.J x))|>.dx 0) (ah.ext (w.J (z.J x))|>.dx 4)
   have kO:(e.gE.length=0\/e.op=21)->bK dO 81 [N.v,.func (.func 82) #[] #[vp I.size 0]] J λaz P=>
    gS [H.size,b.size] J P/\∃ab:Bool,az=vb ab/\(ab=true->∃g:Bool,Value.bool false=.bool g/\(g=true<->iP c q l e)/\D b P)/\
    (ab=false->∃M:Fn×Array Value×Array Value,aS P I.size 0=some (.func M.1 M.2.1 M.2.2)/\
    bK dO 83 [.agg #[d.v,R.v],.agg #[vi e.op,vi e.bH,vi e.cE,vi e.dh,G.v,N.v],.func M.1 M.2.1 M.2.2] P λai T=>
    gS [H.size,b.size] P T/\∃Y:Bool,ai=vb Y/\((!Y)=true->∃g:Bool,Value.bool false=.bool g/\(g=true<->iP c q l e)/\D b T)/\
    ((!Y)=false->bK dO 84 [.agg #[d.v,R.v],.agg #[vi e.op,vi e.bH,vi e.cE,vi e.dh,G.v,N.v]] T λaj X=>
    gS [H.size,b.size] T X/\∃ac:Int,∃ae:Int,aj=.tuple #[vi ac,vi ae]/\
    ((decide ((G.len:Int)>=ac))=true->∃g:Bool,Value.bool (decide ((G.len:Int)<=ae))=.bool g/\(g=true<->iP c q l e)/\D b X)/\
    ((decide ((G.len:Int)>=ac))=false->∃g:Bool,Value.bool false=.bool g/\(g=true<->iP c q l e)/\D b X))):=by
    intro aq
    have hl:∀y∈[H.size,b.size],y<J.size:=cB
    refine(jV (Z.ext ak) 82 #[] #[vp I.size 0] cD (λt=>¬((l:Int)+1<=t/\t<=(Q.len:Int) -1)) (λt _ L x=>Od (ag.ext (w.J (z.J x))|>.dx 0) (ah.ext (w.J (z.J x))|>.dx 4) (x.aS af))).bL cY hl ?_
    intro y L hb x _
    have g:=ak.J x
    refine⟨y,O,λaD=>fy (λf=>?_) g,λaC=>?_⟩
    .grind
    have ar:∀t∈e.gE,(l:Int)+1<=t/\t<=(q.eA.length:Int) -1:=λt aH=>by
     grind [E.len]
    refine⟨(.func 80,#[],#[vp A.size 0,vp F.size 0]),x.aS af,?_⟩
    have av:∀y∈[H.size,b.size],y<L.size:=by grind [D.lt]
    refine(Mb (dA.ext g hd) ht (oW.ext g hf) (S.ext g) (Z.ext g) 80 #[] #[vp A.size 0,vp F.size 0] cD (λt=>(l:Int)+1<=t/\t<=(q.eA.length:Int) -1) (λU M=>by simpa using aw U (x.J M) e.cE)).bL cY av ?_
    intro b2 ax ae am _
    have U:=g.J am
    refine⟨b2,O,λh=>fy (λf=>nb ae h (K.1 f).2.2.2.2.2.1) U,λh=>?_⟩
    have ai:=yb ae h
    have au:∀y∈[H.size,b.size],y<ax.size:=by grind [D.lt]
    refine(PZ (dA.ext U hd) ht (oW.ext U hf) (a:=G) (j:=N) ai).bL cY au ?_
    rintro _ aJ ⟨lo,hi,rfl,Y,ac⟩
    have aj:=U.J ac
    have aI:∀X T,wW c e X T->X=lo/\T=hi:=λX T M=>by
     unfold wW at Y M;repeat' (split at Y)
     all_goals simp_all
     all_goals (obtain⟨q1,e1,e2,e3⟩:=Y;simp_all)
    refine⟨ac,lo,hi,O,λh=>kY ?_ aj,λh=>fy (λf=>?_) aj⟩
    .rw[K]
     simp only[bh]at h⊢
     refine⟨λM=>⟨f1,f2,ao,aq,ar,ai,λX T h2=>?_⟩,λM=>?_⟩
     .grind
     grind
    .grind
   constructor<;>grind
def pt{aa:E}(s:gY b d aa c):fW dO 24 [.agg #[d.v,aa.v]] b (iB c):=by
 apply CQ;simp -zeta only[dR];intro m1;obtain⟨ai,s1⟩:=pu m1;refine(yR (s.ext ai)).bL cY cB ?_;rintro _ X ⟨d',ac,ab,rfl,N,ah,L⟩;refine⟨L,d',ac,ab,O,?_⟩;intro m3 A;have s4:A.size=X.size+1:=by grind [bD]
 have h4:D X A:=by grind [D.cU,D.bZ,D.aV]
 have T:D b A:=by grind [D.J]
 have:=L.aQ;have az:=s.di.aT;have aA:=s.di.kK;refine⟨λQ=>fy (λe=>nb N Q ⟨e.mN,λq u=>(e.eS q u).df⟩) T,λhy=>?_⟩;let⟨y,ag⟩:=yb N hy;obtain⟨rfl,hf⟩:=ah cB;refine gP (n:=c.di.length) V (λH w=>D A w/\∀q∈c.di.take H,pd c q) ⟨cY,bO⟩ ?_;rintro H Y an μ Q ⟨x,M⟩ am
 have F:=T.J x;refine dit (λax=>?_) λar=>?_
 .let⟨q,u⟩:=dV c.di H;let⟨I,U,J,ha,hl,t,g0,g1,g2,g3,g4⟩:=(s.ext F).di.bt u;refine⟨V,V,I,sp g0,U,sp g1,_,sp g2,_,sp g3,J,sp g4,?_⟩;intro m6 B;have s7:B.size=Y.size+1:=by grind [bD]
  have o:D Y B:=by grind [D.cU,D.bZ,D.aV]
  have r:=F.J o;have ao:=ha.aT;have ap:=t.aT;have aq:=t.kK;have C:=aZ u;refine⟨λg=>fy (λe=>?_) r,λe1=>⟨λg=>fy (λe=>?_) r,λe2=>⟨λg=>fy (λe=>?_) r,λe3=>⟨λg=>fy (λe=>?_) r,λe4=>?_⟩⟩⟩⟩
  .grind [iB.eS,pd.aU]
  .grind [iB.eS,pd.aU]
  .grind [iB.eS,pd.aT]
  .grind [iB.eS,pd.aT]
  have R:(q.aY.length:Int)<=q.aU/\1<=q.aU/\q.aU<=2000:=by
   grind
  have af:1<=q.eA.length/\q.eA.length<=2000:=cB;let⟨z,P⟩:=dV q.eA (q.eA.length -1);obtain⟨a0,j0,_,_,G,_⟩:=(je.ext o t).bt P;refine⟨λw=>D B w/\(z.op=23\/z.op=24),?_,?_⟩
  .have g:eJ ((J.len:Int) -1)=((q.eA.length -1:Nat):Int):=by grind [de]
   rw[g];refine⟨V,V,z.op,sp G,λf=>⟨λh=>fy (λe=>?_) r,λh=>⟨cY,bR cB⟩⟩,λf=>⟨cY,bC cB⟩⟩;have:=(e.eS q C).Of z P;simp at f h;omega
  .rintro m8 ⟨h8,aw⟩;refine gP (n:=q.eA.length) V (λv w=>D B w/\∀(j:Nat)(f:Instr),j<v->q.eA[j]? =some f->iP c q j f) ⟨h8,λj f hj=>V⟩ ?_;rintro v Z I2 μ2 hk ⟨h,ae⟩ al;refine dit (λay=>?_) λau=>?_
   .let⟨f,p⟩:=dV q.eA v;let⟨xa,xj,aj,ak,G,k1,k2,k3,k4,k5⟩:=(je.ext (o.J h) t).bt p;refine⟨V,V,_,sp G,_,sp k1,_,sp k2,_,sp k3,xa,sp k4,xj,sp k5,?_⟩;intro aB W;have aD:W.size=Z.size+1:=by grind [bD]
    have m:D Z W:=by grind [D.cU,D.bZ,D.aV]
    have S:=(r.J h).J m;have q1:=h.aQ;have q2:=x.aQ;refine(II (ad:=I) (al:=U) (dA.ext S s.bS) y.dk (oW.ext (h4.J (x.J (o.J (h.J m)))) hf) y.aT.2 (λq' K=>(y.eS q' K).1) (je.ext (o.J (h.J m)) t) R.2.2 (l:=v) (e:=f) (aj.ext m) (ak.ext m)).bL cY cB ?_;intro b' aC ad K _;refine⟨b',O,λg=>fy (λe=>nb ad g ((e.eS q C).eS v f p)) (S.J K),λg=>al V _ ⟨h.J (m.J K),λj i' hj av=>?_⟩⟩;grind [Nat.lt_succ_iff_lt_or_eq]
   .refine am V _ ⟨x.J (o.J h),dK u M ⟨ag q C,R,af,λj f p=>ae j f (oh (br p)) p,λf p=>?_⟩⟩
    grind
 .exact oD ⟨y,gH V M⟩ F
end
section
variable{m:bg}{s:E}{k:Nat}{γ σ:Type}
def Ub(m:bg)(a:ae)(c:dq):Prop:=∃f,a=[.i c.bT,.i c.js,.s f]/\ba m f c.bJ
def Ph(m:bg)(a:ae)(f:bW):Prop:=∃r o h,a=[.i f.fQ,.i f.pc,.i f.bH,.s r,.s o,.s h]/\ba m r f.aU/\ba m o f.bI/\ba m h f.cC
abbrev gA(m:bg)(s:E)(l:ah):Prop:=fX m 3 (Ub m) s l
abbrev oZ(m:bg)(s:E)(l:an):Prop:=fX m 6 (Ph m) s l
def Ub.ext{m b:bg}(g:D m b)(a:ae)(c:dq):Ub m a c->Ub b a c:=λ⟨f,d,e⟩=>⟨f,d,e.ext g⟩
def gA.ext{m b:bg}(a:D m b){s:E}{l:ah}(h:gA m s l):gA b s l:=h.aP a (Ub.ext a)
def Ph.ext{m d:bg}(a:D m d)(b:ae)(c:bW):Ph m b c->Ph d b c:=λ⟨r,o,h,e,f,g,i⟩=>⟨r,o,h,e,f.ext a,g.ext a,i.ext a⟩
def oZ.ext{m b:bg}(a:D m b){s:E}{l:an}(h:oZ m s l):oZ b s l:=h.aP a (Ph.ext a)
theorem gA.bt{l:ah}(h:gA m s l){x:dq}(c:l[k]? =some x):
 ∃f,ba m f x.bJ/\aS m s.bz (s.off+k*3)=some (vi x.bT)/\aS m s.bz (s.off+k*3+1)=some (vi x.js)/\aS m s.bz (s.off+k*3+2)=some f.v:=by
 obtain⟨d,⟨f,rfl,b⟩,a⟩:=h.kZ k x c
 exact⟨f,b,a 0 (.i x.bT) O,a 1 (.i x.js) O,a 2 (.s f) O⟩
theorem oZ.bt{l:an}(h:oZ m s l){x:bW}(b:l[k]? =some x):
 ∃r o e,ba m r x.aU/\ba m o x.bI/\ba m e x.cC/\aS m s.bz (s.off+k*6)=some (vi x.fQ)/\aS m s.bz (s.off+k*6+1)=some (vi x.pc)/\aS m s.bz (s.off+k*6+2)=some (vi x.bH)/\
  aS m s.bz (s.off+k*6+3)=some r.v/\aS m s.bz (s.off+k*6+4)=some o.v/\aS m s.bz (s.off+k*6+5)=some e.v:=by
 obtain⟨f,⟨r,o,e,rfl,d,c,a⟩,mu⟩:=h.kZ k x b
 exact⟨r,o,e,d,c,a,mu 0 (.i x.fQ) O,mu 1 (.i x.pc) O,mu 2 (.i x.bH) O,mu 3 (.s r) O,mu 4 (.s o) O,mu 5 (.s e) O⟩
theorem _root_.Go.Vc.fX.tC{l:ab}(h:fX m 1 aaA s l){i:Int}(a:0<=i)(b:i<l.length):aS m s.bz (s.off+i.toNat*1)=some (vi (bt l i)):=ba.bt h (jR a b)
@[grind cases] structure RV (m:bg) (mb o:Nat) (d p cy hp fr:E) (im:cZ) (s:St):Prop where
 iG:gY m d p im
 bS:aS m mb 0=some d.v
 di:aS m mb 1=some p.v
 eC:aS m mb o=some (vi s.eC)
 iQ:aS m mb (o+1)=some (vi s.iQ)
 dg:aS m mb (o+2)=some (vi s.dg)
 dL:aS m mb (o+3)=some (vi s.dL)
 afo:aS m mb (o+4)=some cy.v
 wi:aS m mb (o+5)=some hp.v
 Tf:aS m mb (o+6)=some fr.v
 cy:ba m cy s.cy
 aR:gA m hp s.aR
 bq:oZ m fr s.bq
def RV.ext{m f:bg}{g o:Nat}{d p cy c b:E}{e:cZ}{s:St}(h:RV m g o d p cy c b e s)(a:D m f):RV f g o d p cy c b e s:=
 ⟨h.iG.ext a,a.aS h.bS,a.aS h.di,a.aS h.eC,a.aS h.iQ,a.aS h.dg,a.aS h.dL,a.aS h.afo,a.aS h.wi,a.aS h.Tf,h.cy.ext a,gA.ext a h.aR,oZ.ext a h.bq⟩
def ada{P:Nat->Prop}:∀(n:Nat),P n->∃k,P k/\∀j,P j->k<=j:=by
 intro n;induction n using Nat.strongRecOn with
 |_ n c=>
  intro d;rcases gJ (∃j,j<n/\P j)with⟨j,a,b⟩|e
  .exact c j a b
  .grind
def Pg{p:σ}{j:(σ->bg->Prop)->(σ->bg->Nat)->σ->bg->Prop}(J:γ->σ->bg->Prop)(ν:γ->Nat)(l:γ)(r:J l p m)
 (q:∀(g:γ)(s:σ)(a:bg)(I:σ->bg->Prop)(μ:σ->bg->Nat),J g s a->(∀b d c,J b d c->ν b<ν g->I d c/\μ d c<μ s a)->j I μ s a):
 ∃(I:σ->bg->Prop)(μ:σ->bg->Nat),I p m/\∀s a,I s a->j I μ s a:=by
 classical
 let I:σ->bg->Prop:=λs m=>∃g,J g s m
 have h:∀s m,I s m->∃k,(∃g,J g s m/\ν g=k)/\∀o,(∃g,J g s m/\ν g=o)->k<=o:=λs m⟨g,i⟩=>ada (ν g) ⟨g,i,O⟩
 let μ:σ->bg->Nat:=λs m=>if e:I s m then Classical.choose (h s m e)else 0
 refine⟨I,μ,⟨l,r⟩,λs a e=>?_⟩
 let⟨g,i,u⟩:=(jD (h s a e)).1
 refine q g s a I μ i λb d c f t=>⟨⟨b,f⟩,?_⟩
 have n:I d c:=⟨b,f⟩
 simp only[μ,dif_pos e,dif_pos n]
 exact vZ ((jD (h d c n)).2 _ ⟨b,f,O⟩) (u▸t)
def abf{d:(bg->Prop)->(bg->Nat)->bg->Prop}(J:γ->bg->Prop)(ν:γ->Nat)(e:γ)(f:J e m)
 (h:∀(g:γ)(a:bg)(I:bg->Prop)(μ:bg->Nat),J g a->(∀c b,J c b->ν c<ν g->I b/\μ b<μ a)->d I μ a):
 ∃(I:bg->Prop)(μ:bg->Nat),I m/\∀a,I a->d I μ a:=by
 let⟨I,μ,i,j⟩:=Pg (σ:=Unit) (p:=()) (j:=λI μ _ a=>d (I ()) (μ ()) a) (λg _ m=>J g m) ν e f (λg _ a I μ k l=>h g a (I ()) (μ ()) k λc b=>l c () b)
 exact⟨I (),μ (),i,j ()⟩
def abg{τ:Type}{i:σ}{j:τ}{h:(σ->τ->bg->Prop)->(σ->τ->bg->Nat)->σ->τ->bg->Prop}(J:γ->σ->τ->bg->Prop)(ν:γ->Nat)(k:γ)(n:J k i j m)
 (l:∀(g:γ)(s:σ)(t:τ)(a:bg)(I:σ->τ->bg->Prop)(μ:σ->τ->bg->Nat),J g s t a->(∀f d e c,J f d e c->ν f<ν g->I d e c/\μ d e c<μ s t a)->h I μ s t a):
 ∃(I:σ->τ->bg->Prop)(μ:σ->τ->bg->Nat),I i j m/\∀s t a,I s t a->h I μ s t a:=by
 let⟨I,μ,o,p⟩:=Pg (σ:=σ×τ) (p:=(i,j)) (j:=λI μ b a=>h (λs t=>I (s,t)) (λs t=>μ (s,t)) b.1 b.2 a) (λg b m=>J g b.1 b.2 m) ν k n (λg b a I μ q r=>l g b.1 b.2 a (λs t=>I (s,t)) (λs t=>μ (s,t)) q λf d e c=>r f (d,e) c)
 exact⟨λs t=>I (s,t),λs t=>μ (s,t),o,λs t=>p (s,t)⟩
end
section
variable{m g:bg}{s d p a j t o e:E}{b r:ab}{f:Nat}{h:ap}{K:aj}{w:Int}{c:cZ}{x:Instr}
def _root_.Go.Vc.fX.Ms(h:fX m 1 aaA s b):jG m s.bz s.off (b.map Ce.i):=λi d a=>by
 rw[eE]at a;obtain⟨x,c,rfl⟩:=jT.1 a;have:=ba.bt h c;rw[nu]at this;exact this
def sD(f:Nat)(h:ap)(m:bg)(b:ab):Prop:=bK dO f h m λv a=>∃s,v=s.v/\jy m a bB 1 s (b.map Ce.i)/\D m a
def sD.cg(c:sD f h m b)(i:b.length<=1000000000)(e:∀s a,jy m a bB 1 s (b.map Ce.i)->ba a s b->D m a->K s.v a):bK dO f h m K:=
 c.aP λ_ _⟨s,d,a,g⟩=>d▸e s _ a (ba.ju a V) g
def sD.bL{c:ad}(g:sD f h m b)(l:b.length<=1000000000)(i:∀a∈c,a<m.size)(k:∀s a,jy m a bB 1 s (b.map Ce.i)->ba a s b->D m a->K s.v a):bK dO f h m λv a=>gS c m a/\K v a:=
 g.aP λ_ _⟨s,j,d,e⟩=>⟨e.eV i,j▸k s _ d (ba.ju d V) e⟩
def jm:fW dO 162 [vi w] m (1000<=w):=by
 apply Fi;exact kY bO cY
def oR{a:E}{h:ah}(j:gA m a h)(B: -9223372036854775808<=w/\w<=9223372036854775807):fW dO 171 [a.v,vi w] m (iH h w):=by
 apply Lc;have y:=j.aT;have z:=j.kK;have o:eJ ((a.len:Int) -1)=(a.len:Int) -1:=iz;rw[o];refine(dj).cg λn C i c=>⟨n,O,λu=>?_,λt=>?_⟩
 .refine(jm).cg λb2 D l g=>⟨b2,O,λs=>?_,λr=>fy (λb=>fb l r b.1) (c.J g)⟩;have k:=l.1 s;have p:eJ (w -1000)=w -1000:=iz;rw[p]at i⊢;have A:=i.1 u;let⟨e,b⟩:=dV h ((w -1000).toNat);obtain⟨f,x,q,_⟩:=(gA.ext (c.J g) j).bt b;refine⟨V,V,e.bT,q,kY ?_ (c.J g)⟩;simp only[bh];refine⟨λa=>⟨k,e,b,a⟩,λ⟨_,v,d,a⟩=>?_⟩;unfold ix at d;rw[b]at d;simp at d;subst d;exact a
 .refine fy (λ⟨k,e,b,_⟩=>fb i t ?_) c;have:=br b;unfold ix at this;rw[iz];omega
def QS{a:Int}:fW dO 115 [vi a] m (qM a):=by
 apply Lb;refine⟨λh=>oD ?_ cY,λh=>⟨λb=>oD ?_ cY,λb=>kY ?_ cY⟩⟩<;>simp[qM]at* <;>omega
def P8{q:eG}(a:c.di[x.cE.toNat]? =some q)(k:Nat):lB c x k=true<->(k:Int)∈q.df:=by
 grind [lB,dG,List.any_eq_true]
def DL(c:cZ)(x:Instr):Prop:=(x.op=9\/x.op=24)->0<=x.cE/\∃q,c.di[x.cE.toNat]? =some q
theorem iP.jF{p:eG}{k:Nat}(h:iP c p k x):DL c x:=λe=>by
 have a:=h.op;unfold mJ at a;rw[aW V,aW V,aW V,aW V,bn e]at a;obtain⟨q,b,d,_⟩:=a;exact⟨b,q,d⟩
def vR(h:gY m d p c)(z:DL c x)(a j:E)(k:Nat):
 fW dO 164 [.agg #[d.v,p.v],.agg #[vi x.op,vi x.bH,vi x.cE,vi x.dh,a.v,j.v],vi k] m ((x.op=9\/x.op=24)/\lB c x k=true):=by
 apply Jt
 simp -zeta only[dR]
 intro o f
 have n:D m f:=((D.cU m).bZ _).bZ _
 have A:∀b∈[o.size,m.size],b<f.size:=by simp[f,o];omega
 have M:=h.di.aT
 have q:∀e:x.op=9\/x.op=24,(0:Int)<=x.cE/\x.cE<(p.len:Int)/\∃u:E,aS f p.bz (p.off+x.cE.toNat*5+1)=some u.v/\
  bK dO 174 [u.v,vi k] f λr s=>gS [o.size,m.size] f s/\∃t:Bool,r=vb t/\∃b:Bool,vb t=.bool b/\(b=true<->((x.op=9\/x.op=24)/\lB c x k=true))/\D m s:=λe=>by
  let⟨v,P,l⟩:=z e
  let⟨F,C,G,K,B,L,H,g1,g2,I,J⟩:=(h.ext n).di.bt l
  have:=br l
  refine⟨v,V,C,g1,(fI B _).bL cY A λb N y w _=>⟨b,O,kY ?_ (n.J w)⟩⟩
  rw[y,P8 l]
  exact⟨λh=>⟨e,h⟩,λh=>h.2⟩
 refine⟨λi=>q (bC (sp i)),λi=>⟨λg=>q (bR (sp g)),λg=>fy (λ⟨e,_⟩=>?_) n⟩⟩
 simp at i g;omega
def MD{a:Int}:fW dO 163 [vi a] m (a=6\/a=9\/a=10\/a=11):=by
 apply wo;refine⟨λh=>oD ?_ cY,λh=>⟨λb=>oD ?_ cY,λb=>⟨λc=>oD ?_ cY,λc=>kY ?_ cY⟩⟩⟩<;>simp at* <;>omega
def lS(c:cZ)(x:Instr)(n:Nat):ab:=jW c x 0 (x.aO.take n)
theorem sj(c:cZ)(x:Instr):∀(b r:ab)(k:Nat),jW c x k (b++r)=jW c x k b++jW c x (k+b.length) r
 |[],r,k=>by simp[jW]
 |a::b,r,k=>by
  have:=sj c x b r (k+1);grind [jW,List.length_cons,List.length]
theorem ye(c:cZ)(x:Instr):∀(b:ab)(k:Nat),(jW c x k b).length<=b.length
 |[],k=>bY
 |a::b,k=>by
  have:=ye c x b (k+1);grind [jW]
def Nj(c:cZ)(x:Instr):(cO c x).length<=x.aO.length:=by
 grind [cO,ye]
def D.wK{a c:bg}(f:D g a)(h:D g c){b:ad}(d:∀x∈b,x<g.size):gS b a c:=λx e=>by rw[f.bG x (d x e),h.bG x (d x e)]
def rZ{v:Int}{K:E->bg->Prop}(c:jy g m bB 1 s (b.map Ce.i))(d:D g m)(n:b.length<1000000000)
 (l:∀r a,jy g a bB 1 r ((b++[v]).map Ce.i)->D g a->K r a):
 mj (m.push (.cells (db [.i v]) bB)) bB [.i (0:Int)] 8 s (E.mk m.size 0 1 1) K:=by
 have o:s.len=b.length:=by have:=c.aT;simp at this;omega
 refine jy.fx (c:=[.i 0]) (i:=[.i v]) (c.ext (D.push _ _)) (d.bZ _) O (dF.push m _ _).kZ eX λr a e f h i j k=>?_
 grind
def OT(P:gY m d p c)(U:DL c x)(A:ba m a x.aO)(ai:x.aO.length<=1000000)(Q:(x.op=16\/x.op=17)->1<=x.aO.length):
 sD 117 [.agg #[d.v,p.v],.agg #[vi x.op,vi x.bH,vi x.cE,vi x.dh,a.v,j.v]] m (cO c x):=by
 apply JF
 simp -zeta only[dR]
 intro G f M
 have q:D m f:=((D.cU m).bZ _).bZ _
 have s2:f.size=m.size+2:=cB
 have R:=px M
 have C:jy f M bB 1 (.mk f.size 0 0 0) []:=by grind [jy.bF,D.cU]
 have s1:=pz G
 have ac:=A.aT
 have w:∀o∈[G.size,m.size],o<f.size:=cB
 have ad:∀{h s b},jy f h bB 1 s b->jy m h bB 1 s b:=λC=>C.cW q.aQ
 refine⟨λN h=>D f h/\jy f h bB 1 (.mk f.size 0 0 0) []/\(N=true<->(x.op=15\/x.op=6\/x.op=10\/x.op=11\/x.op=18\/x.op=23\/x.op=9\/x.op=24)),?_,?_⟩
 .refine(MD).bL R w λo t v i F=>⟨o,O,λB=>⟨F,C.ext i,by have:=v.1 B;simp;omega⟩,λI=>?_⟩
  have g:=fb v I
  constructor<;>grind [jy.ext]
 .rintro N t ⟨i,J,K⟩
  refine⟨λY=>?_,λX=>?_⟩
  .have T:=K.1 Y
   refine gL (n:=x.aO.length) V (λk s h=>D f h/\jy f h bB 1 s ((if x.op=9\/x.op=24 then lS c x k else x.aO.take k).map Ce.i)) ⟨i,by simpa[lS,jW]using J⟩ ?_
   rintro k s m5 ab μ hk ⟨H,W⟩ aa
   have L:=q.J H
   refine dit (λag=>?_) λae=>?_
   .let⟨y,g⟩:=dV x.aO k
    have aj:lS c x (k+1)=lS c x k++jW c x k [y]:=by
     grind [lS,bX,sj]
    refine(vR (P.ext L) U a j k).bL H w λo m6 v S z=>⟨o,O,λB=>?_,λI=>?_⟩
    .have ah:=nb v B
     refine⟨V,V,y,by simpa using(A.ext (q.J z)).bt g,?_⟩
     intro m7
     have af:(if x.op=9\/x.op=24 then lS c x k else x.aO.take k).length<=k:=by
      split
      .refine fD (ye _ _ _ _) ?_;simp;omega
      .simp;omega
     refine rZ (W.ext S) z V λr Z q1 u=>?_
     refine⟨D.wK (z.bZ _) u w,aa V _ _ ⟨u,?_⟩⟩
     grind [jW,bX]
    grind [jy.ext,jW]
   .refine⟨s,O,?_,L⟩
    have B:cO c x=if x.op=9\/x.op=24 then lS c x k else x.aO.take k:=by
     have v:x.aO.take k=x.aO:=eQ V;unfold cO lS;rw[v];by_cases e:x.op=9\/x.op=24
     .rw[aW V,aW V,bn e,bn e]
     .grind
    grind
  .have T:¬(x.op=15\/x.op=6\/x.op=10\/x.op=11\/x.op=18\/x.op=23\/x.op=9\/x.op=24):=λe=>by have:=K.2 e;rw[X]at this;simp at this
   have F:=q.J i
   have mM:∀e:x.op=16\/x.op=17,(0:Int)<=(0:Int)/\(0:Int)<(a.len:Int)/\∃v:Int,aS t a.bz (a.off+Int.toNat (0:Int)*1)=some (vi v)/\
    mj (t.push (.cells (db [.i v]) 3)) 3 [.i (0:Int)] 8 (E.mk f.size 0 0 0) (E.mk t.size 0 1 1) λH k=>gS [G.size,m.size] (t.push (.cells (db [.i v]) 3)) k/\∃s,H.v=s.v/\jy m k bB 1 s ((cO c x).map Ce.i)/\D m k:=λe=>by
    have I:=Q e
    let⟨y,g⟩:=dV x.aO 0
    refine⟨V,V,y,by simpa using(A.ext F).bt g,rZ (b:=[]) J i bO λr Z q1 u=>⟨D.wK (i.bZ _) u w,r,O,?_,q.J u⟩⟩
    have B:cO c x=[y]:=by
     unfold cO;rw[aW V,bn e];cases z:x.aO with
     |nil=>rw[z]at g;simp at g
     |cons L b=>rw[z]at g;simp at g;subst g;rfl
    grind
   constructor<;>grind [cO]
def oQ(c:ba m s b)(l:b.length<=1000000000):sD 55 [s.v] m b:=by
 apply rJ;intro d;have a:=px d;have g:jy m d bB 1 (.mk m.size 0 0 0) []:=by grind [jy.bF,D.cU]
 have f:=c.aT;refine jy.fx (c:=[.i 0]) (i:=b.map Ce.i) g a (by simp[f]) (c.ext a).Ms cB λr n a e h i j k=>⟨r,O,sp a,e⟩
def QO(h:ba m s b)(c:ba m t r)(p:b.length+r.length<=1000000000):sD 215 [s.v,t.v] m (b++r):=by
 apply y8;refine(oQ h V).cg V λq w d e a=>⟨q,O,?_⟩;have i:=c.aT;have o:=e.aT;refine jy.fx (c:=[.i 0]) (i:=r.map Ce.i) d a (by simp[i]) (c.ext a).Ms V λu v f g j k l n=>⟨u,O,sp f,g⟩
def sA(c:ba m s b):fW dO 169 [s.v] m (Yh b):=by
 apply Ja;have g:=c.aT;refine gP (n:=b.length) (g▸c.kK) (λk a=>D m a/\∀y∈b.take k,y=0) ⟨cY,bO⟩ ?_;rintro k o I μ l ⟨a,f⟩ j
 refine⟨λh=>?_,λh=>oD (gH cB f) a⟩;simp only[bh]at h;let⟨x,d⟩:=dV b k;refine⟨V,V,x,by simpa using a.aS (c.bt d),λe=>fy (λi=>?_) a,λe=>j V _ ⟨a,dK d f cB⟩⟩;have:=i x (aZ d);simp at e;omega
def Fu(c:ba m s b):fW dO 165 [s.v] m (∀o∈b,0<=o):=by
 apply AM;have g:=c.aT;refine gP (n:=b.length) (g▸c.kK) (λk a=>D m a/\∀y∈b.take k,0<=y) ⟨cY,bO⟩ ?_;rintro k p I μ l ⟨a,f⟩ j
 refine⟨λh=>?_,λh=>oD (gH cB f) a⟩;simp only[bh]at h;let⟨x,d⟩:=dV b k;refine⟨V,V,x,by simpa using a.aS (c.bt d),λe=>fy (λi=>?_) a,λe=>j V _ ⟨a,dK d f cB⟩⟩;have:=i x (aZ d);simp at e;omega
def uF(d:ba m s b)(f:ba m t r):fW dO 210 [s.v,t.v] m (b=r):=by
 apply Hw;have j:=d.aT;have q:=f.aT;refine⟨λh=>fy (λe=>by subst e;simp at h;omega) cY,λh=>?_⟩;simp at h;refine gP (n:=b.length) (j▸d.kK) (λk a=>D m a/\b.take k=r.take k) ⟨cY,bO⟩ ?_;rintro k u I μ p ⟨a,l⟩ o
 refine⟨λh=>?_,λh=>oD cB a⟩;simp only[bh]at h;let⟨x,g⟩:=dV b k;let⟨y,i⟩:=dV r k;refine⟨V,V,x,by simpa using a.aS (d.bt g),V,V,y,by simpa using a.aS (f.bt i),λc=>fy (λe=>?_) a,λc=>o V _ ⟨a,?_⟩⟩
 .grind
 .rw[bX g,bX i,l];simp at c;rw[c]
abbrev fv(f:bW)(r o h:E):Value:=.agg #[vi f.fQ,vi f.pc,vi f.bH,r.v,o.v,h.v]
abbrev xv(x:Instr)(a j:E):Value:=.agg #[vi x.op,vi x.bH,vi x.cE,vi x.dh,a.v,j.v]
def I9{f:bW}{r:E}(s:ba m r f.aU)(c:ba m a x.aO)(w:∀y∈x.aO,0<=y/\y<f.aU.length):
 fW dO 166 [fv f r o e,xv x a j] m (∀y∈x.aO,bt f.aU y<1000):=by
 apply Dj
 simp -zeta only[dR]
 intro A i
 have u:D m i:=((D.cU m).bZ _).bZ _
 have z:∀b∈[A.size,m.size],b<i.size:=cB
 have v:=c.aT
 have K:=s.aT
 refine gP (n:=x.aO.length) (v▸c.kK) (λk d=>D i d/\∀y∈x.aO.take k,bt f.aU y<1000) ⟨cY,bO⟩ ?_
 rintro k M I μ J ⟨t,q⟩ B
 have d:=u.J t
 refine⟨λl=>?_,λl=>oD (gH cB q) d⟩
 simp only[bh]at l
 let⟨y,g⟩:=dV x.aO k
 have h:=w y (aZ g)
 refine⟨V,V,y,by simpa using d.aS (c.bt g),h.1,V,bt f.aU y,by simpa using d.aS (s.tC h.1 h.2),?_⟩
 refine(jm).bL t z λb N F C p=>⟨b,O,λH=>fy (λL=>?_) (u.J p),λG=>B V _ ⟨p,dK g q ?_⟩⟩
 .grind [aZ]
 .grind
theorem sZ(b r:ab):oC (b++r)=oC b++oC r:=by simp[oC]
def sa(b:ab):(oC b).length<=b.length:=List.length_filter_le _ _
def sO(c:ba m s b)(z:b.length<=100000000):sD 209 [s.v] m (oC b):=by
 apply Dv;intro g;have l:=px g;have q:jy m g bB 1 (.mk m.size 0 0 0) []:=by grind [jy.bF,D.cU]
 have y:=c.aT;refine gL (n:=b.length) V (λk s a=>D m a/\jy m a bB 1 s ((oC (b.take k)).map Ce.i)) ⟨l,by simpa[oC]using q⟩ ?_;rintro k s A I μ w ⟨d,t⟩ i
 refine⟨λh=>?_,λh=>?_⟩
 .simp only[bh]at h;let⟨x,e⟩:=dV b k;refine⟨V,V,x,by simpa using d.aS (c.bt e),?_⟩;refine(jm).cg λj B o a=>⟨j,O,λv=>?_,λp=>?_⟩
  .have f:=d.J a;refine⟨V,V,x,by simpa using f.aS (c.bt e),?_⟩;intro C;refine rZ (t.ext a) f (by have:=sa (b.take k);simp at this;omega) λr E F u=>i V _ _ ⟨u,?_⟩
   grind [bX,sZ,oC]
  .refine i V _ _ ⟨d.J a,?_⟩
   rw[bX e,sZ];have:oC [x]=[]:=by simp[oC];have:=fb o p;omega
   grind [jy.ext]
 .grind [decide_eq_false_iff_not,eQ]
def vU{f:bW}{r:E}(i:ba m r f.aU)(j:ba m s b)(v:∀y∈b,0<=y/\y<f.aU.length)(J:b.length<=100000000):
 sD 211 [fv f r o e,s.v] m (dQ f b):=by
 apply JN
 simp -zeta only[dR]
 intro a p
 have A:=px a
 have u:=px p
 have x:jy a p bB 1 (.mk a.size 0 0 0) []:=by grind [jy.bF,D.cU]
 have w:∀t∈[m.size],t<a.size:=by simp[a]
 have H:=j.aT
 have G:=i.aT
 refine gL (n:=b.length) V (λk s c=>D a c/\jy a c bB 1 s ((dQ f (b.take k)).map Ce.i)) ⟨u,by simpa[dQ]using x⟩ ?_
 rintro k s K I μ F ⟨c,z⟩ B
 have l:=A.J c
 refine⟨λh=>?_,λh=>?_⟩
 .simp only[bh]at h
  let⟨y,d⟩:=dV b k
  have g:=v y (aZ d)
  refine⟨V,V,y,by simpa using l.aS (j.bt d),g.1,V,bt f.aU y,by simpa using l.aS (i.tC g.1 g.2),?_⟩
  intro L
  refine rZ z c (by simp[dQ];omega) λN M C q=>⟨D.wK (c.bZ _) q w,B V _ _ ⟨q,?_⟩⟩
  rw[bX d]
  simpa[dQ]using C
 .grind [decide_eq_false_iff_not,eQ,jy.cW,D.aQ]
end
section
variable{g:bg}{b:bW}{t v d p h u j:E}{s:St}{c:ab}{q:Nat}{k:cZ}{w:Int}{e:Nat->Int}{x:Instr}
def MT{e:E}(L:ba g t b.aU)(ho:ba g v b.bI){s:E}(B:ba g s c)(ac:∀y∈c,0<=y/\y<b.aU.length)(al:b.aU.length=b.bI.length)(av:b.bI.length<=1000000)(ar:c.length<=1000000)
 (J:∀w∈b.bI,-1000000000<=w/\w<=1000000000):sD 116 [fv b t v e,s.v] g (cL b.aU b.bI c):=by
 apply Hs
 simp -zeta only[dR]
 intro u
 have I:=px u
 have G:∀F∈[g.size],F<u.size:=by simp[u]
 have au:=B.aT
 have aq:=L.aT
 refine(oQ (ho.ext I) V).bL V G λz m2 o2 i2 U=>⟨z,O,?_⟩
 have K:=i2.aT
 have nE:∀(d C bI:ab),cL b.aU bI (d++C)=cL b.aU (cL b.aU bI d) C:=by
  intro d;induction d with
  |nil=>intro C bI;rfl
  |cons y d k=>intro C bI;simp only[eT,cL,k]
 have lo:∀(d bI:ab)(x:Int),(∀w∈bI,x<=w)->∀w∈cL b.aU bI d,x -d.length<=w:=by
  intro d;induction d with
  |nil=>intro bI x h w p;have:=h w p;simp;omega
  |cons y d k=>
   intro bI x h w p;simp only[cL]at p;have:=k _ (x -1) (λH j=>by
    split at j
    .rcases gJ (y.toNat<bI.length)with q|q
     .rcases tP j with j|j
      .have:=h _ (kT (i:=y.toNat) (a:=bt bI y) (by obtain⟨M,A⟩:=gD q;rw[Pv A];exact A));omega
      grind
     grind [gX,bt,List.set_eq_of_length_le]
    .have:=h H j;omega) w p
   simp only[dz];omega
 refine gP (n:=c.length) V (λk j=>D u j/\jy u j bB 1 z ((cL b.aU b.bI (c.take k)).map Ce.i)) ⟨U,o2⟩ ?_
 rintro k m3 ah μ hk ⟨M,ae⟩ R
 have N:=I.J M
 refine⟨λh=>?_,λh=>?_⟩
 .simp only[bh]at h
  let⟨y,q⟩:=dV c k
  have j:=ac y (aZ q)
  have am:=my b.aU (c.take k) b.bI
  refine⟨V,V,y,by simpa using N.aS (B.bt q),j.1,V,bt b.aU y,by simpa using N.aS (L.tC j.1 j.2),?_⟩
  refine(jm).bL M G λF Q X W A=>⟨F,O,λZ=>?_,λai=>?_⟩
  .have P:=I.J A
   have H:=ae.ext W
   have i4:ba Q z (cL b.aU b.bI (c.take k)):=ba.ju H V
   refine⟨V,V,y,by simpa using P.aS (B.bt q),V,V,y,by simpa using P.aS (B.bt q),j.1,V,bt (cL b.aU b.bI (c.take k)) y,i4.tC j.1 V,j.1,V,?_⟩
   have ao:=lo (c.take k) b.bI (-1000000000) (λw p=>(J w p).1) _ (iS (l:=cL b.aU b.bI (c.take k)) j.1 V)
   have aj:bt (cL b.aU b.bI (c.take k)) y<=1000000000:=by
    let⟨q',ag,ak⟩:=ou (c.take k) b.bI y.toNat _ (jR (l:=cL b.aU b.bI (c.take k)) j.1 V);have:=(J q' (aZ ag)).2;omega
   have an:(c.take k).length<=1000000:=cB
   rw[iz]
   rcases H.bt with ad|⟨p,T,tail,e1,e2,e3,e4,e5⟩
   .rw[ad]at K;simp at K;omega
   .have af:z.off=0:=by rw[e1];rfl
    have Y:z.bz=p:=by rw[e1];rfl
    rw[af,Y]
    have aa:0+y.toNat*1=y.toNat:=V
    rw[aa]
    have ap:y.toNat<((cL b.aU b.bI (c.take k)).map Ce.i).length:=cB
    refine⟨e3.jb cB,?_⟩
    intro m5
    have S:D u m5:=A.aV e2 _ _
    refine⟨D.wK A S G,R V _ ⟨S,?_⟩⟩
    rw[bX q,nE]
    simp only[cL,bn (X.1 Z)]
    refine⟨by rw[jX,jP,<-jX (f:=Ce.i)];exact H.aT,bR ⟨p,T,tail,e1,e2,?_,?_,e5⟩⟩
    .have:=dF.aV (m:=Q) (o:=y.toNat) (r:=[.i (bt (cL b.aU b.bI (c.take k)) y -1)]) e3
     have e6:kJ ((cL b.aU b.bI (c.take k)).map Ce.i++tail) y.toNat [.i (bt (cL b.aU b.bI (c.take k)) y -1)]=(gX (cL b.aU b.bI (c.take k)) y (bt (cL b.aU b.bI (c.take k)) y -1)).map Ce.i++tail:=by
      grind [kJ,gX,List.map_set,List.set_append_left]
     grind
    grind [List.length_append,List.length_map,jP]
  .refine R V _ ⟨A,?_⟩
   rw[bX q,nE]
   grind [cL,jy.ext]
 .grind [decide_eq_false_iff_not,eQ,jy.cW,D.aQ]
def jH{cy o x:E}(a:RV g q 2 d p cy o x k s)(L:1000<=w){c:dq}(i:s.aR[ix w]? =some c):
 bK dO 172 [vp q 0,vi w] g λB u=>∃b,B=.agg #[vi c.bT,vi c.js,b.v]/\ba u b c.bJ/\D g u:=by
 apply yD (q,0)
 simp -zeta only[dR]
 intro z
 have l:=px z
 have j:=gA.ext l a.aR
 let⟨b,F,n,g1,g2⟩:=j.bt i
 have J:=j.aT
 have K:=j.kK
 have y:=br i
 unfold ix at y n g1 g2
 have e:eJ (w -1000)=w -1000:=iz
 rw[e]
 refine⟨o,l.aS a.wi,V,V,c.bT,n,c.js,g1,b,g2,?_⟩
 intro A
 have r:D g A:=by grind [D.aV]
 let⟨v,G,M,N,t⟩:=(gA.ext r a.aR).bt i
 unfold ix at t
 have I:v=b:=by
  obtain⟨C,H,_,_,m⟩:=a.aR.bt i;unfold ix at m;have f:=l.aS m;have h:=r.aS m;rw[g2]at f;rw[t]at h;simp at f h;rw[E.LC]at f h;rw[f,h]
 grind
def yZ{cy L C:E}(B:RV g q 2 d p cy L C k s)(H:jd s.aR e){z:E}(m:ba g z c)(J:∀w∈c,iH s.aR w)(Z:c.length<=1000000):
 fW dO 208 [vp q 0,z.v] g (oI s.aR c):=by
 apply vT (q,0)
 have Y:=m.aT
 refine gP (n:=c.length) V (λo a=>D g a/\∀w∈c.take o,1000<=w->(bu s.aR w).bT+iW c (ix w)<=999999) ⟨cY,bO⟩ ?_
 rintro o m1 N μ T ⟨u,t⟩ M
 refine⟨λh=>?_,λh=>oD (gH cB t) u⟩
 simp only[bh]at h
 let⟨x,f⟩:=dV c o
 have l:=J x (aZ f)
 have X:=lE l.1
 refine gL (n:=c.length) V (λj(v:Int) a=>D g a/\v=iW (c.take j) (ix x)) ⟨u,by simp[iW]⟩ ?_
 rintro j v m2 P μ2 S ⟨a,rfl⟩ y
 refine dit (λF=>?_) λF=>?_
 .let⟨A,r⟩:=dV c j
  have K:=pC (c.take j) (ix x)
  have I:=lD (c.take j) (ix x)
  have G:(c.take j).length<=1000000:=cB
  have Q:iW (c.take (j+1)) (ix x)=iW (c.take j) (ix x)+if A=x then 1 else 0:=by
   rw[bX r,pB];grind [iW]
  refine⟨V,V,A,by simpa using a.aS (m.bt r),V,V,x,by simpa using a.aS (m.bt f),λi=>y V _ _ ⟨a,?_⟩,λi=>y V _ _ ⟨a,?_⟩⟩
  .grind [iz]
  grind
 .rw[eQ V]
  have K:=pC c (ix x)
  have I:=lD c (ix x)
  let⟨r,W⟩:=dy l
  have U:=(H.gZ _ (aZ r)).hi
  refine⟨V,V,x,by simpa using a.aS (m.bt f),?_⟩
  refine(jH (B.ext a) l.1 r).aP ?_
  rintro _ m3 ⟨b,rfl,R,i⟩
  have Q:eJ ((bu s.aR x).bT+iW c (ix x))=(bu s.aR x).bT+iW c (ix x):=iz
  refine⟨_,_,_,O,λA=>fy (λG=>?_) (a.J i),λA=>M V _ ⟨a.J i,dK f t λ_=>?_⟩⟩
  .have:=G x (aZ f) l.1
   grind
  grind
theorem xg{h:ah}:oI h (oC c)<->oI h c:=by
 grind [oI,nT,EC]
theorem aaK{s:E}(h:ba g s c)(p:1<=c.length):ba g (E.cut s 1 s.len 1) (c.drop 1):=by
 have b:=h.aT;have i:=h.ms;have l:=h.kK;cases s with
 |nil=>simp at b;omega
 |DK d v sp=>simp at b;omega
 |mk d v r o=>
  simp at b i l;refine⟨by simp[E.cut];omega,by simp[E.cut];omega,by simp[E.cut];omega,λn x a=>?_⟩;rw[rL]at a;have q:=br a;let⟨f,j,mu⟩:=h.kZ (1+n) x a;refine⟨f,j,λm e k=>?_⟩;have:=mu m e k;simp only[E.cut,E.lT,E.vP]at this⊢;rw[aW V];rw[<-this];congr 1;omega
def iI.tT(h:iI k b){t:Int}(d:0<=t)(e:t<b.aU.length)(f:∀w∈b.aU,w<=9223372036854775807): -9223372036854775808<=bt b.aU t/\bt b.aU t<=9223372036854775807:=by
 have c:=iS (l:=b.aU) d e;refine⟨?_,f _ c⟩;rcases h.XQ _ c with a|a
 .have:=a.1;omega
 .omega
def OG{cy U fr:E}(n:RV g q 2 d p cy U fr k s)(L:jd s.aR e)(N:ba g t b.aU)(M:ba g h b.cC)(l:ba g u x.aO)
 (K:iI k b)(ai:∀w∈b.aU,w<=9223372036854775807)(ak:∀y∈x.aO,0<=y/\y<b.aU.length)(aw:1<=x.aO.length/\x.aO.length<=4)(ax:x.op=16\/x.op=17):
 fW dO 173 [vp q 0,fv b t v h,xv x u j] g (Gb s.aR b x):=by
 apply xQ (q,0)
 simp -zeta only[dR]
 intro m1 Z
 have a:D g Z:=((D.cU g).bZ _).bZ _
 have i:∀f∈[m1.size,g.size],f<Z.size:=cB
 have ap:=l.aT
 have az:=N.aT
 have av:=M.aT
 have ao:=l.ms
 have c:0<=bt x.aO 0/\bt x.aO 0<b.aU.length:=by grind [iS]
 have P:bt x.aO 0<b.cC.length:=by have:=K.lr;have:=K.lh;omega
 have al:=K.tT c.1 c.2 ai
 refine⟨V,V,bt x.aO 0,(l.ext a).tC V V,c.1,V,bt b.aU (bt x.aO 0),(N.ext a).tC c.1 c.2,U,a.aS n.wi,?_⟩
 unfold Gb
 simp only[]
 generalize aA:bt b.aU (bt x.aO 0)=w at*
 refine(oR (gA.ext a n.aR) al).bL cY i λf m3 m A _=>⟨f,O,λag=>fy (λB=>nb m ag B.1) (a.J A),λaf=>?_⟩
 have r:=yb m af
 let⟨C,ay⟩:=dy r
 have ar:=(L.gZ _ (aZ C)).fl
 have am:=a.J A
 refine((jH (n.ext am) r.1 C)).bL A i ?_
 rintro _ m4 ⟨fl,rfl,aj,S⟩
 have Q:=A.J S
 refine⟨S,_,_,_,O,(sO aj V).bL (oh (sa (bu s.aR w).bJ)) (λf m=>Q.lt (i f m)) λps m5 o5 Y h5=>⟨ps,O,V,V,V,?_⟩⟩
 have G:=Q.J h5
 have X:=a.J G
 have e1:(Int.toNat (1:Int))=1:=rfl
 have e2:(Int.toNat (u.len:Int))=u.len:=V
 rw[e1,e2]
 refine(vU (N.ext X) (aaK (l.ext X) V) (λy o=>ak y (uf o)) cB).bL (by simp[dQ];omega) (λf m=>G.lt (i f m)) λqs m6 o6 i6 I=>⟨qs,O,?_⟩
 have aa:=G.J I
 refine(uF (Y.ext I) i6).bL aa i λb2 m7 T h7 z=>⟨b2,O,λac=>?_,λab=>fy (λB=>fb T ab B.2.1) (a.J z)⟩
 have W:=T.1 ac
 refine(jH (n.ext (a.J z)) r.1 C).bL z i ?_
 rintro _ m8 ⟨an,rfl,au,J⟩
 have H:=z.J J
 refine⟨J,_,_,_,O,λy=>?_,λy=>?_⟩
 .simp at y
  have F:=a.J H
  refine⟨λo=>oD ⟨r,W,bC y,λe=>by simp at o;omega⟩ F,λo=>⟨V,V,bt x.aO 0,(l.ext F).tC V V,c.1,V,bt b.cC (bt x.aO 0),(M.ext F).tC c.1 P,kY ?_ F⟩⟩
  grind [beq_eq_false_iff_ne]
 .simp at y
  refine(yZ (n.ext (a.J H)) L (Y.ext ((I.J h7).J J)) (λR F=>L.qd (aZ C) (nT.1 F).1 (nT.1 F).2) (oh (sa (bu s.aR w).bJ))).bL H i λb3 m9 ad h9 R=>⟨b3,O,λae=>?_,λaq=>fy (λB=>?_) (a.J R)⟩
  .have ah:=xg.1 (ad.1 ae)
   have F:=a.J R
   refine⟨λo=>oD ⟨r,W,bR ah,λe=>by simp at o;omega⟩ F,λo=>⟨V,V,bt x.aO 0,(l.ext F).tC V V,c.1,V,bt b.cC (bt x.aO 0),(M.ext F).tC c.1 P,kY ?_ F⟩⟩
   grind [beq_eq_false_iff_ne]
  grind [xg]
def ML{cy P X:E}(a:RV g q 2 d p cy P X k s)(A:iB k)(x:jd s.aR e)(hw: -9223372036854775808<=w/\w<=9223372036854775807):
 fW dO 170 [vp q 0,vi w] g (zS k s.aR w):=by
 apply wO (q,0)
 simp -zeta only[dR]
 refine⟨P,a.wi,(oR a.aR hw).cg λf m1 j u=>⟨f,O,λae=>fy (λb=>nb j ae b.1) u,λad=>?_⟩⟩
 have N:=yb j ad
 let⟨z,ag⟩:=dy N
 have J:=x.gZ _ (aZ z)
 have ax:=(J.wZ ag).2
 refine(jH (a.ext u) N.1 z).aP ?_
 rintro _ i ⟨t,rfl,M,h2⟩
 refine⟨_,_,_,O,?_⟩
 intro m3 n
 have ai:=u.J h2
 have C:D i n:=by grind [D.cU,D.bZ,D.aV]
 have s4:n.size=i.size+1:=by grind [bD]
 have hB:aS n i.size 1=some (vi (bu s.aR w).js):=(dF.aV (m:=m3) (o:=0) (r:=[.i (bu s.aR w).bT,.i (bu s.aR w).js,.s t]) (dF.push i _ _)).dx 1
 have l:∀f∈[i.size],f<n.size:=by simp[s4]
 have c:=ai.J C
 have K:=a.ext c
 have av:=a.iG.di.aT
 have au:=A.mN.aT
 have al:(gR k.bS).length<=12:=by
  have:=tF A.mN.dk k.bS.length;grind [qI]
 refine⟨d,K.bS,(uD K.iG.bS A.mN.dk).bL cY l λm5 v _=>⟨_,O,v.da hB,p,(a.ext (c.J v)).di,?_⟩⟩
 have T:eJ ((bu s.aR w).js -((gR k.bS).length:Int))=(bu s.aR w).js -cF k:=iz
 have U:eJ ((p.len:Int) -1)=(p.len:Int) -1:=iz
 rw[T,U]
 refine(dj).bL v l λb2 m6 L h6 h=>⟨b2,O,λac=>?_,λab=>fy (λb=>fb L ab ⟨b.2.1,oh b.2.2.1⟩) (c.J h)⟩
 have aw:=L.1 ac
 have B:=c.J h
 have y:=a.ext B
 let⟨aj,Q⟩:=dV k.di (((bu s.aR w).js -cF k).toNat)
 have ah:dG k ((bu s.aR w).js -cF k)=aj:=by simp[dG,Q]
 obtain⟨S,l',c',aa,af,ao,Y,g1,_⟩:=y.iG.di.bt Q
 have am:=aa.aT
 have ar:=af.aT
 have aq:=M.aT
 have ap:=J.fl
 have W:eJ ((t.len:Int)+1)=(t.len:Int)+1:=iz
 rw[W]
 unfold zS
 rw[ah]
 refine⟨p,y.di,V,V,S,Y,λG=>⟨p,y.di,V,V,l',g1,λH=>⟨λI=>?_,λI=>?_⟩,λH=>fy (λb=>?_) B⟩,λG=>fy (λb=>?_) B⟩
 .grind
 .simp at G H I
  refine(sO (M.ext (C.J h)) V).bL (oh (sa (bu s.aR w).bJ)) (λf j=>h.lt (l f j)) λps m7 o7 i7 Z=>⟨ps,O,?_⟩
  have F:=h.J Z
  refine(yZ (a.ext (c.J F)) x i7 (λak R=>x.qd (aZ z) (nT.1 R).1 (nT.1 R).2) (oh (sa (bu s.aR w).bJ))).bL F l λb3 m8 an ak R=>⟨b3,O,kY ?_ (c.J R)⟩
  grind [xg]
 .grind
 .grind
def MM{cy N G:E}(C:RV g q 2 d p cy N G k s)(B:ba g h b.cC)(I:ba g u x.aO)(U:0<=x.dh/\x.dh<=b.cC.length)(W:b.cC.length<=1000000)
 (L:∀w∈b.cC,w≠0->1000<=w/\∃o,s.aR[ix w]? =some o):
 fW dO 167 [vp q 0,fv b t v h,xv x u j] g (JY s.aR b x):=by
 apply wP (q,0)
 simp -zeta only[dR]
 intro m n
 have c:D g n:=((D.cU g).bZ _).bZ _
 have M:∀F∈[m.size,g.size],F<n.size:=by simp[n,m];omega
 have H:aS n m.size 4=some u.v:=(dF.push m _ _).dx 4
 have R:=I.aT
 have T:=B.aT
 unfold JY
 refine⟨λf=>oD (λr=>absurd (sp f) r) c,λf=>?_⟩
 simp at f
 have e:eJ (x.dh -1)=x.dh -1:=iz
 rw[e]
 have A:=(B.ext c).tC (i:=x.dh -1) V V
 refine⟨V,V,bt b.cC (x.dh -1),A,λa=>oD (λ_ r=>absurd (sp a) r) c,λa=>?_⟩
 simp at a
 let⟨P,o,z⟩:=L _ (iS (l:=b.cC) (i:=x.dh -1) V V) a
 refine⟨V,V,bt b.cC (x.dh -1),A,(jH (C.ext c) P z).bL cY M ?_⟩
 rintro _ X ⟨Q,rfl,K,r⟩
 have S:=K.aT
 have J:bu s.aR (bt b.cC (x.dh -1))=o:=by simp[bu,z]
 refine⟨r,_,_,_,O,r.da H,kY ?_ (c.J r)⟩
 rw[J]
 simp
 exact⟨λy _ _=>V,λy=>oh (y f a)⟩
theorem lx(k:cZ)(x:Instr):∀(c t:ab)(a:Nat),fK k x a (c++t)=fK k x a c++fK k x (a+c.length) t
 |[],t,a=>by simp[fK]
 |u::c,t,a=>by
  have:=lx k x c t (a+1);grind [fK,List.length_cons,List.length]
def AI{cy i Z:E}(o:RV g q 2 d p cy i Z k s)(S:ba g t b.aU)(F:ba g u x.aO)(hF:iI k b)(af:∀w∈b.aU,w<=9223372036854775807)
 (ag:∀y∈x.aO,0<=y/\y<b.aU.length)(hc:DL k x)(ai:x.op=9\/x.op=24):
 fW dO 168 [vp q 0,fv b t v h,xv x u j] g (Po k s.aR b x):=by
 apply wN (q,0)
 simp -zeta only[dR]
 intro X m
 have I:D g m:=((D.cU g).bZ _).bZ _
 have H:∀r∈[X.size,g.size],r<m.size:=by simp[m,X];omega
 have aa:=F.aT
 have ak:=S.aT
 refine gP (n:=x.aO.length) (aa▸F.kK) (λa c=>D m c/\∀y∈fK k x 0 (x.aO.take a),1000<=bt b.aU y->iH s.aR (bt b.aU y)) ⟨cY,by simp[fK]⟩ ?_
 rintro a m3 aj μ hk ⟨U,R⟩ K
 have l:=I.J U
 refine⟨λh=>?_,λh=>oD (by simp at h;rwa[eQ V]at R) l⟩
 simp only[bh]at h
 let⟨y,J⟩:=dV x.aO a
 have f:=ag y (aZ J)
 have C:=o.ext l
 have T:fK k x 0 (x.aO.take (a+1))=fK k x 0 (x.aO.take a)++fK k x a [y]:=by
  rw[bX J,lx];congr 2;simp;omega
 have G:(lB k x a=true->1000<=bt b.aU y->iH s.aR (bt b.aU y))->∀z∈fK k x 0 (x.aO.take (a+1)),1000<=bt b.aU z->iH s.aR (bt b.aU z):=λhh z c=>by
  rw[T]at c;rcases bU.1 c with c|c
  .exact R z c
  .simp only[fK]at c;split at c
   .rename_i e;simp at c;subst c;exact hh e
   .simp at c
 have ah:lB k x a=true->y∈fK k x 0 x.aO:=λe=>by
  have Y:x.aO=x.aO.take (a+1)++x.aO.drop (a+1):=(j9 _ _).symm;rw[Y,lx,T];refine dN _ (mW _ ?_);simp only[fK];rw[bn e];simp
 refine⟨V,V,y,by simpa using l.aS (F.bt J),f.1,V,bt b.aU y,by simpa using l.aS (S.tC f.1 f.2),d,C.bS,p,C.di,?_⟩
 refine(vR C.iG hc u j a).bL U H λr m4 N h4 L=>⟨r,O,λae=>?_,λad=>K V _ ⟨L,G λe=>absurd ⟨ai,e⟩ (fb N ad)⟩⟩
 have e:=(N.1 ae).2
 refine(jm).bL L H λb2 m5 P h5 A=>⟨b2,O,λac=>?_,λab=>K V _ ⟨A,G λ_ i=>absurd i (fb P ab)⟩⟩
 have W:=I.J A
 refine⟨i,(o.ext W).wi,(oR (gA.ext W o.aR) (hF.tT f.1 f.2 af)).bL A H λb3 m6 Q h6 M=>⟨b3,O,λB=>fy (λhM=>nb Q B (hM y (ah e) (P.1 ac))) (I.J M),λB=>K V _ ⟨M,G λ_ _=>yb Q B⟩⟩⟩
end
section
@[grind cases] structure wc (im:cZ) (s:St) (fs:an) (f:bW) (x:Instr):Prop where
 ok:eu im s
 afx:s.eC=3
 fr:s.bq=fs++[f]
 cur:fF im f=x
 JS:∀g∈s.bq,∀w∈g.aU,w<=9223372036854775807
section
variable{b:cZ}{s:St}{c:an}{f:bW}{x:Instr}
theorem wc.F(a:wc b s c f x):iI b f:=a.ok.bq f (by rw[a.fr];simp)
def wc.Rp(a:wc b s c f x):∀w∈f.aU,w<=9223372036854775807:=by grind [wc.JS,wc.fr]
theorem wc.I(a:wc b s c f x):∃p,b.di[f.fQ.toNat]? =some p/\dG b f.fQ=p/\pd b p/\p.eA[f.pc.toNat]? =some x/\iP b p f.pc.toNat x:=by
 have:=a.F.Ky a.ok.iG;rwa[a.cur]at this
def wc.Tp(a:wc b s c f x):f.aU.length=f.bI.length/\f.cC.length=f.bI.length/\1<=f.bI.length/\f.bI.length<=2000:=by
 grind [wc.I,wc.F,iI.lr,iI.lo,iI.lh,pd.aU]
theorem wc.arg(a:wc b s c f x):∀y∈x.aO,0<=y/\y<f.aU.length:=λy d=>by
 grind [wc.I,wc.F,iI.lr,iP.aO]
def wc.bH(a:wc b s c f x):0<=x.bH/\x.bH<f.bI.length:=by
 grind [wc.I,wc.F,iI.lo,iP.bH]
def wc.jF(a:wc b s c f x):DL b x:=by grind [wc.I,iP.jF]
def wc.opc(a:wc b s c f x):0<=x.op/\x.op<=24/\x.op≠7/\x.op≠8/\x.op≠12/\x.op≠13:=by
 obtain⟨p,_,_,e,_,d⟩:=a.I;grind [Ny,pd.aU,wc.ok,eu.iG,iB.mN,nD.aT,nD.eS]
def wc.oK(g:wc b s c f x):x.aO.length<=4/\((x.op=5\/x.op=14\/x.op=15\/x.op=18\/x.op=23\/x.op=19\/x.op=20\/x.op=21)->x.aO.length=1)/\((x.op=1\/x.op=2\/x.op=3\/x.op=4\/x.op=11)->x.aO.length=2)/\
 ((x.op=16\/x.op=17)->1<=x.aO.length)/\(x.op=6->0<=x.dh/\x.dh<=f.cC.length/\0<=x.cE/\x.cE<12/\x.aO.length<=3)/\(x.op=10->0<=x.cE/\x.cE<4/\x.aO.length<=3)/\(x.op=0->-999<=x.cE/\x.cE<=999):=by
 obtain⟨y,_,m,w,_,t⟩:=g.I
 have a:=t.op
 have p:=g.F.lh
 rw[m]at p
 have d:=g.ok.iG.mN
 have u:(gR b.bS).length<=12:=by
  have:=tF d.dk b.bS.length;grind [qI]
 have v:=Ed d.dk x.cE
 unfold mJ at a
 by_cases h:x.op=0
 .rw[bn h]at a;omega
 rw[aW h]at a
 by_cases i:x.op=1\/x.op=2\/x.op=3\/x.op=4\/x.op=11
 .rw[bn i]at a;omega
 rw[aW i]at a
 by_cases j:x.op=5\/x.op=14\/x.op=15\/x.op=18\/x.op=23
 .rw[bn j]at a;omega
 rw[aW j]at a
 by_cases n:x.op=6
 .grind
 rw[aW n]at a
 by_cases k:x.op=9\/x.op=24
 .rw[bn k]at a
  let⟨q,o,e,r⟩:=a
  have:=(d.eS q (aZ e)).1;omega
 rw[aW k]at a
 by_cases l:x.op=10
 .rw[bn l]at a
  obtain⟨⟨q,o,e,r⟩,_⟩:=a
  have:=(d.eS q (aZ e)).1
  have:=br e
  have:=d.aT;omega
 rw[aW l]at a
 by_cases e:x.op=16\/x.op=17
 .grind
 rw[aW e]at a
 by_cases o:x.op=19
 .grind
 rw[aW o]at a
 by_cases q:x.op=20
 .grind
 grind
def wc.P6(d:wc b s c f x):∀w∈f.cC,w≠0->1000<=w/\∃e,s.aR[ix w]? =some e/\e.bT<0:=λw h k=>by
 have g:1000<=w:=by have:=d.F.cC w h;omega
 refine⟨g,?_⟩;have j:0<eU s.bq (ix w):=by
  rw[d.fr,iT,lU];have:=zY c (ix w);have:=wJ (l:=f.cC) (f:=ix w) (by rw[lE g];exact h);omega
 exact iC λi=>by have:=d.ok.qV (ix w) i;omega
def wc.Tz(d:wc b s c f x):∀o∈f.bI,0<=o/\o<=999999:=λo h=>by
 refine⟨(d.F.Qo o h),?_⟩;rcases gJ (0<o)with i|i
 .let⟨k,e⟩:=cH.1 h;have:=d.Tp;let⟨w,j⟩:=dV f.aU k (oh (br e));have m:=KG d.F.Qo j e (c:=ix w) (by rw[lE ((d.F.bI k o w e j).2 i)]);have n:o<=j8 s.bq (ix w):=by
   rw[d.fr,jM,nR];have:=KH (b:=c) (λg l=>d.ok.bq g cB) (ix w);omega
  let⟨g,hd,l⟩:=d.ok.aR.lv (ix w) V;have p:=d.ok.aR.ex _ g hd l;have q:=yW s.aR (ix w);have r:=(d.ok.aR.gZ g (aZ hd)).hi;omega
 .omega
def wc.Pb(a:wc b s c f x):∀r∈cO b x,0<=r/\r<f.aU.length:=λr d=>a.arg r (wV d)
end
def QU{o:bg}{mb:Nat}{af aq cy d fr:E}{im:cZ}{X:St}(L:RV o mb 2 af aq cy d fr im X){fs:an}{n:bW}{x:Instr}(C:wc im X fs n x){W ac h Q aj ow:E}(N:ba o W n.aU)(hh:ba o h n.cC)(J:ba o Q x.aO){bI:ab}(T:ba o ow bI)(av:bI.length=n.bI.length):
 fW dO 118 [vp mb 0,fv n W ac h,xv x Q aj,ow.v] o (pb im X n x bI):=by
 apply yE (mb,0)
 simp -zeta only[dR]
 intro U P
 have b:D o P:=((D.cU o).bZ _).bZ _
 have i:∀g∈[U.size,o.size],g<P.size:=by simp[P,U];omega
 have ag:dF P U.size fA [.i x.op,.i x.bH,.i x.cE,.i x.dh,.s Q,.s aj]:=dF.push U _ _
 have al:dF P o.size iu [.i n.fQ,.i n.pc,.i n.bH,.s W,.s ac,.s h]:=(dF.push o _ _).ext (D.push U _)
 have ar:=J.aT
 have ax:=N.aT
 have aw:=T.aT
 have hd:=C.bH
 have au:=C.Tp
 have H:=C.oK
 have hI:=C.ok.aR
 refine⟨λK=>D P K/\(∀ac∈bI,0<=ac)/\(lO x.op->bt bI x.bH<=0),?_,?_⟩
 .refine(Fu (T.ext b)).bL cY i λg m3 c m _=>⟨g,O,λu=>fy (λl=>nb c u l.nn) (b.J m),λz=>?_⟩
  refine(Cc _ _).bL m i λb2 A y w a=>⟨b2,O,λu=>?_,λv=>⟨a,yb c z,λe=>absurd e (fb y v)⟩⟩
  refine⟨hd.1,V,bt bI x.bH,(T.ext (b.J a)).tC hd.1 V,λk=>fy (λl=>?_) (b.J a),λk=>⟨a,yb c z,λ_=>by simpa using k⟩⟩
  have:=l.bH (y.1 u);simp at k;omega
 .rintro m3 ⟨m,q,p⟩
  have f:=b.J m
  have t:=L.ext f
  have B:1<=x.aO.length->0<=bt x.aO 0/\bt x.aO 0<n.aU.length:=λM=>C.arg _ (iS V V)
  have F:∀{K},D o K->1<=x.aO.length->aS K Q.bz (Q.off+Int.toNat (0:Int)*1)=some (vi (bt x.aO 0)):=λhx M=>(J.ext hx).tC V V
  have G:∀{K},D o K->1<=x.aO.length->aS K W.bz (W.off+Int.toNat (bt x.aO 0)*1)=some (vi (bt n.aU (bt x.aO 0))):=λhx M=>(N.ext hx).tC (B M).1 (B M).2
  refine⟨λe=>?_,λe1=>?_⟩
  .simp only[eH,bP]at e
   refine(I9 (N.ext f) (J.ext f) C.arg).bL m i λg A c w a=>⟨g,O,kY (c.trans ?_) (b.J a)⟩
   refine⟨λd=>?_,λh=>h.oN V⟩
   refine⟨q,p,?_,?_,?_,?_,?_,?_,?_,?_,?_,?_,?_⟩<;>intro r<;>first|(exfalso;omega)|exact d
  simp only[cV,bd]at e1
  refine⟨λe=>?_,λe2=>?_⟩
  .simp only[bP]at e
   have j:=H.2.2.2.2.1 e
   refine(MM t (hh.ext f) (J.ext f) ⟨j.1,j.2.1⟩ V (λY S R=>by obtain⟨M,s,I,_⟩:=C.P6 Y S R;exact⟨M,s,I⟩)).bL m i λg A c w a=>⟨g,O,kY (c.trans ?_) (b.J a)⟩
   refine⟨λd=>?_,λh=>h.kD e⟩
   refine⟨q,p,?_,?_,?_,?_,?_,?_,?_,?_,?_,?_,?_⟩<;>intro r<;>first|(exfalso;omega)|exact d
  simp only[bd]at e2
  refine⟨λe=>?_,λe3=>?_⟩
  .simp only[bP]at e
   refine(AI t (N.ext f) (J.ext f) C.F C.Rp C.arg C.jF (bC e)).bL m i λg A c w a=>⟨g,O,kY (c.trans ?_) (b.J a)⟩
   refine⟨λd=>?_,λh=>h.df (bC e)⟩
   refine⟨q,p,?_,?_,?_,?_,?_,?_,?_,?_,?_,?_,?_⟩<;>intro r<;>first|(exfalso;omega)|exact d
  simp only[bd]at e3
  refine⟨λe=>?_,λe4=>?_⟩
  .simp only[bP]at e
   refine(AI t (N.ext f) (J.ext f) C.F C.Rp C.arg C.jF (bR e)).bL m i λg A c w a=>⟨g,O,λu=>?_,λz=>fy (λl=>fb c z (l.df (bR e))) (b.J a)⟩
   refine(sA (T.ext (b.J a))).bL a i λb2 m5 y k s=>⟨b2,O,λae=>?_,λv=>fy (λl=>fb y v (l.ov (bC e)).1) (b.J s)⟩
   refine(sA (hh.ext (b.J s))).bL s i λb3 m6 I R j=>⟨b3,O,kY (I.trans ?_) (b.J j)⟩
   refine⟨λd=>?_,λh=>(h.ov (bC e)).2⟩
   refine⟨q,p,?_,?_,?_,?_,?_,?_,?_,?_,?_,?_,?_⟩<;>intro r<;>first|(exfalso;omega)|exact c.1 u|exact⟨y.1 ae,d⟩
  simp only[bd]at e4
  refine⟨λe=>?_,λe5=>?_⟩
  .simp only[bP]at e
   have S:=H.2.1 V
   refine(sA (T.ext f)).bL m i λb2 m5 y k s=>⟨b2,O,λae=>?_,λv=>fy (λl=>fb y v (l.ov (bR e)).1) (b.J s)⟩
   refine(sA (hh.ext (b.J s))).bL s i λb3 m6 I R j=>⟨b3,O,λao=>?_,λam=>fy (λl=>fb I am (l.ov (bR e)).2) (b.J j)⟩
   have aa:=b.J j
   have ah:=L.ext aa
   have Z:=ah.bq.aT
   have kH:∀d:1<X.bq.length\/bt n.aU (bt x.aO 0)<1000,pb im X n x bI:=λd=>by
    refine⟨q,p,?_,?_,?_,?_,?_,?_,?_,?_,?_,?_,?_⟩<;>intro r<;>first|(exfalso;omega)|exact⟨y.1 ae,I.1 ao⟩|exact d
   refine⟨fr,ah.Tf,λY=>oD (kH (bC (by simp at Y;omega))) aa,λY=>?_⟩
   refine⟨V,V,_,F aa V,(B V).1,oh ((B V).2),_,G aa V,(jm).bL j i λb4 m7 ai h9 ad=>⟨b4,O,kY ?_ (b.J ad)⟩⟩
   simp at Y
   constructor
   .intro ak
    exact kH (bR (oh (nb ai ak)))
   .intro l
    rcases l.tU e with ak|ak
    .omega
    .have:¬b4=true:=λap=>by have:=ai.1 ap;omega
     simpa using this
  simp only[bd]at e5
  refine⟨λe=>?_,λe6=>?_⟩
  .simp only[bP]at e
   have S:=H.2.2.1 V
   have j:=B V
   refine⟨V,V,_,F f V,j.1,V,_,G f V,(ML t C.ok.iG hI (C.F.tT j.1 j.2 C.Rp)).bL m i λg A c w a=>⟨g,O,kY (c.trans ?_) (b.J a)⟩⟩
   refine⟨λd=>?_,λh=>h.apply e⟩
   refine⟨q,p,?_,?_,?_,?_,?_,?_,?_,?_,?_,?_,?_⟩<;>intro r<;>first|(exfalso;omega)|exact d
  simp only[bd]at e6
  refine⟨λe=>?_,λe7=>?_⟩
  .simp only[bP]at e
   have S:=H.2.1 V
   have j:=B V
   refine⟨V,V,_,F f V,j.1,V,_,G f V,d,t.wi,(oR t.aR (C.F.tT j.1 j.2 C.Rp)).bL m i λg A c w a=>⟨g,O,λu=>?_,λz=>fy (λl=>fb c z (l.dup e).1) (b.J a)⟩⟩
   have v:=c.1 u
   refine(jH (L.ext (b.J a)) v.1 (dy v).1).bL a i ?_
   rintro _ m5 ⟨fl,rfl,Z,k⟩
   refine⟨k,_,_,_,O,kY ?_ (b.J (a.J k))⟩
   simp only[bh]
   refine⟨λd=>?_,λh=>(h.dup e).2⟩
   refine⟨q,p,?_,?_,?_,?_,?_,?_,?_,?_,?_,?_,?_⟩<;>intro r<;>first|(exfalso;omega)|exact⟨v,d⟩
  simp only[bd]at e7
  refine⟨λe=>?_,λe8=>?_⟩
  .simp only[bP]at e
   have S:=H.2.1 V
   have j:=B V
   refine⟨V,V,_,F f V,j.1,V,_,G f V,(jm).bL m i λg A c w a=>⟨g,O,kY (c.trans ?_) (b.J a)⟩⟩
   refine⟨λd=>?_,λh=>h.Bg e⟩
   refine⟨q,p,?_,?_,?_,?_,?_,?_,?_,?_,?_,?_,?_⟩<;>intro r<;>first|(exfalso;omega)|exact d
  simp only[bd]at e8
  refine⟨λe=>?_,λe9=>?_⟩
  .simp only[eH,bP]at e
   refine(OG t hI (N.ext f) (hh.ext f) (J.ext f) C.F C.Rp C.arg ⟨H.2.2.2.1 e,H.1⟩ e).bL m i λg A c w a=>⟨g,O,kY (c.trans ?_) (b.J a)⟩
   refine⟨λd=>?_,λh=>h.Ql e⟩
   refine⟨q,p,?_,?_,?_,?_,?_,?_,?_,?_,?_,?_,?_⟩<;>intro r<;>first|(exfalso;omega)|exact d
  simp only[cV,bd]at e9
  refine⟨λe=>?_,λaa=>?_⟩
  .simp only[bP]at e
   have S:=H.2.1 V
   have j:=B V
   refine⟨d,t.wi,V,V,_,F f V,j.1,V,_,G f V,(oR t.aR (C.F.tT j.1 j.2 C.Rp)).bL m i λg A c w a=>⟨g,O,λu=>?_,λz=>fy (λl=>fb c z (l.tO e).1) (b.J a)⟩⟩
   have v:=c.1 u
   have I:=b.J a
   refine⟨V,V,_,F I V,j.1,V,_,G I V,(jH (L.ext I) v.1 (dy v).1).bL a i ?_⟩
   rintro _ m5 ⟨fl,rfl,Z,k⟩
   have ae:=Z.aT
   refine⟨k,_,_,_,O,k.da ((ag.ext a).dx 2),kY ?_ (b.J (a.J k))⟩
   simp only[bh]
   refine⟨λd=>?_,λh=>oh ((h.tO e).2)⟩
   refine⟨q,p,?_,?_,?_,?_,?_,?_,?_,?_,?_,?_,?_⟩<;>intro r<;>first|(exfalso;omega)|exact⟨v,V⟩
  simp only[bd]at aa
  refine⟨λe=>?_,λae=>?_⟩
  .simp only[bP]at e
   have S:=H.2.1 V
   have j:=B V
   refine⟨d,t.wi,V,V,_,F f V,j.1,V,_,G f V,(oR t.aR (C.F.tT j.1 j.2 C.Rp)).bL m i λg A c w a=>⟨g,O,λu=>?_,λz=>fy (λl=>fb c z (l.xW e).1) (b.J a)⟩⟩
   have v:=c.1 u
   have I:=b.J a
   have l:=L.ext I
   refine⟨af,l.bS,V,V,_,F I V,j.1,V,_,G I V,(EU l.iG.bS C.ok.iG.mN.dk).bL a i ?_⟩
   rintro _ m5 ⟨cs,rfl,ah,k⟩
   have s:=a.J k
   refine⟨k,cs,O,k.da (G I V),k.da (F I V),k.da ((ag.ext a).dx 4),k.da ((al.ext a).dx 3),(jH (L.ext (b.J s)) v.1 (dy v).1).bL s i ?_⟩
   rintro _ m6 ⟨fl,rfl,Z,R⟩
   refine⟨R,_,_,_,O,(fI (ah.ext R) _).bL (s.J R) i λb2 m7 y Y ad=>⟨b2,O,kY (y.trans ?_) (b.J ad)⟩⟩
   refine⟨λd=>?_,λh=>(h.xW e).2⟩
   refine⟨q,p,?_,?_,?_,?_,?_,?_,?_,?_,?_,?_,?_⟩<;>intro r<;>first|(exfalso;omega)|exact⟨v,d⟩
  .simp only[bd]at ae
   refine oD ?_ f
   refine⟨q,p,?_,?_,?_,?_,?_,?_,?_,?_,?_,?_,?_⟩<;>intro r<;>exfalso<;>omega
end
section
variable{p:Nat->Prop}{o n:Nat}{new:ae}{i:Int}{f:E}
@[grind cases] structure dI (p:Nat->Prop) (ro:ag) (m:bg) (ro':ag) (m':bg):Prop where
 aQ:m.size<=m'.size
 jv:∀b,b<m.size->ro' b=ro b
 bF:∀b,m'.size<=b->ro' b=0
 fR:∀b,b<m.size->¬p (ro b)->m'[b]? =m[b]?
def dI.cU(p:Nat->Prop){a:ag}{m:bg}(h:∀b,m.size<=b->a b=0):dI p a m a m:=by constructor<;>grind
theorem dI.J{g i j:ag}{d e f:bg}(a:dI p g d i e)(k:dI p i e j f):dI p g d j f:=
 ⟨fD a.aQ k.aQ,λb c=>by rw[k.jv b (cw c a.aQ),a.jv b c],k.bF,λb c h=>by
  rw[k.fR b (cw c a.aQ) (by rw[a.jv b c];exact h),a.fR b c h]⟩
theorem dI.aP{q:Nat->Prop}{a g:ag}{m d:bg}(h:dI p a m g d)(b:∀k,p k->q k):dI q a m g d:=by constructor<;>grind [dI.aQ,dI.jv,dI.bF,dI.fR]
def dI.fC{a:ag}{m d:bg}(h:D m d)(c:∀b,m.size<=b->a b=0):dI p a m a d:=by constructor<;>grind [D.aQ,D.bG]
theorem dI.aV{a:ag}{m:bg}(d:∀b,m.size<=b->a b=0){b:Nat}(c:p (a b))(o:Nat)(l:ae):dI p a m a (aV m b o l):=
 by constructor<;>grind [Nat.le_of_eq,bD,cq]
abbrev HC:=dI (λk=>k=3\/k=5\/k=6)
abbrev To:=dI (λk=>k≠0/\k≠9)
theorem dI.cW{a g:ag}{j m d:bg}(h:To a m g d)(e:D j m)(f:∀b,b<j.size->a b=0):D j d/\∀b,b<j.size->g b=0:=by
 have i:=e.aQ;exact⟨⟨fD i h.aQ,λb c=>by rw[h.fR b V cB,e.bG b c]⟩,λb c=>by rw[h.jv b V,f b c]⟩
theorem dI.eV{a g:ag}{m d:bg}(h:To a m g d){l:ad}(e:∀b∈l,b<m.size/\a b=0):gS l m d:=λb c=>h.fR b (e b c).1 cB
@[grind cases] structure iE (ro:ag) (m:bg) (e sz k:Nat) (s:E) (l:ae):Prop where
 aT:l.length=s.len*sz
 le:s.len<=s.cap
 bt:s.cap=0\/∃b c tail,s=.mk b 0 s.len c/\ro b=k/\dF m b e (l++tail)/\(l++tail).length=c*sz
section
variable{a g:ag}{b d:bg}{e c k:Nat}{s:E}{l:ae}
theorem iE.zW(h:iE a b e c k s l)(d:s.cap=0):l=[]/\s.len=0:=by
 grind [iE.le,E.len,List.length_eq_zero_iff,iE.aT]
def iE.kZ(h:iE a b e c k s l):jG b s.bz s.off l:=by
 rcases h.bt with f|⟨j,d,tail,h1,h2,h3,h4⟩
 .rw[(h.zW f).1];intro i d g;simp at g
 .rw[h1];exact h3.kZ.Rc
def iE.wr(h:iE a b e c k s l)(d:o+n<=l.length):jb b s.bz (s.off+o) n:=by
 rcases h.bt with f|⟨g,i,tail,h1,h2,h3,h4⟩
 .rw[(h.zW f).1]at d;intro m j;simp at d;omega
 .grind [E.lT,E.vP,dF.jb]
theorem iE.fR(h:iE a b e c k s l)(p:s.cap≠0->d[s.bz]? =b[s.bz]?)(q:s.cap≠0->g s.bz=a s.bz):iE g d e c k s l:=by
 refine⟨h.aT,h.le,?_⟩;rcases h.bt with o|⟨m,n,tail,h1,h2,h3,h4⟩
 .exact bC o
 .by_cases f:s.cap=0
  .exact bC f
  .have i:=p f;have j:=q f;rw[h1]at i j;exact bR ⟨m,n,tail,h1,j.trans h2,h3.congr i,h4⟩
theorem iE.bz(h:iE a b e c k s l)(f:s.cap≠0):s.bz<b.size/\a s.bz=k:=by
 rcases h.bt with d|⟨g,i,tail,h1,h2,h3,h4⟩
 .exact absurd d f
 .rw[h1];exact⟨h3.lt,h2⟩
theorem iE.fO(h:iE a b e c k s l)(f:dI p a b g d)(i:¬p k):iE g d e c k s l:=
 by grind [iE.fR,dI.fR,iE.bz,dI.jv]
def iE.dY(h:iE a b e c k s l)(q:o+new.length<=l.length):iE a (aV b s.bz (s.off+o) new) e c k s (kJ l o new):=by
 refine⟨by rw[nU];exact h.aT,h.le,?_⟩;rcases h.bt with j|⟨d,f,tail,h1,h2,h3,h4⟩
 .exact bC j
 .refine bR ⟨d,f,tail,h1,h2,?_,by simp only[dH,nU]at h4⊢;exact h4⟩;have g:s.bz=d:=by rw[h1];rfl
  have i:s.off=0:=by rw[h1];rfl
  rw[g,i,eW];have:=dF.aV (m:=b) (o:=o) (r:=new) h3;have n:kJ (l++tail) o new=kJ l o new++tail:=by
   have p:(kJ l o new).length=l.length:=nU _ _ _;apply ft;grind [Nat.lt_or_ge,List.length,kJ,List.getElem?_append_left,KO,List.length_append,List.getElem?_append_right]
  grind
def iE.ry(h:iE a b e c k s l)(q:n<=s.len):iE a b e c k (s.cut 0 n c) (l.take (n*c)):=by
 have j:=h.le;have p:=h.aT;rcases h.bt with i|⟨f,g,tail,h1,h2,h3,h4⟩
 .have d:n=0:=V;cases s with
  |nil=>exact⟨by simp[d,E.cut],by simp[E.cut],bC O⟩
  |DK f o sp=>exact⟨by simp[d,E.cut],by simp[E.cut],bC O⟩
  |mk f o r m=>simp at i;subst i;exact⟨by simp[d,E.cut],by simp[d,E.cut],bC (by simp[E.cut])⟩
 .rw[h1];have d:s.len<=g:=by rw[h1]at j;exact j
  refine⟨?_,by simp[E.cut];omega,bR ⟨f,g,l.drop (n*c)++tail,?_,h2,?_,?_⟩⟩
  .grind [E.cut,E.kv,List.length_take,E.len,Nat.mul_le_mul_right]
  .simp[E.cut]
  .grind [List.append_assoc,List.take_append_drop]
  grind [List.append_assoc,List.take_append_drop]
end
def iE.fx{a:ag}{m:bg}{e l:Nat}{f:ae}{u:Nat}{s x:E}{n:ae}{K:E->bg->Prop}(i:iE a m e f.length l s n)(t:∀c,m.size<=c->a c=0)
 (k:new.length=x.len*f.length)(B:jG m x.bz x.off new)(j:(s.len+x.len)*u<=140737488355328)
 (q:∀g h d,iE g d e f.length l h (n++new)->dI (λy=>y=l) a m g d->K h d):mj m e f u s x K:=by
 have G:=i.le
 refine⟨new,k,B,λD=>?_,λF=>⟨j,n,i.aT,i.kZ,λh v=>?_⟩⟩
 .rcases i.bt with C|⟨c,h,tail,h1,h2,h3,h4⟩
  .have w:x.len=0:=V
   have A:new=[]:=cp.1 (by rw[k,w];simp)
   subst A
   refine⟨λy z=>by simp at z,?_⟩
   have p:=q a s _ (by rw[fP];exact i) (dI.cU _ t)
   cases s with
   |nil=>exact p
   |DK c o sp=>exact p
   |mk c o H h=>simp only[w,ui];exact p
  .have w:=i.aT
   have A:s.cap=h:=by rw[h1];rfl
   rw[h1]
   simp only[E.lT,E.vP,E.kv,eW]
   simp only[dH]at h4
   have z:new.length<=tail.length:=by
    have y:(s.len+x.len)*f.length<=h*f.length:=fE _ V;rw[oB]at y;omega
   refine⟨h3.jb (by simp only[dH];omega),?_⟩
   have p:=dF.aV (m:=m) (b:=c) (e:=e) (r:=new) (o:=s.len*f.length) h3
   rw[<-w,Gm n new tail z]at p
   refine q a _ _ ⟨?_,?_,bR ⟨c,h,tail.drop new.length,O,h2,?_,?_⟩⟩ (dI.aV t h2 _ _)
   .simp only[dH,E.kv,oB];omega
   .simp only[E.kv,E.SU];omega
   .rw[<-w];exact p
   .simp only[dH,List.length_drop];omega
 .refine q (λc=>if c=m.size then l else a c) _ _ ⟨?_,?_,bR ⟨m.size,h,na f (h -(s.len+x.len)),O,bO,dF.push _ _ _,?_⟩⟩ ⟨bO,λc j=>aW V,λc j=>?_,λc j _=>by rw[uH,aW V]⟩
  .simp only[dH,E.kv,oB,i.aT,k]
  .simpa using v
  .simp only[dH,vv,i.aT,k]
   rw[Nat.sub_mul,<-oB]
   have:(s.len+x.len)*f.length<=h*f.length:=fE _ v
   omega
  .simp at j;rw[aW V];exact t c V
def iE.ju{a:ag}{j m:bg}{e f k:Nat}{s:E}{l:ae}(h:jy j m e f s l)(g:s≠.nil->a s.bz=k):iE a m e f k s l:=by
 refine⟨h.aT,?_,?_⟩
 .rcases h.bt with b|⟨c,d,tail,b,h2,h3,h4,h5⟩
  .rw[b];exact bY
  .rw[b];exact h5
 .rcases h.bt with b|⟨c,d,tail,b,h2,h3,h4,h5⟩
  .rw[b];exact bC O
  .refine bR ⟨c,d,tail,b,?_,h3,h4⟩;have:=g cB;rw[b]at this;exact this
def iE.oN{a:ag}{m:bg}{k:Nat}{s:E}{l:ab}(h:iE a m bB 1 k s (l.map Ce.i))(g:l.length<=9223372036854775807):ba m s l:=by
 have e:s.len=l.length:=by have:=h.aT;simp at this;omega
 refine⟨e,h.le,V,λj x d=>⟨[.i x],O,λi f b=>?_⟩⟩;have c:i=0:=by have:=br b;simp at this;omega
 subst c;simp at b;subst b;have:=h.kZ j (.i x) (by simp[d]);simpa using this
theorem Au(l:ab)(i:Nat)(v:Int):kJ (l.map Ce.i) i [.i v]=(l.set i v).map Ce.i:=by simp[kJ,No]
theorem iE.gX{a:ag}{m:bg}{k:Nat}{s:E}{l:ab}(h:iE a m bB 1 k s (l.map Ce.i))(b:0<=i)(c:i<l.length)(v:Int):iE a (aV m s.bz (s.off+i.toNat*1) [.i v]) bB 1 k s ((Go.Proofs.YtbbbdejieenniaaGreat.gX l i v).map Ce.i):=by
 have:=h.dY (o:=i.toNat) (new:=[.i v]) cB;rw[Au]at this;rw[nu];exact this
theorem iE.SE{a:ag}{m:bg}{k:Nat}{s:E}{l:ab}(h:iE a m bB 1 k s (l.map Ce.i))(b:0<=i)(c:i<l.length):jb m s.bz (s.off+i.toNat*1) 1:=by
 rw[nu];exact h.wr cB
def FB(m:bg)(f:E)(l:ab):Prop:=∃c tail,f=.mk f.bz 0 f.len c/\dF m f.bz bB (l.map Ce.i++tail)
def FN(N:Nat)(a:ag)(m:bg)(f:E)(l:ab):Prop:=l≠[]->a f.bz=0/\N<=f.bz/\FB m f l
def Cp(N:Nat)(a:ag)(m:bg)(b:ae)(c:dq):Prop:=∃f,b=[.i c.bT,.i c.js,.s f]/\ba m f c.bJ/\FN N a m f c.bJ
def Sep(e:List ae):Prop:=∀(i j:Nat)(c d:ae)(a b:E),e[i]? =some c->e[j]? =some d->c[2]? =some (.s a)->d[2]? =some (.s b)->i≠j->a.len≠0->b.len≠0->a.bz≠b.bz
def Sep.gN:Sep []:=λi j c d a b h=>by simp at h
def gC(N:Nat)(a:ag)(m:bg)(h:E)(c:ah):Prop:=∃b,iE a m wT 3 3 h b.flatten/\iy 3 (Cp N a m) b c/\Sep b
def Yf(a:ag)(m:bg)(i:Nat)(b:ae)(f:bW):Prop:=
 ∃r o h,b=[.i f.fQ,.i f.pc,.i f.bH,.s r,.s o,.s h]/\iE a m bB 1 (10+3*i) r (f.aU.map Ce.i)/\iE a m bB 1 (11+3*i) o (f.bI.map Ce.i)/\iE a m bB 1 (12+3*i) h (f.cC.map Ce.i)
@[grind cases] structure acQ (ro:ag) (m:bg) (fr:E) (fs:an) (css:List ae):Prop where
 qB:iE ro m iu 6 4 fr css.flatten
 aT:css.length=fs.length
 aQ:∀cs∈css,cs.length=6
 eS:∀(i:Nat)(cs:ae)(f:bW),css[i]? =some cs->fs[i]? =some f->Yf ro m i cs f
def rR(a:ag)(m:bg)(q:E)(c:an):Prop:=∃b,acQ a m q c b
theorem ku{m d:bg}{l:ab}(h:ba m f l)(j:l≠[]->d[f.bz]? =m[f.bz]?):ba d f l:=by
 by_cases a:l=[]
 .subst a;exact⟨h.aT,h.ms,h.kK,bO⟩
 .exact⟨h.aT,h.ms,h.kK,λo x n=>let⟨b,e,g⟩:=h.kZ o x n;⟨b,e,λi c k=>by rw[bE (j a)];exact g i c k⟩⟩
theorem ly{m:bg}{l:ab}(h:ba m f l)(a:l≠[]):f.bz<m.size:=by
 cases l with
 |nil=>exact absurd O a
 |cons b l=>exact rV (h.bt (k:=0) (x:=b) O)
def Cp.fO{N:Nat}{a g:ag}{m d:bg}(e:dI p a m g d)(o:¬p 0)(i:ae)(h:dq):Cp N a m i h->Cp N g d i h:=λ⟨f,q,c,k⟩=>
 ⟨f,q,ku c λb=>e.fR _ (ly c b) (by rw[(k b).1];exact o),λb=>by
  let⟨g1,g2,l,tail,n,j⟩:=k b;exact⟨by rw[e.jv _ (ly c b)];exact g1,g2,l,tail,n,j.congr (e.fR _ j.lt cB)⟩⟩
theorem gC.fO{N:Nat}{p:Nat->Prop}{a g:ag}{m d:bg}{h:E}{b:ah}(n:gC N a m h b)(c:dI p a m g d)(f:¬p 0)(k:¬p 3):gC N g d h b:=by
 let⟨e,i,j,l⟩:=n;exact⟨e,i.fO c k,j.aP (Cp.fO c f),l⟩
theorem Yf.fO{p:Nat->Prop}{a g:ag}{m d:bg}(b:dI p a m g d){i:Nat}(h:∀k,10+3*i<=k->k<=12+3*i->¬p k){c:ae}{f:bW}:Yf a m i c f->Yf g d i c f:=λ⟨r,o,e,j,k,l,n⟩=>
 ⟨r,o,e,j,k.fO b (h _ V V),l.fO b (h _ V V),n.fO b (h _ V V)⟩
def rR.fO{p:Nat->Prop}{a g:ag}{m d:bg}{q:E}{c:an}(r:rR a m q c)(e:dI p a m g d)(h:∀k,(k=4\/10<=k)->¬p k):rR g d q c:=by
 let⟨l,b⟩:=r;exact⟨l,b.qB.fO e (h 4 V),b.aT,b.aQ,λi j f n o=>(b.eS i j f n o).fO e λk s _=>h k V⟩
@[grind cases] structure wU (m0:bg) (ro:ag) (m:bg) (mb e:Nat) (bx:ae) (cy hp fr:E) (lo:ab) (lh:ah) (lf:an):Prop where
 cW:D m0 m
 mq:∀b,b<m0.size->ro b=0
 bF:∀b,m.size<=b->ro b=0
 bV:dF m mb e bx
 YL:ro mb=1
 cy:iE ro m bB 1 2 cy (lo.map Ce.i)
 aR:gC m0.size ro m hp lh
 bq:rR ro m fr lf
variable{j:bg}{a g:ag}{m d:bg}{t e:Nat}{u:ae}{cy h q:E}{y:ab}{w:ah}{v:an}
def wU.ext(L:wU j a m t e u cy h q y w v)(c:D m d):wU j a d t e u cy h q y w v/\To a m a d:=by
 have b:∀p,dI p a m a d:=λp=>dI.fC (p:=p) c L.bF;exact⟨⟨L.cW.J c,L.mq,(b (λ_=>False)).bF,L.bV.ext c,L.YL,L.cy.fO (b (λ_=>False)) id,L.aR.fO (b (λ_=>False)) id id,L.bq.fO (b (λ_=>False)) λ_ _=>id⟩,b _⟩
def wU.lW(L:wU j a m t e u cy h q y w v)(i:Nat)(b:ae):wU j a (aV m t i b) t e (kJ u i b) cy h q y w v/\To a m a (aV m t i b):=by
 have c:dI (λk=>k=1) a m a (aV m t i b):=dI.aV L.bF L.YL _ _;have d:To a m a (aV m t i b):=by grind [dI.aP]
 let⟨b1,b2⟩:=d.cW L.cW L.mq;exact⟨⟨b1,b2,c.bF,dF.aV (m:=m) L.bV,L.YL,L.cy.fO c cD,L.aR.fO c cD cD,L.bq.fO c λk f=>V⟩,d⟩
def wU.pQ(L:wU j a m t e u cy h q y w v){i:Nat}(b:i+n<=u.length):jb m t i n:=L.bV.jb b
def wU.jU(L:wU j a m t e u cy h q y w v)(b:dI (λk=>k=3\/k=5\/k=6) a m g d){c:E}{i:ah}(l:gC j.size g d c i):wU j g d t e u cy c q y i v/\To a m g d:=by
 have f:To a m g d:=b.aP λk n=>V;let⟨b1,b2⟩:=f.cW L.cW L.mq;exact⟨⟨b1,b2,b.bF,L.bV.congr (b.fR _ L.bV.lt cB),by rw[b.jv _ L.bV.lt];exact L.YL,L.cy.fO b cD,l,L.bq.fO b λk n=>V⟩,f⟩
def wU.QE(L:wU j a m t e u cy h q y w v)(b:dI (λk=>k=2) a m g d){i:E}{f:ab}(l:iE g d bB 1 2 i (f.map Ce.i)):wU j g d t e u i h q f w v/\To a m g d:=by
 have c:To a m g d:=by grind [dI.aP]
 let⟨b1,b2⟩:=c.cW L.cW L.mq;exact⟨⟨b1,b2,b.bF,L.bV.congr (b.fR _ L.bV.lt cB),by rw[b.jv _ L.bV.lt];exact L.YL,l,L.aR.fO b cD cD,L.bq.fO b λk n=>V⟩,c⟩
def wU.mE(L:wU j a m t e u cy h q y w v)(b:dI (λk=>4<=k/\k≠9) a m g d){c:E}{i:an}(k:rR g d c i):wU j g d t e u cy h c y w i/\To a m g d:=by
 have f:To a m g d:=by grind [dI.aP]
 let⟨b1,b2⟩:=f.cW L.cW L.mq;exact⟨⟨b1,b2,b.bF,L.bV.congr (b.fR _ L.bV.lt cB),by rw[b.jv _ L.bV.lt];exact L.YL,L.cy.fO b cD,L.aR.fO b cD cD,k⟩,f⟩
end
section
variable{k:Nat}
def up{α:Type}(f:Nat->α)(k:Nat)(x:α):Nat->α:=λj=>if j=k then x else f j
@[simp] theorem Pe {α:Type} (f:Nat->α) (k:Nat) (x:α):up f k x k=x:=bn O
theorem XY{α:Type}{f:Nat->α}{x:α}{j:Nat}(h:j≠k):up f k x j=f j:=aW h
def Ve(a:Nat->E):ae:=[.s (a 0),.s (a 1),.s (a 2),.s (a 3),.s (a 4),.s (a 5),.s (a 6)]
def YN(a:Nat->E)(b:k<7):(Ve a)[k]? =some (.s (a k)):=by
 rcases k with _|_|_|_|_|_|_|k<;>first|rfl|omega
def SA(a:Nat->E)(b:k<7)(r:E):kJ (Ve a) k [.s r]=Ve (up a k r):=by
 rcases k with _|_|_|_|_|_|_|k<;>first|rfl|omega
@[grind cases] structure jZ (ro:ag) (m:bg) (lb:Nat) (sl:Nat->E) (L:Nat->ab):Prop where
 bF:∀b,m.size<=b->ro b=0
 jv:ro lb=8
 bV:dF m lb FX (Ve sl)
 qB:∀k,k<7->iE ro m bB 1 (k+1) (sl k) ((L k).map Ce.i)
section
variable{d h:ag}{a f:bg}{c:Nat}{b:Nat->E}{L:Nat->ab}
def jZ.dx(h:jZ d a c b L){k:Nat}(e:k<7):aS a c k=some (E.v (b k)):=by
 rw[h.bV.dx,YN b e];rfl
def jZ.oN(h:jZ d a c b L){k:Nat}(e:k<7)(f:(L k).length<=10^12):ba a (b k) (L k):=(h.qB k e).oN V
def jZ.aT(h:jZ d a c b L){k:Nat}(e:k<7):(b k).len=(L k).length:=by grind [jZ.qB,iE.aT]
def jZ.to(h:jZ d a c b L):To d a d a:=dI.cU _ h.bF
def jZ.ext(h:jZ d a c b L)(e:D a f):jZ d f c b L:=
 by constructor<;>grind [jZ.bF,D.aQ,jZ.jv,jZ.bV,dF.congr,D.bG,dF.lt,jZ.qB,iE.fR,iE.bz]
def jZ.nE(p:jZ d a c b L)(s:k<7)(C:(L k).length<=10^12)(j:Int){K:E->bg->Prop}
 (B:∀h r f,To d a h (aV f c k [.s r])->jZ h (aV f c k [.s r]) c (up b k r) (up L k (L k++[j]))->K r f):
 mj (a.push (.cells (db [.i j]) bB)) bB [.i 0] 8 (b k) (.mk a.size 0 1 1) λr f=>jb f c k 1/\K r f:=by
 have z:=D.push a (.cells (db [.i j]) bB)
 have g:=p.ext z
 have F:=p.aT s
 refine iE.fx (f:=[.i 0]) (new:=[.i j]) (g.qB k s) g.bF bO ((dF.push a (e:=bB) (l:=[.i j])).kZ) (by simp only[E.kv];omega) λh r f v n=>?_
 have x:dF f c FX (Ve b):=g.bV.congr (n.fR c g.bV.lt (by simp only[g.jv];omega))
 have o:h c=8:=by rw[n.jv c g.bV.lt,g.jv]
 have A:To d a h f:=(dI.fC z p.bF).J (n.aP λt y=>V)
 have u:To d a h (aV f c k [.s r]):=A.J (dI.aV n.bF (by simp only[o];omega) _ _)
 refine⟨x.jb (by show k+1<=7;omega),B h r f u ⟨u.bF,o,SA b s r▸dF.aV (m:=f) x,λt y=>?_⟩⟩
 by_cases i:t=k
 .subst i
  rw[Pe,Pe,lI]
  refine v.fR (λq=>cq _ _ _ _ λi=>?_) λ_=>O
  have:=(v.bz q).2
  rw[i,o]at this;omega
 .rw[XY i,XY i]
  have w:=(g.qB t y).fO n V
  refine w.fR (λq=>cq _ _ _ _ λi=>?_) λ_=>O
  have:=(w.bz q).2
  rw[i,o]at this;omega
def jZ.cG(h:jZ d a c b L){i:Nat}(l:k<7)(q:i<(L k).length)(x:Int):
 jb a (b k).bz ((b k).off+i*1) 1/\jZ d (aV a (b k).bz ((b k).off+i*1) [.i x]) c b (up L k ((L k).set i x))/\To d a d (aV a (b k).bz ((b k).off+i*1) [.i x]):=by
 have g:=h.qB k l
 have s:(L k).map Ce.i≠[]:=cB
 have j:(b k).cap≠0:=by grind [iE.zW]
 let⟨p,m⟩:=g.bz j
 have f:To d a d (aV a (b k).bz ((b k).off+i*1) [.i x]):=by grind [dI.aV,jZ.bF]
 refine⟨g.wr cB,⟨f.bF,h.jv,h.bV.congr (cq _ _ _ _ λe=>by have:=h.jv;rw[e,m]at this;omega),λn r=>?_⟩,f⟩
 by_cases e:n=k
 .subst e
  rw[Pe]
  have:=g.dY (o:=i*1) (new:=[.i x]) cB
  grind [Au]
 .grind [XY,jZ.qB,iE.fR,cq,iE.bz]
theorem jZ.adg(h:jZ d a c b L)(f:k<7){r:E}{l:ab}(g:iE d a bB 1 (k+1) r (l.map Ce.i)):
 jb a c k 1/\jZ d (aV a c k [.s r]) c (up b k r) (up L k l)/\To d a d (aV a c k [.s r]):=by
 have e:To d a d (aV a c k [.s r]):=by grind [dI.aV,jZ.bF,jZ.jv]
 refine⟨h.bV.jb (by show k+1<=7;omega),⟨e.bF,h.jv,SA b f r▸dF.aV (m:=a) h.bV,λn j=>?_⟩,e⟩
 have K:∀{i s l},iE d a bB 1 (i+1) s l->i<7->iE d (aV a c k [.s r]) bB 1 (i+1) s l:=λ{i s l} g' hk'=>by
  grind [iE.fR,cq,iE.bz,jZ.jv]
 grind [Pe,XY,jZ.qB]
def jZ.ry(h:jZ d a c b L){k n:Nat}(e:k<7)(l:n<=(L k).length):
 n<=(b k).cap/\jb a c k 1/\jZ d (aV a c k [.s ((b k).cut 0 n 1)]) c (up b k ((b k).cut 0 n 1)) (up L k ((L k).take n))/\To d a d (aV a c k [.s ((b k).cut 0 n 1)]):=by
 have g:=h.qB k e
 have i:=h.aT e
 have j:=g.le
 have f:=g.ry (n:=n) V
 grind [List.map_take,jZ.adg]
end
@[grind cases] structure lX (ds:af) (n b:Nat) (L:Nat->ab):Prop where
 aT:∀k,k<6->(L k).length=n
 YW:∀(v:Nat)(p:Int),(L 2)[v]? =some p->p<v
 lG:∀(v:Nat)(c f:Int),(L 3)[v]? =some c->(L 4)[v]? =some f->0<=c->0<=f/\f+((cX ds c).length:Int)<=b
 df:(L 6).length<=10^12
abbrev wA(a:af)(n:Nat)(L:Nat->ab):Prop:=lX a n n L
def PV(L:Nat->ab)(t o p:Int):Nat->ab:=up (up (up (up (up (up L 0 (L 0++[t])) 1 (L 1++[o])) 2 (L 2++[p])) 3 (L 3++[-1])) 4 (L 4++[-1])) 5 (L 5++[-1])
def Ff{j:ag}{m:bg}{b:Nat}{x:Nat->E}{L:Nat->ab}(h:jZ j m b x L)(a:∀k,k<6->(L k).length<=10^12)(t o p:Int):
 bK dO 271 [vp b 0,vi t,vi o,vi p] m λ_ i=>∃l y,To j m l i/\jZ l i b y (PV L t o p):=by
 apply BT (b,0)
 simp -zeta only[eW]
 refine⟨_,h.dx (k:=0) cD,?_⟩
 intro z
 refine h.nE (k:=0) cD (a 0 cD) t λN T G n c=>⟨_,c.dx (k:=1) cD,?_⟩
 intro A
 refine c.nE (k:=1) cD (a 1 cD) o λO U H q d=>⟨_,d.dx (k:=2) cD,?_⟩
 intro B
 refine d.nE (k:=2) cD (a 2 cD) p λP V I r e=>⟨_,e.dx (k:=3) cD,?_⟩
 intro C
 refine e.nE (k:=3) cD (a 3 cD) (-1) λQ W J s f=>⟨_,f.dx (k:=4) cD,?_⟩
 intro D
 refine f.nE (k:=4) cD (a 4 cD) (-1) λR X K u g=>⟨_,g.dx (k:=5) cD,?_⟩
 intro F
 exact g.nE (k:=5) cD (a 5 cD) (-1) λS Y M v w=>⟨_,_,((((n.J q).J r).J s).J u).J v,w⟩
end
section
variable{l:ab}{j:ag}{g:bg}{P:(Nat->ab)->Prop}{b:Nat}{v:Int}
def GI.cy{S:ad}{h m:bg}{s:E}(j:GI S h m s l):jy h m bB 1 s (l.map Ce.i):=by
 let⟨p,b,k,a⟩:=j;have t:b.flatten.length=l.length:=by rw[dS a.aQ,a.aT];omega
 have n:b.flatten=l.map Ce.i:=by
  apply ft;intro d;rcases dJ d l.length with g|g
  .let⟨x,o⟩:=gD g;let⟨e,f⟩:=dV b d cB;have q:e=[.i x]:=a.eS d e x f o;have r:=jt (f:=1) a.aQ f (i:=0) (c:=.i x) cB;grind
  .grind [List.getElem?_eq_none]
 rw[<-n];exact k
def Gw(e:ag)(m:bg)(d:Nat)(P:(Nat->ab)->Prop)(v:Value)(g:bg):Prop:=∃(b:Bool)(j:ag),v=vb b/\To e m j g/\(b=true->∃c a,jZ j g d c a/\P a)
def Gw.no{e:ag}{m:bg}{d:Nat}(h:To e m j g):Gw e m d P (vb false) g:=⟨false,j,O,h,bO⟩
def Gw.Ua{e:ag}{m:bg}{d:Nat}{h:Nat->E}{L:Nat->ab}(a:To e m j g)(b:jZ j g d h L)(c:P L):Gw e m d P (vb true) g:=⟨true,j,O,a,λ_=>⟨h,L,b,c⟩⟩
def Gw.aP{e:ag}{m:bg}{d:Nat}{Q:(Nat->ab)->Prop}{v:Value}(a:Gw e m d P v g)(o:∀L,P L->Q L):Gw e m d Q v g:=let⟨b,j,c,f,i⟩:=a;⟨b,j,c,f,λn=>let⟨h,L,k,l⟩:=i n;⟨h,L,k,o L l⟩⟩
theorem lX.bI{f:af}{a:Nat}{L:Nat->ab}(h:lX f a b L)(c:l.length=a):lX f a b (up L 1 l):=
 by constructor<;>grind [up,lX.aT,lX.YW,lX.lG,lX.df]
def lX.tok{f:af}{a:Nat}{L:Nat->ab}(h:lX f a b L)(c:l.length=a):lX f a b (up L 5 l):=
 by constructor<;>grind [up,lX.aT,lX.YW,lX.lG,lX.df]
def PT{a x:Int}{v:Nat}(h:(l++[a])[v]? =some x):l[v]? =some x\/v=l.length/\x=a:=by
 grind [Nat.lt_or_ge,List.length,List.getElem?_append_left,List.getElem?_append_right,br]
def lX.Ij{f:af}{a c:Nat}{L:Nat->ab}(h:lX f a b L)(d:b<=c):lX f a c L:=
 by constructor<;>grind [lX.aT,lX.YW,lX.lG,lX.df]
def lX.Wr{f:af}{a:Nat}{L:Nat->ab}(h:lX f a b L)(t r:Int){p:Int}(w:p<a):lX f (a+1) b (PV L t r p):=by
 have g:=h.aT;refine⟨λk u=>?_,λv q o=>?_,λv d e j m s=>?_,by simpa[PV,up]using h.df⟩
 .rcases k with _|_|_|_|_|_|k<;>first|omega|(simp[PV,up,g])
 .have i:(L 2++[p])[v]? =some q:=by simpa[PV,up]using o
  rcases PT i with c|⟨rfl,rfl⟩
  .exact h.YW v q c
  grind
 .have l:(L 3++[-1])[v]? =some d:=by simpa[PV,up]using j
  have n:(L 4++[-1])[v]? =some e:=by simpa[PV,up]using m
  rcases PT l with c|⟨rfl,rfl⟩
  .rcases PT n with i|⟨i,rfl⟩
   .grind [lX.lG]
   grind [br]
  .omega
variable{e:ag}{m:bg}{d:Nat}{h:Nat->E}{L:Nat->ab}{f:af}{a:Nat}
theorem jZ.bt(a:jZ e m d h L){k:Nat}(c:k<7)(f:(L k).length<=10^12){i:Nat}{x:Int}(b:(L k)[i]? =some x):aS m (h k).bz ((h k).off+i*1)=some (vi x):=(a.oN c f).bt b
def zc(b:jZ e m d h L)(q:wA f a L)(u:a<=10^12)(c:0<=v)(s:v<a):bK dO 272 [vp d 0,vi v] m (Gw e m d λg=>∃l:ab,l.length=a/\g=up L 1 l):=by
 apply BW (d,0);simp -zeta only[eW];have o:=q.aT 1 cD;have t:=b.aT (k:=1) cD;let⟨x,r⟩:=dV (L 1) v.toNat;have j:=b.bt cD V r;have g:=b.dx (k:=1) cD;let⟨w,p,n⟩:=b.cG (k:=1) (i:=v.toNat) cD V (eJ (x -1));exact⟨_,g,c,V,x,j,λ_=>.no b.to,λ_=>⟨_,g,_,g,c,V,x,j,c,V,w,.Ua n p ⟨_,by simp[o],O⟩⟩⟩
def wM(q:jZ e m d h L)(j:wA f a L)(t:a<=10^12)(i:0<=v)(o:v<a):sT 226 [vp d 0,vi v] m:=by
 apply AG (d,0);refine⟨λv g=>0<=v/\v<(a:Int)/\D m g,λv _=>v.toNat,⟨i,o,cY⟩,?_⟩;rintro v A ⟨i,o,c⟩;have H:=q.ext c;have w:=H.aT (k:=1) cD;have z:=H.aT (k:=2) cD;have C:=j.aT 1 cD;have E:=j.aT 2 cD;let⟨x,s⟩:=dV (L 1) v.toNat;let⟨y,p⟩:=dV (L 2) v.toNat;have u:=j.YW _ _ p;refine⟨_,H.dx (k:=1) cD,i,V,x,H.bt cD V s,λ_=>⟨_,H.dx (k:=6) cD,?_⟩,λ_=>rA c⟩;refine(fI (H.oN cD j.df) v).cg λb B _ l=>⟨_,O,λ_=>?_,λ_=>rA (c.J l)⟩;have n:=H.ext l;refine⟨_,n.dx (k:=2) cD,i,V,y,n.bt cD V p,λ_=>rA (c.J l),λr=>?_⟩;simp only[dm]at r;exact⟨⟨V,V,c.J l⟩,by show y.toNat<v.toNat;omega⟩
def QL(i:jZ e m d h L)(u:wA f a L)(S:a<=10^12){b:Nat}(H:b<=a):bK dO 345 [vp d 0,vi b] m (Gw e m d λc=>(∀j,j<6->(c j).length=b)/\(c 6).length<=10^12):=by
 apply Ds (d,0);simp -zeta only[eW];refine⟨λv g=>(b:Int)<=v/\v<=a/\g=m,λv _=>((a:Int) -v).toNat,⟨V,V,O⟩,?_⟩;rintro v X ⟨Q,p,rfl⟩;have o:=λj(G:j<6)=>i.aT (k:=j) V;have c:=u.aT;have T:=o 0 cD;have U:=o 1 cD;have W:=o 5 cD;have n0:=c 0 cD;have n1:=c 1 cD;have n5:=c 5 cD;refine⟨_,i.dx cD,λw=>?_,λw=>?_⟩
 .simp only[bh]at w;let⟨x,q⟩:=dV (L 1) v.toNat;let⟨y,r⟩:=dV (L 5) v.toNat;refine⟨_,i.dx cD,V,V,x,i.bt cD V q,λ_=>.no i.to,λ_=>⟨_,i.dx cD,V,V,y,i.bt cD V r,λ_=>.no i.to,λ_=>?_⟩⟩;rw[iz];exact⟨⟨V,V,O⟩,by show((a:Int) -(v+1)).toNat<((a:Int) -v).toNat;omega⟩
 .have tk:∀{l:ab},l.length=a->(l.take b).length=b:=λR=>eX;have D:Int.toNat 0=0:=rfl;have E:Int.toNat (b:Int)=b:=V;rw[D,E];let⟨p1,I,p,x⟩:=i.ry cD (((c 0 cD)▸H));refine⟨_,i.dx cD,V,V,V,I,?_⟩;intro Y;let⟨p2,J,q,y⟩:=p.ry (k:=1) (n:=b) cD (by simp[up,c];omega);refine⟨_,p.dx cD,V,V,V,J,?_⟩;intro Z;let⟨p3,K,r,z⟩:=q.ry (k:=2) (n:=b) cD (by simp[up,c];omega);refine⟨_,q.dx cD,V,V,V,K,?_⟩;intro m4;let⟨p4,M,s,A⟩:=r.ry (k:=3) (n:=b) cD (by simp[up,c];omega);refine⟨_,r.dx cD,V,V,V,M,?_⟩;intro m5;let⟨p5,N,t,B⟩:=s.ry (k:=4) (n:=b) cD (by simp[up,c];omega);refine⟨_,s.dx cD,V,V,V,N,?_⟩;intro m6;let⟨p6,P,F,C⟩:=t.ry (k:=5) (n:=b) cD (by simp[up,c];omega);refine⟨_,t.dx cD,V,V,V,P,?_⟩;intro m7;refine Gw.Ua (((((x.J y).J z).J A).J B).J C) F ⟨λj G=>?_,?_⟩
  .rcases j with _|_|_|_|_|_|j<;>first|omega|(simp[up,c];omega)
  .simpa[up]using u.df
end
section
variable{a:ag}{m d c:bg}{X:ad}
def adA(m:bg)(P:(Nat->ab)->Prop)(v:Value)(c:bg):Prop:=∃d,v=vp d 0/\D m c/\∃a e L,(∀b,b<m.size->a b=0)/\jZ a c d e L/\P L
def RF{t:Nat}{sl:Nat->E}{L:Nat->ab}(h:jZ a m t sl L)(S:∀b,b<7->(L b).length<=10^12):
 bK dO 332 [vp t 0] m (adA m λc=>∀b,b<7->c b=L b):=by
 apply zH (t,0)
 simp -zeta only[eW]
 refine⟨_,h.dx (k:=0) cD,_,h.dx (k:=1) cD,_,h.dx (k:=2) cD,_,h.dx (k:=3) cD,_,h.dx (k:=4) cD,_,h.dx (k:=5) cD,_,h.dx (k:=6) cD,?_⟩
 have C:∀{M:bg}(b:Nat),b<7->D m M->oA 55 [E.v (sl b)] M [] (L b=·):=λb w x=>dC [] ((h.ext x).oN w (S b w)) (S b w)
 have c:∀{M I:bg},D m M->D M I->∀y,aS I t y=aS M t y:=λx x' y=>bE (x'.bG t (x.lt h.bV.lt)) y
 have r:=D.cU m
 refine(C 0 cD r).cg λU _ m1 J e d=>⟨_,O,c r d _,c r d _,c r d _,c r d _,c r d _,c r d _,?_⟩
 subst e
 refine(C 1 cD d).cg λW _ m2 g1 e i=>⟨_,O,c d i _,c d i _,c d i _,c d i _,c d i _,?_⟩
 subst e
 have u:=d.J i
 refine(C 2 cD u).cg λX _ m3 g2 e j=>⟨_,O,c u j _,c u j _,c u j _,c u j _,?_⟩
 subst e
 have v:=u.J j
 refine(C 3 cD v).cg λY _ m4 K e l=>⟨_,O,c v l _,c v l _,c v l _,?_⟩
 subst e
 have z:=v.J l
 refine(C 4 cD z).cg λZ _ m5 N e n=>⟨_,O,c z n _,c z n _,?_⟩
 subst e
 have H:=z.J n
 refine(C 5 cD H).cg λs5 _ m6 P e o=>⟨_,O,c H o _,?_⟩
 subst e
 have u6:=H.J o
 refine(C 6 cD u6).cg λs6 _ B Q e p=>⟨_,O,?_⟩
 subst e
 intro F
 obtain⟨q,s8⟩:=pu F
 have z1:=d.aQ;have z2:=i.aQ;have z3:=j.aQ;have z4:=l.aQ;have z5:=n.aQ;have z6:=o.aQ;have z7:=p.aQ
 have y0:=J.cJ;have y1:=g1.cJ;have y2:=g2.cJ;have y3:=K.cJ;have y4:=N.cJ;have y5:=P.cJ;have y6:=Q.cJ
 let f:Nat->Nat:=λg=>if g<m.size then 0 else if g<m1.size then 1 else if g<m2.size then 2 else if g<m3.size then 3 else if g<m4.size then 4 else if g<m5.size then 5 else if g<m6.size then 6 else if g<B.size then 7 else if g=B.size then 8 else 0
 let ac:Nat->E:=λb=>if b=0 then U else if b=1 then W else if b=2 then X else if b=3 then Y else if b=4 then Z else if b=5 then s5 else s6
 have A:∀{m0 M:bg}{G:E}{T:ab}{b:Nat},GI [] m0 M G T->D M F->f G.bz=b->iE f F bB 1 b G (T.map Ce.i):=λaa x hr=>iE.ju (aa.cy.ext x) λ_=>hr
 refine⟨B.size,O,u6.J (p.J q),f,ac,L,λg R=>bn R,⟨λg R=>?_,?_,dF.push _ _ _,λb w=>?_⟩,λ_ _=>O⟩
 .simp only[f]
  repeat rw[aW V]
 .simp only[f]
  repeat rw[aW V]
  simp
 .rcases b with _|_|_|_|_|_|_|b
  .exact A (G:=U) (b:=1) J (i.J (j.J (l.J (n.J (o.J (p.J q)))))) (by simp only[f];rw[aW V,bn V])
  .exact A (G:=W) (b:=2) g1 (j.J (l.J (n.J (o.J (p.J q))))) (by simp only[f];rw[aW V,aW V,bn V])
  .exact A (G:=X) (b:=3) g2 (l.J (n.J (o.J (p.J q)))) (by simp only[f];rw[aW V,aW V,aW V,bn V])
  .exact A (G:=Y) (b:=4) K (n.J (o.J (p.J q))) (by simp only[f];simp(disch:=omega) only[aW,bn])
  .exact A (G:=Z) (b:=5) N (o.J (p.J q)) (by simp only[f];simp(disch:=omega) only[aW,bn])
  .exact A (G:=s5) (b:=6) P (p.J q) (by simp only[f];simp(disch:=omega) only[aW,bn])
  .exact A (G:=s6) (b:=7) Q q (by simp only[f];simp(disch:=omega) only[aW,bn])
  .omega
@[grind cases] structure Gv (mb:bg) (X:ad) (ro:ag) (m:bg):Prop where
 ext:D mb m
 kA:∀b,b<mb.size->ro b=0
 bV:∀b∈X,b<m.size/\ro b=0
def Gv.to{b:ag}(h:Gv d X a m)(e:To a m b c):Gv d X b c:=by
 constructor<;>grind [dI.cW,Gv.ext,Gv.kA,Gv.bV,dI.aQ,dI.jv]
def Gv.eV{d m c:bg}{X:ad}{a e:ag}(h:Gv d X a m)(b:To a m e c):gS X m c:=b.eV h.bV
def Gv.nj(h:Gv d X a m)(x:D m c):Gv d X a c:=by constructor<;>grind [Gv.ext,D.J,Gv.kA,D.lt,Gv.bV]
def MO{p J aa:E}{q:j7}(r:ba m p q.aY)(F:ba m J q.df)(ae:q.aY.length<=3)(ad:q.df.length<=3)(v:af):
 bK dO 249 [.agg #[p.v,J.v,vi q.bQ,aa.v,vi q.eY.bQ]] m (adA m (wA v q.aY.length)):=by
 apply Fo
 simp -zeta only[dR]
 intro f
 obtain⟨u,s1⟩:=pu f
 have W:∀b∈[m.size],b<f.size:=by simp[f]
 refine(dC [] (F.ext u) V).bL (D.cU f) W λs6 _ j C o K _=>⟨_,O,?_⟩
 subst o
 intro I
 obtain⟨P,s3⟩:=pu I
 have z2:=K.aQ
 have y6:=C.cJ
 let l:Nat->Nat:=λb=>if b<f.size then 0 else if b<j.size then 7 else if b=j.size then 8 else 0
 let d:Nat->ab:=λk=>if k<6 then[]else q.df
 let t:Nat->E:=λk=>if k<6 then .nil else s6
 have R:jZ l I j.size t d:=by
  refine⟨λb i=>?_,?_,dF.push _ _ _,λk A=>?_⟩
  .simp only[l];repeat rw[aW V]
  .simp only[l];repeat rw[aW V]
   simp
  .by_cases e:k<6
   .simp only[t,d,bn e];exact⟨bO,bO,bC O⟩
   .have o:k=6:=V;subst o;simp only[t,d,aW e];refine iE.ju (C.cy.ext P) λ_=>?_;simp only[l];rw[aW V,bn V]
 have T:wA v 0 d:=by
  refine⟨λk A=>by simp only[d,bn A];rfl,λe p r=>by simp[d]at r,λe h g w=>by simp[d]at w,by simp[d];omega⟩
 have kA:∀b,b<f.size->l b=0:=λb i=>bn i
 have ag:=r.aT
 refine gP (n:=q.aY.length) V (λk M=>∃a B L,Gv f [m.size] a M/\jZ a M j.size B L/\wA v k L) ⟨l,t,d,⟨K.J P,kA,λb i=>by simp at i;subst i;exact⟨V,kA _ V⟩⟩,R,T⟩ ?_
 rintro k M S μ A ⟨a,B,L,g,H,z⟩ Z
 refine dit (λU=>?_) λU=>?_
 .let⟨y,X⟩:=dV q.aY k
  have N:∀(s:Int){e:bg},D M e->bK dO 271 [vp j.size 0,vi y,vi s,vi (-1:Int)] e λ_ c=>gS [m.size] e c/\S (eJ ((k:Int)+1)) c/\μ (eJ ((k:Int)+1)) c<μ k M:=λs e x=>
   (Ff (H.ext x) (λY Q=>by rw[z.aT Y Q];omega) y s (-1)).aP λ_ c⟨Y,ac,h,Q⟩=>⟨(g.nj x).eV h,Z V _ ⟨Y,ac,_,(g.nj x).to h,Q,(z.Wr y s V).Ij V⟩⟩
  have G:∀{e:bg},D M e->aS e p.bz (p.off+Int.toNat (k:Int)*1)=some (vi y):=λx=>(r.ext (u.J (g.ext.J x))).bt X
  refine⟨V,V,y,G cY,λ_=>?_,λ_=>⟨V,V,y,G cY,N 0 cY⟩⟩
  refine(fI (F.ext (u.J g.ext)) (k:Int)).cg λb M2 _ x=>⟨λh w=>x.bG h (g.bV h w).1,_,O,λ_=>⟨V,V,y,G x,N 1 x⟩,λ_=>⟨V,V,y,G x,N 0 x⟩⟩
 .have o:k=q.aY.length:=V
  subst o
  exact⟨j.size,O,u.J g.ext,a,B,L,λb i=>g.kA b V,H,z⟩
end
section
def jZ.abt{e:ag}{b f:bg}{g:Nat}{p:Nat->E}{L:Nat->ab}(h:jZ e b g p L)(kA:∀a,a<f.size->e a=0){l j:Nat}(d:l<7)(m:j<(L l).length):f.size<=(p l).bz/\(p l).bz<b.size/\e (p l).bz=l+1:=by
 have a:=h.qB l d;have i:(L l).map Ce.i≠[]:=cB;let⟨k,n⟩:=a.bz λc=>i (a.zW c).1;constructor<;>grind [Nat.le_of_not_lt]
def Gv.Zn{f b c d:bg}{e:ag}{o1 o2:Obj}(h:D f b)(kA:∀a,a<f.size->e a=0)(i:∀a,b.size<=a->e a=0)(a:c=b.push o1)(g:d=c.push o2):Gv f [c.size,b.size] e d:=by
 constructor<;>grind [fU,D.J]
variable{e:ag}{b f:bg}{g:Nat}{p:Nat->E}{L:Nat->ab}{h:af}{q:List j7}{o:Nat}{d r a l:E}{x:eN}{c:Prop}{s:Nat}
def Vi(hx:D f b)(kA:∀v,v<f.size->e v=0)(K:jZ e b g p L)(N:wA h o L)(hn:o<=10^12)(hN:iF f d r h q)(ha:ba f a x.aO)(hf:Ye h s c o x)(an:14<=x.op):
 bK dO 273 [vp g 0,.agg #[d.v,r.v],tp x a l] b (Gw e b g (wA h o)):=by
 apply BU (g,0)
 simp -zeta only[dR,eW]
 intro Y Z
 have st:=Gv.Zn (c:=Y) (d:=Z) hx kA K.bF O O
 have x2:D b Z:=(fU (a:=Y) (c:=Z) O O).1
 have T:To e b e Z:=dI.fC x2 K.bF
 have F:=K.ext x2
 have ax:=ha.aT
 have aw:=hf.mM (bC an)
 let⟨B,hy⟩:=dV x.aO 0
 let⟨H,y1⟩:=hf.aO B (aZ hy)
 have S:=N.aT
 have n1:=S 1 cD;have n3:=S 3 cD;have n4:=S 4 cD;have n5:=S 5 cD
 have l3:=F.aT (k:=3) cD;have l5:=F.aT (k:=5) cD
 let⟨C,ae⟩:=dV (L 3) B.toNat
 let⟨w,ag⟩:=dV (L 4) B.toNat
 let⟨tk,ap⟩:=dV (L 5) B.toNat
 refine⟨cD,V,B,(ha.ext st.ext).bt hy,?_⟩
 refine⟨λM=>0<=C/\∃P af t,t.length=o/\To e b P M/\Gv f [Y.size,b.size] P M/\jZ P M g af (up L 1 t),?_,?_⟩
 .refine⟨_,F.dx (k:=3) cD,H,V,C,F.bt cD V ae,λ_=>.no T,λy=>?_⟩
  simp only[dm]at y
  refine⟨λ_=>⟨_,F.dx (k:=5) cD,H,V,tk,F.bt cD V ap,λ_=>.no T,λ_=>?_⟩,λ_=>?_⟩<;>
  .refine(zc F N hn H y1).aP λau m3⟨v,P,ac,I,z⟩=>⟨st.eV I,v,ac,λE=>.no (T.J I),λE=>?_⟩
   obtain⟨af,A,u,t,hl,rfl⟩:=z (sp E)
   exact⟨V,P,af,t,hl,T.J I,st.to I,u⟩
 .rintro m3 ⟨al,aa,G,t,hl,I,Q,z⟩
  have e3:(up L 1 t) 3=L 3:=rfl
  have e5:(up L 1 t) 5=L 5:=rfl
  have e1:(up L 1 t) 1=t:=rfl
  have aq:=z.aT (k:=3) cD
  rw[e3]at aq
  let⟨f0,f1⟩:=N.lG B.toNat C w ae ag al
  refine⟨_,z.dx (k:=3) cD,H,V,C,z.bt cD (by rw[e3];omega) ae,?_⟩
  have A1:=z.abt (f:=f) Q.kA (l:=1) (j:=B.toNat) cD (by rw[e1];omega)
  have A5:=z.abt (f:=f) Q.kA (l:=5) (j:=B.toNat) cD (by rw[e5];omega)
  have hS:∀v∈[(G 1).bz,(G 5).bz],v<m3.size:=λv E=>by simp at E;omega
  have ak:∀{M:bg},D f M->Le f (dB [(G 1).bz,(G 5).bz] M):=λxx=>(EB (m:=f)).J (xx.dB λv E=>bR (by simp at E;omega))
  refine(fV (hN.bS.le (ak Q.ext)) hN.dk C).aP λau m4⟨aj,fl,ac,hs,am,x4⟩=>⟨λv E=>x4.bG v (Q.bV v E).1,aj,ac,?_⟩
  subst am
  have c4:To e b aa m4:=I.J (dI.fC x4 z.bF)
  have az:=hs.aT
  have f3:=Kd hN.dk C
  refine gP (n:=(cX h C).length) V (λA M=>∃t,t.length=o/\To e b aa M/\Gv f [Y.size,b.size] aa M/\jZ aa M g G (up L 1 t)/\Fz [(G 1).bz,(G 5).bz] m4 M) ⟨t,hl,c4,(Q.nj x4),(z.ext x4),nP⟩ ?_
  rintro A M av μ ay ⟨y,X,U,ab,u,ad⟩ ai
  have ao:=hs.le (ad.fj λ_ K=>K)
  refine⟨λah=>?_,λah=>?_⟩
  .simp only[bh]at ah
   let⟨ar,hz⟩:=dV (cX h C) A
   refine⟨V,V,ar,(ao.le fN).bt hz,λ_=>?_,λ_=>ai V _ ⟨y,X,U,ab,u,ad⟩⟩
   have E3:(up L 1 y) 4=L 4:=rfl
   have E1:(up L 1 y) 1=y:=rfl
   have G1:=u.dx (k:=1) cD
   have G4:=u.dx (k:=4) cD
   have l4:=u.aT (k:=4) cD
   have l1:=u.aT (k:=1) cD
   rw[E3]at l4;rw[E1]at l1
   have V4:=u.bt (k:=4) cD (by rw[E3];omega) ag
   have ew:eJ (w+(A:Int))=w+A:=iz
   let⟨R,hw⟩:=dV y ((w+(A:Int)).toNat)
   let⟨wr,W,J⟩:=u.cG (k:=1) (i:=(w+(A:Int)).toNat) cD (by rw[E1];omega) (eJ (R+1))
   refine⟨_,G1,_,G4,H,V,w,V4,_,G1,_,G4,H,V,w,V4,?_⟩
   rw[ew]
   refine⟨V,V,R,u.bt (k:=1) cD (by rw[E1];omega) hw,V,V,wr,ab.eV J,ai V _ ⟨y.set (w+(A:Int)).toNat (eJ (R+1)),by simp[X],U.J J,ab.to J,?_,ad.aV (bC bO) _ _⟩⟩
   have:up (up L 1 y) 1 ((up L 1 y) 1|>.set (w+(A:Int)).toNat (eJ (R+1)))=up L 1 (y.set (w+(A:Int)).toNat (eJ (R+1))):=by funext j;simp only[up];split<;>rfl
   rw[this]at W;exact W
  .refine⟨λ_=>?_,λ_=>.Ua U u (N.bI X)⟩
   have R:(up L 1 y) 5=L 5:=rfl
   have ar:=u.aT (k:=5) cD
   rw[R]at ar
   let⟨wr,W,J⟩:=u.cG (k:=5) (i:=B.toNat) cD (by rw[R];omega) (aj.len:Int)
   exact⟨_,u.dx (k:=5) cD,H,V,wr,ab.eV J,.Ua (U.J J) W ((N.bI X).tok (by rw[R];simp[n5]))⟩
def Ov(hx:D f b)(kA:∀j,j<f.size->e j=0)(N:jZ e b g p L)(hi:wA h o L)(hn:o<=10^12)(hN:iF f d r h q)(B:ba f a x.aO)(E:Ye h q.length c o x):
 bK dO 275 [vp g 0,.agg #[d.v,r.v],tp x a l] b (Gw e b g (wA h o)):=by
 apply xP (g,0)
 simp -zeta only[dR,eW]
 intro Q I
 have st:=Gv.Zn (c:=Q) (d:=I) hx kA N.bF O O
 have x2:D b I:=(fU (a:=Q) (c:=I) O O).1
 have c2:To e b e I:=dI.fC x2 N.bF
 have Z:=B.aT
 have Y:∀{M:bg},D f M->At M d r a l h q x:=λxx=>⟨hN.le xx.le,B.ext xx,E.jF⟩
 refine gP (n:=x.aO.length) (Z▸B.kK) (λ_ M=>∃t S J,wA h o J/\To e b t M/\Gv f [Q.size,b.size] t M/\jZ t M g S J) ⟨e,p,L,hi,c2,st,(N.ext x2)⟩ ?_
 rintro aa M af μ ag ⟨R,ae,X,v,K,C,s⟩ ac
 refine⟨λF=>?_,λF=>?_⟩
 .simp only[bh]at F
  let⟨H,G⟩:=dV x.aO aa
  let⟨U,W⟩:=E.aO H (aZ G)
  have N0:=v.aT 0 cD
  refine⟨_,s.dx (k:=0) cD,?_⟩
  refine(qt (Y C.ext) (s.oN (k:=0) cD V) (by rw[N0];exact E.aO) (h:=aa) V).aP λT m4⟨j,z,m⟩=>⟨λj u=>m.bG j (C.bV j u).1,j,z,λ_=>⟨V,V,H,(B.ext (C.ext.J m)).bt G,?_⟩,λ_=>ac V _ ⟨R,ae,X,v,K.J (dI.fC m s.bF),C.nj m,s.ext m⟩⟩
  have w:=C.nj m
  have y:To e b R m4:=K.J (dI.fC m s.bF)
  refine(zc (s.ext m) v hn U W).aP λT m5⟨j,t,z,A,h5⟩=>⟨w.eV A,j,z,λu=>.no (y.J A),λu=>?_⟩
  obtain⟨S,J,P,ab,hl,rfl⟩:=h5 (sp u)
  exact ac V _ ⟨t,S,_,v.bI hl,y.J A,w.to A,P⟩
 .refine gP (n:=x.aO.length) (Z▸B.kK) (λ_ t=>D M t) cY ?_
  rintro S M4 I4 μ4 ah m ab
  have w:=C.nj m
  have y:To e b R M4:=K.J (dI.fC m s.bF)
  have t:=s.ext m
  refine⟨λF=>?_,λF=>⟨λad=>?_,λ_=>.Ua y t v⟩⟩
  .simp only[bh]at F
   let⟨H,G⟩:=dV x.aO S
   let⟨U,W⟩:=E.aO H (aZ G)
   refine(sg (Y w.ext) (S:Int)).aP λT m5⟨j,z,A⟩=>⟨λj u=>A.bG j (w.bV j u).1,j,z,λ_=>⟨V,V,H,(B.ext (w.ext.J A)).bt G,?_⟩,λ_=>ab V _ (m.J A)⟩
   refine(wM (t.ext A) v hn U W).aP λT m6⟨j,z,J⟩=>⟨λj u=>J.bG j (A.lt (w.bV j u).1),j,z,λ_=>.no (y.J (dI.fC (A.J J) t.bF)),λ_=>ab V _ ((m.J A).J J)⟩
  .simp only[bh]at ad
   have H:=E.dh
   have u:=v.aT 5 cD
   have J:=t.aT (k:=5) cD
   have z:eJ (x.dh -1)=x.dh -1:=iz
   let⟨G,A⟩:=dV (X 5) ((x.dh -1).toNat)
   let⟨wr,P,j⟩:=t.cG (k:=5) (i:=(x.dh -1).toNat) cD V (-1)
   rw[z]
   exact⟨_,t.dx (k:=5) cD,V,V,G,t.bt (k:=5) cD V A,λ_=>.no y,λ_=>⟨_,t.dx (k:=5) cD,V,V,wr,w.eV j,.Ua (y.J j) P (v.tok (by simp[u]))⟩⟩
end
section
variable{M:bg}
def Qz(g:ag)(b:bg):ad:=(List.range b.size).filter λa=>g a≠0
def Z7(g:ag)(b:bg):∀a∈Qz g b,a<b.size:=by grind [Qz]
def YM{g:ag}{b h:bg}(kA:∀a,a<h.size->g a=0)(e:D h M):Le h (dB (Qz g b) M):=
 (EB (m:=h)).J (e.dB λa c=>bR (by
  simp[Qz]at c;exact Nat.le_of_not_lt λd=>c.2 (kA a d)))
def dI.afl{g d:ag}{b c:bg}(h:To g c d M)(f:∀a,b.size<=a->g a=0):Le (dB (Qz g b) c) M:=λa o v e=>by
 grind [iO,rV,Nat.lt_or_ge,Array.size,Qz,bE,dI.fR]
def Xh(f:af)(p:List j7)(c:Prop)(a:Bk):Prop:=∀(g:ag)(b h:bg)(o:Nat)(j:Nat->E)(L:Nat->ab)(e l:Nat)(d r t:E),D h b->(∀a,a<h.size->g a=0)->jZ g b o j L->wA f e L->WB f p.length c e a->e+4*a.w<=10^12->l<=e->iF h d r f p->iN h t a.bA->
 bK dO 333 [vp o 0,.agg #[d.v,r.v],.agg #[t.v,vi a.bQ],vi l] b (Gw g b o λi=>(∀k,k<6->(i k).length=l)/\(i 6).length<=10^12)
def acS(b:bg)(e:Nat)(v:Value)(c:bg):Prop:=∃(o:Nat)(d:Bool),v=.tuple #[vp o 0,vb d]/\D b c/\(d=true->∃g j L,(∀a,a<b.size->g a=0)/\jZ g c o j L/\∀a,a<6->(L a).length=e)
def lX.bG{f:af}{e b:Nat}{L a:Nat->ab}(h:lX f e b L)(c:∀l,l<7->a l=L l):lX f e b a:=
 by constructor<;>grind [lX.aT,lX.YW,lX.lG,lX.df]
variable{g:ag}{b h:bg}{o:Nat}{j:Nat->E}{L:Nat->ab}{f:af}{p:List j7}{e:Nat}{d r a l:E}{x:eN}{c:Prop}
def WW(hx:D h b)(az:jZ g b o j L)(hi:wA f e L)(N:iF h d r f p)(ha:ba h a x.aO)(hk:rQ h l x.dv)(hw:WS f p.length c e x)(t:e+4*x.w<=10^12){ad:Nat}{m:Bk}(ac:x.dv[ad]? =some m)(ih:Xh f p c m):
 bK dO 314 [vp o 0,.agg #[d.v,r.v],tp x a l,vi ad] b (acS b e):=by
 apply Dt (o,0)
 simp -zeta only[dR]
 intro R I
 let⟨x2,hl⟩:=fU (a:=R) (c:=I) O O
 have h2:=az.ext x2
 have ao:=hi.aT
 have l0:=h2.aT (k:=0) cD
 have n0:=ao 0 cD
 have aR:=br ac
 have aT:=hk.aT
 have aQ:=Be ac
 have aW:=eN.pP x
 have Z:=hw.dv ad m ac
 have w:=hx.J x2
 let⟨ah,ht,f0,f1⟩:=hk.bt ac
 refine⟨_,h2.dx (k:=0) cD,?_⟩
 refine(RF h2 (λu hj=>by
  by_cases A:u<6
  .rw[ao u A];omega
  .have:u=6:=V;subst this;exact hi.df)).aP λv m3⟨C,z,H,J,aK,s,q,h3,y⟩=>⟨H.aa2 hl cY|>λ_=>λm t=>H.bG m (hl m t),(C,0),z,?_⟩
 have Q:wA f e s:=hi.bG y
 have ak:Gv I [R.size,b.size] J m3:=⟨H,q,λm t=>⟨H.lt (hl m t),q m (hl m t)⟩⟩
 have kH:∀(M:bg)(ae:ag)(aj:Nat->E)(Y:Nat->ab)(F:Nat),Gv I [R.size,b.size] ae M->jZ ae M C aj Y->wA f F Y->WB f p.length c F m->F<=e+3->e<=F->
  bK dO 333 [vp C 0,.agg #[d.v,r.v],.agg #[ah.v,vi m.bQ],vi ((j 0).len:Int)] M λv m'=>gS [R.size,b.size] M m'/\∃T:Bool,v=vb T/\acS b e (.tuple #[vp C 0,vb T]) m':=λM ae aj Y F W ax an aA aV aB=>by
  have e0:(j 0).len=e:=V
  rw[e0]
  refine(ih ae M I C aj Y F e d r ah W.ext W.kA ax an aA V aB (N.le w.le) (ht.le w.le)).aP λv m'⟨T,G,z,c5,K⟩=>⟨W.eV c5,T,z,C,T,O,x2.J (W.to c5).ext,λaD=>?_⟩
  obtain⟨U,X,A,h7,_⟩:=K aD
  exact⟨G,U,X,λm t=>(W.to c5).kA m (x2.lt t),A,h7⟩
 refine⟨λB=>?_,λB=>?_⟩
 .simp only[bP]at B
  have au:=N.bS.le w.le
  obtain⟨aP,_⟩:=hw.iY.lY B
  refine(kQ (Z7 J m3) (au.le H.le) N.dk x.cE).aP λv m4⟨s4,l4,z,aE,e4,x4⟩=>⟨λm t=>x4.bG m (ak.bV m t).1,s4,z,?_⟩
  subst e4
  let⟨q,ar⟩:=dV (cT f x.cE) ad
  have av:=aE.le fN
  have l4:=av.aT
  refine⟨V,V,q,av.bt ar,?_⟩
  have af:=ak.nj x4
  have h4:=h3.ext x4
  refine(fV (e:=Qz J m4) (au.le (YM af.kA af.ext)) N.dk q).aP λv m5⟨s5,l5,z,aw,e5,x5⟩=>⟨λm t=>x5.bG m (af.bV m t).1,s5,z,?_⟩
  subst e5
  have al:=af.nj x5
  have K:=h4.ext x5
  have aN:=hw.iY.mM (bR (bR B))
  let⟨y,hy⟩:=dV x.aO 0
  let⟨y0,y1⟩:=hw.iY.aO y (aZ hy)
  have aO:=ha.aT
  have N5:=Q.aT
  have aX:=K.aT (k:=3) cD
  have F:=N5 3 cD;have n4:=N5 4 cD
  have ai:∀{M:bg},D I M->aS M a.bz (a.off+Int.toNat (0:Int)*1)=some (vi y):=λxx=>(ha.ext (w.J xx)).bt hy
  let⟨w6,A,c6⟩:=K.cG (k:=3) (i:=y.toNat) cD V q
  refine⟨_,K.dx (k:=3) cD,V,V,y,ai al.ext,y0,V,w6,?_⟩
  intro m6
  have am:=al.to c6
  let⟨w7,h7,c7⟩:=A.cG (k:=4) (i:=y.toNat) cD (by show _<(s 4).length;omega) ((j 0).len:Int)
  have aF:=A.aT (k:=4) cD
  have ay:up s 3 ((s 3).set y.toNat q) 4=s 4:=rfl
  rw[ay]at aF
  refine⟨al.eV c6,_,A.dx (k:=4) cD,V,V,y,ai am.ext,y0,V,w7,?_⟩
  intro m7
  have aM:=am.to c7
  have F3:=Kd N.dk q
  have e0:((j 0).len:Int)=e:=V
  have i7:lX f e (e+(cX f q).length) (up (up s 3 ((s 3).set y.toNat q)) 4 ((s 4).set y.toNat ((j 0).len:Int))):=by
   refine⟨λu hj=>?_,λv aH hp=>Q.YW v aH (by simpa[up]using hp),λv c ap hc hf h1=>?_,by simpa[up]using Q.df⟩
   .rcases u with _|_|_|_|_|_|u<;>first|omega|(simp[up,N5])
   .have P:((s 3).set y.toNat q)[v]? =some c:=by simpa[up]using hc
    have aa:((s 4).set y.toNat ((j 0).len:Int))[v]? =some ap:=by simpa[up]using hf
    by_cases ev:y.toNat=v
    .subst ev;rw[fu V]at P aa;simp at P aa;subst P;omega
    .rw[dU ev]at P aa;have:=Q.lG v c ap P aa h1;omega
  have aU:=aw.aT
  refine⟨am.eV c7,?_⟩
  refine gP (n:=(cX f q).length) V (λu M=>∃G U X,lX f (e+u) (e+(cX f q).length) X/\To J m5 G M/\Gv I [R.size,b.size] G M/\jZ G M C U X) ⟨J,_,_,i7,c6.J c7,aM,h7⟩ ?_
  rintro u M an μ hj ⟨aJ,aL,L8,i8,c8,C,aq⟩ aG
  refine dit (λaC=>?_) λaC=>?_
  .let⟨aa,hz⟩:=dV (cX f q) u
   refine⟨V,V,aa,(aw.le (c8.afl h4.bF)).bt hz,V,V,y,ai C.ext,?_⟩
   exact(Ff aq (λaI P=>by rw[i8.aT aI P];omega) aa 0 y).aP λv M'⟨G,U,P,h9⟩=>⟨C.eV P,aG V _ ⟨G,U,_,by rw[<-iv];exact i8.Wr aa 0 V,c8.J P,C.to P,h9⟩⟩
  .have P:u=(cX f q).length:=V
   subst P
   rw[Px B ar]at Z
   exact⟨V,V,ah,(w.J C.ext).aS f0,m.bQ,(w.J C.ext).aS f1,kH M aJ aL L8 _ C aq i8 Z V V⟩
 .simp only[bd]at B
  rw[Py B]at Z
  exact⟨V,V,ah,(w.J H).aS f0,m.bQ,(w.J H).aS f1,kH m3 J aK s e ak h3 Q Z V V⟩
end
section
def _root_.Go.Vc.abM{e f:Nat}(h:f<=e)(k:e<=9223372036854775807){m:bg}{d:(Int->bg->Prop)->(Int->bg->Nat)->Int->bg->Prop}(Q:Nat->bg->Prop)(g:Q f m)
 (j:∀(b:Nat)(a:bg)(I:Int->bg->Prop)(μ:Int->bg->Nat),f<=b->b<=e->Q b a->
  (b<e->∀c,Q (b+1) c->I (eJ ((b:Int)+1)) c/\μ (eJ ((b:Int)+1)) c<μ b a)->d I μ b a):
 ∃(I:Int->bg->Prop)(μ:Int->bg->Nat),I f m/\∀i a,I i a->d I μ i a:=by
 refine⟨λi c=>∃b:Nat,i=b/\f<=b/\b<=e/\Q b c,λi _=>(e -i).toNat,⟨f,O,bY,h,g⟩,?_⟩
 grind [nt,Qe]
variable{g:ag}{m i:bg}{h:Nat}{o:Nat->E}{L:Nat->ab}{j:af}{l:List j7}{e:Nat}{d r f b:E}{x:eN}{c:Prop}
def RD(hx:D i m)(kA:∀p,p<i.size->g p=0)(t:jZ g m h o L)(Z:wA j e L)(hN:iF i d r j l)(Y:ba i f x.aO)(hk:rQ i b x.dv)(hw:WS j l.length c e x)(q:e+4*x.w<=10^12)(aA:x.op=7\/x.op=8)(ih:∀p∈x.dv,Xh j l c p):
 bK dO 274 [vp h 0,.agg #[d.v,r.v],tp x f b] m (Gw g m h (wA j e)):=by
 apply zG (h,0)
 simp -zeta only[dR,eW]
 intro ab N
 have st:=Gv.Zn (c:=ab) (d:=N) hx kA t.bF O O
 let⟨P,z⟩:=fU (a:=ab) (c:=N) O O
 have aj:=hk.aT
 have ay:=Y.aT
 have aw:=hw.iY.mM V
 have ak:0<x.dv.length:=by
  grind [WS.iY,Ye.Nk,Ye.lY]
 have K:∀{M:bg},D N M->To g m g M:=λy=>dI.fC (P.J y) t.bF
 have ad:∀(M:bg)(F:Nat)(p:Bk),D N M->x.dv[F]? =some p->bK dO 314 [vp h 0,.agg #[d.v,r.v],tp x f b,vi F] M (acS M e):=λM F p y ae=>
  WW (hx.J (P.J y)) (t.ext (P.J y)) Z hN Y hk hw q ae (ih p (aZ ae))
 refine⟨λM=>D N M,⟨λ_=>?_,λ_=>cY⟩,?_⟩
 .let⟨w,u⟩:=dV x.aO 0
  let⟨A,B⟩:=hw.iY.aO w (aZ u)
  refine⟨cD,V,w,(Y.ext st.ext).bt u,?_⟩
  exact(wM (t.ext P) Z V A B).aP λU T⟨p,s,v⟩=>⟨λp q=>v.bG p (z p q),p,s,λ_=>.no (K v),λ_=>v⟩
 .intro T v
  let⟨b0,ai⟩:=gD ak
  refine(ad T 0 b0 v ai).aP λU m4⟨aa,ar,s,Q,X⟩=>⟨λp q=>Q.bG p (v.lt (z p q)),(aa,0),ar,s,λ_=>.no (K (v.J Q)),λam=>?_⟩
  let⟨au,ac,L1,ap,X,n1⟩:=X cB
  have an:=n1 1 cD;have ao:=n1 5 cD
  refine abM (e:=x.dv.length) (f:=1) V (aj▸hk.kK) (λ_ M=>D m4 M) cY ?_
  rintro F M av μ ax az R aq
  have w:=(v.J Q).J R
  have B:=X.ext R
  refine⟨λaf=>?_,λaf=>?_⟩
  .simp only[bh]at af
   let⟨p,q⟩:=dV x.dv F
   refine(ad M F p w q).aP λU m6⟨ag,ah,s,u,C⟩=>⟨λp q=>u.bG p (w.lt (z p q)),(ag,0),ah,s,λ_=>.no (K (w.J u)),λam=>?_⟩
   let⟨aD,aE,L2,aC,C,n2⟩:=C cB
   have al:=n2 1 cD;have aB:=n2 5 cD
   have H:=B.ext u
   refine⟨_,H.dx (k:=1) cD,_,C.dx (k:=1) cD,?_⟩
   refine(uF (H.oN (k:=1) cD V) (C.oN (k:=1) cD V)).aP λU m7⟨I,s,_,A⟩=>⟨λp q=>A.bG p (u.lt (w.lt (z p q))),I,s,λ_=>.no (K (w.J (u.J A))),λ_=>?_⟩
   have S:=H.ext A
   have W:=C.ext A
   refine⟨_,S.dx (k:=5) cD,_,W.dx (k:=5) cD,?_⟩
   refine(uF (S.oN (k:=5) cD V) (W.oN (k:=5) cD V)).aP λU m8⟨I,s,_,J⟩=>⟨λp q=>J.bG p (A.lt (u.lt (w.lt (z p q)))),I,s,λ_=>.no (K (w.J (u.J (A.J J)))),λ_=>?_⟩
   exact aq V _ (R.J (u.J (A.J J)))
  .let H:Nat->Nat:=λp=>if p<T.size then g p else au p
   have uu:=P.J v
   have y:=uu.J (Q.J R)
   have z4:=Q.aQ;have zM:=R.aQ;have S:=uu.aQ
   have I:∀p,p<T.size->H p=g p:=cB
   have H0:jZ H M h o L:=by
    refine⟨λp q=>?_,by rw[I _ (cw t.bV.lt S)];exact t.jv,(t.ext y).bV,λu A=>(t.qB u A).fR (λJ=>y.bG _ ((t.qB u A).bz J).1) λJ=>I _ (cw ((t.qB u A).bz J).1 S)⟩;grind [jZ.bF]
   have ah:∀u,u<7->iE H M bB 1 (u+1) (ac u) ((L1 u).map Ce.i):=λu A=>(B.qB u A).fR (λ_=>O) λJ=>by
    have C:=((B.qB u A).bz J).2;grind
   have c3:To g m H M:=⟨y.aQ,λp q=>I p (cw q S),H0.bF,λp q _=>y.bG p q⟩
   have ag:Gv i [ab.size,m.size] H M:=⟨st.ext.J w,λp q=>by rw[I p (cw (cw q hx.aQ) S)];exact kA p q,λp q=>⟨w.lt (z p q),by rw[I p (v.lt (z p q))];exact(st.bV p q).2⟩⟩
   refine⟨_,B.dx (k:=1) cD,?_⟩
   let⟨w5,h5,W⟩:=H0.adg (k:=1) cD (ah 1 cD)
   refine⟨w5,?_⟩
   intro m9
   have al:aa≠h:=λs=>by
    have h8:=B.jv;rw[s,ap _ (cw t.bV.lt S)]at h8;omega
   have G:aS m9 aa 5=some (E.v (ac 5)):=(bE (cq _ _ _ _ al) _).trans (B.dx (k:=5) cD)
   have A5:iE H m9 bB 1 (5+1) (ac 5) ((L1 5).map Ce.i):=by
    grind [iE.fR,cq,iE.bz,jZ.jv]
   let⟨w6,h6,c6⟩:=h5.adg (k:=5) cD A5
   exact⟨ag.eV W,_,G,w6,(ag.to W).eV c6,.Ua ((c3.J W).J c6) h6 ((Z.bI an).tok ao)⟩
end
section
section
variable{b:ag}{m g:bg}{f:Nat}{l:Nat->E}{L:Nat->ab}{e:af}{h:List j7}{n:Nat}{d r a j:E}{x:eN}{c:Prop}
def Lg(hx:D g m)(kA:∀o,o<g.size->b o=0)(Z:jZ b m f l L)(z:wA e n L)(R:iF g d r e h)(E:ba g a x.aO)(hk:rQ g j x.dv)(F:WS e h.length c n x)(u:n+4*x.w<=10^12)(ih:∀o∈x.dv,Xh e h c o):
 bK dO 250 [vp f 0,.agg #[d.v,r.v],tp x a j] m (Gw b m f (wA e (n+dn x))):=by
 apply BV (f,0)
 simp -zeta only[dR,eW]
 intro S ac
 have N:=Gv.Zn (c:=S) (d:=ac) hx kA Z.bF O O
 have x2:D m ac:=(fU (a:=S) (c:=ac) O O).1
 have h2:=Z.ext x2
 have al:=E.aT
 have an:=eN.pP x
 have N0:=z.aT 0 cD
 refine⟨_,h2.dx (k:=0) cD,?_⟩
 refine(sB (R.le N.ext.le) (h2.oN (k:=0) cD V) (E.ext N.ext) (hk.le N.ext.le) V (λo _=>rl o)).aP λA m3⟨G,t,_,U⟩=>⟨λo u=>U.bG o (N.bV o u).1,G,t,?_⟩
 have s:=N.nj U
 have C:=h2.ext U
 have K:To b m b m3:=dI.fC (x2.J U) Z.bF
 have mM:14<=x.op\/x.op=7\/x.op=8->∃y:Int,x.aO[0]? =some y/\0<=y/\y<(n:Int):=λho=>by
  have:=F.iY.mM ho;let⟨y,J⟩:=dV x.aO 0;exact⟨y,J,F.iY.aO y (aZ J)⟩
 refine⟨λok M=>∃v,To b m v M/\Gv g [S.size,m.size] v M/\(ok=true->∃ag p,jZ v M f ag p/\wA e n p),⟨λah=>?_,λao=>⟨λai=>?_,λap=>⟨λaj=>?_,λaq=>⟨λh7=>?_,λn7=>?_⟩⟩⟩⟩,?_⟩
 .simp only[bP]at ah
  let⟨y,J,B,Q⟩:=mM V
  have W:=F.iY.mM V
  have Y:∀{M:bg},D g M->aS M a.bz (a.off+Int.toNat (0:Int)*1)=some (vi y):=λP=>(E.ext P).bt J
  refine⟨cD,V,y,Y s.ext,?_⟩
  refine(wM C z V B Q).aP λA H⟨o,t,p⟩=>⟨λo u=>p.bG o (s.bV o u).1,o,t,?_⟩
  have q:=C.ext p
  have w:=s.nj p
  have N1:=z.aT 1 cD
  have l1:=q.aT (k:=1) cD
  let⟨T,X⟩:=dV (L 1) y.toNat
  let⟨wr,h5,I⟩:=q.cG (k:=1) (i:=y.toNat) cD V (eJ (T+1))
  exact⟨_,q.dx (k:=1) cD,cD,V,y,Y w.ext,_,q.dx (k:=1) cD,cD,V,y,Y w.ext,B,V,T,q.bt cD V X,B,V,wr,w.eV I,b,(K.J (dI.fC p C.bF)).J I,w.to I,λ_=>⟨l,_,h5,z.bI (by simp[N1])⟩⟩
 .simp only[bP]at ai
  let⟨y,J,B,Q⟩:=mM V
  have W:=F.iY.mM V
  refine⟨cD,V,y,(E.ext s.ext).bt J,?_⟩
  refine(zc C z V B Q).aP λA H⟨o,v,t,p,q⟩=>⟨s.eV p,o,t,v,K.J p,s.to p,λu=>?_⟩
  grind [lX.bI]
 .simp only[eH,bP]at aj
  refine(Vi s.ext s.kA C z V R E F.iY V).aP λA H⟨o,v,t,p,q⟩=>⟨s.eV p,o,t,v,K.J p,s.to p,q⟩
 .simp only[eH,bP]at h7
  refine(RD s.ext s.kA C z R E hk F u h7 ih).aP λA H⟨o,v,t,p,q⟩=>⟨s.eV p,o,t,v,K.J p,s.to p,q⟩
 .refine(Ov s.ext s.kA C z V R E F.iY).aP λA H⟨o,v,t,p,q⟩=>⟨s.eV p,o,t,v,K.J p,s.to p,q⟩
 .rintro ok M ⟨ar,p,w,q⟩
  refine⟨λ_=>.no p,λam=>?_⟩
  let⟨au,L4,q,i4⟩:=q cB
  have X:∀{W:bg}(G T:Int),D M W->dn x=1->bK dO 271 [vp f 0,vi G,vi T,vi (-1:Int)] W λ_ m'=>gS [S.size,m.size] W m'/\Gw b m f (wA e (n+dn x)) (vb true) m':=λG T P hd=>
   (Ff (q.ext P) (λH B=>by rw[i4.aT H B];omega) G T (-1)).aP λ_ m'⟨v,ag,I,h5⟩=>⟨(w.nj P).eV I,.Ua ((p.J (dI.fC P q.bF)).J I) h5 (by rw[hd];exact(i4.Wr G T V).Ij V)⟩
  refine(mO x.op M).aP λA m5⟨o,t,Y,B⟩=>⟨λo u=>B.bG o (w.bV o u).1,o,t,λad=>⟨λ_=>X G 1 B (by have:=zV x o Y;rw[bn ad]at this;exact this),λ_=>?_⟩,λak=>?_⟩
  .refine(mO x.op m5).aP λA m6⟨Q,t,aa,H⟩=>⟨λo u=>H.bG o (B.lt (w.bV o u).1),Q,t,λae=>X 0 0 (B.J H) (by have:=zV x Q aa;rw[bn ae]at this;exact this),λab=>?_⟩
   have:=aa.2 (Y.1 ad);rw[this]at ab;simp at ab
  .have af:=zV x o Y
   rw[aW (by simp[ak])]at af
   exact(mO x.op m5).aP λA m6⟨Q,t,aa,H⟩=>⟨λo u=>H.bG o (B.lt (w.bV o u).1),Q,t,λae=>X 0 0 (B.J H) cB,λab=>.Ua (p.J (dI.fC (B.J H) q.bF)) (q.ext (B.J H)) (by rw[af];exact i4)⟩
end
def RJ{A:af}{rs:List j7}{I:Prop}:∀b:Bk,Xh A rs I b:=by
 refine Bk.ind ?_;intro bA ac ih p m mb F sl L aa E ag am ap Z kA r R Y B hk P v;simp only[Bk.mV,Bk.lV,Bk.vu]at*;apply AH (F,0);simp -zeta only[dR];intro w o;have st:=Gv.Zn (c:=w) (d:=o) Z kA r.bF O O;have G:D m o:=(fU (a:=w) (c:=o) O O).1;have J:To p m p o:=dI.fC G r.bF;let⟨C,x,r1⟩:=Y.cy;simp only[Bk.mV,Bk.lV]at C x r1;have W:=v.aT;have U:=FU bA;refine gP (n:=bA.length) (W▸v.kK) (λi M=>∃g q h,wA A (aa+dc (bA.take i)) h/\To p m g M/\Gv mb [w.size,m.size] g M/\jZ g M F q h) ⟨p,sl,L,sp R,J,st,r.ext G⟩ ?_;rintro i M ad μ ai ⟨an,ao,H,f,j,c,d⟩ ab
 have ah:=xh (bA.take i);have aj:=jS (bA.take i);refine dit (λT=>?_) λT=>?_
 .let⟨u,l⟩:=dV bA i;let⟨ae,kk,Q,S,y,g1,g2,K,N⟩:=v.bt l;have al:=ub l;have ak:=U (i+1);have X:=c.ext;refine⟨V,V,_,X.aS y,_,X.aS g1,_,X.aS g2,_,X.aS K,_,X.aS N,?_⟩;refine(Lg X c.kA d f P Q S (C i u l) V (ih u (aZ l))).aP λz m4⟨b,g,e,a,s⟩=>⟨c.eV a,b,e,λ_=>.no (j.J a),λB=>?_⟩;let⟨q,h,t,i5⟩:=s cB;exact ab V _ ⟨g,q,h,by rw[(uL l),<-iv];exact i5,j.J a,c.to a,t⟩
 .have K:i=bA.length:=V;rw[K,fw]at f;have ae:=xh bA;have ak:=jS bA;have N0:=f.aT 0 cD;have l0:=d.aT (k:=0) cD;let⟨X,Q⟩:=dV (H 0) ac.toNat;refine⟨_,d.dx (k:=0) cD,x,V,X,d.bt cD V Q,λ_=>?_,λ_=>?_⟩
  .refine(zc d f V x V).aP λz m4⟨b,g,e,a,s⟩=>⟨c.eV a,b,e,λ_=>.no (j.J a),λB=>?_⟩;obtain⟨q,h,t,al,N,rfl⟩:=s cB;refine(QL t (f.bI N) V (b:=E) V).aP λz S⟨b,y,e,l,u⟩=>⟨(c.to a).eV l,b,e,b,y,O,(j.J a).J l,u⟩
  .refine(QL d f V (b:=E) V).aP λz S⟨b,y,e,l,u⟩=>⟨c.eV l,b,e,b,y,O,j.J l,u⟩
def adt(m:bg)(f:af)(q:j7)(j:Int)(v:Value)(c:bg):Prop:=∃(a:Nat)(d:Bool),v=.tuple #[vp a 0,vb d]/\D m c/\(d=true->0<=j/\j<=q.eY.bA.length/\∃e g L,(∀b,b<m.size->e b=0)/\jZ e c a g L/\wA f (q.aY.length+dc (q.eY.bA.take j.toNat)) L)
def Js{m:bg}{I S:E}{f:af}{y:List j7}{ab:Prop}{W:Nat}(o:iF m I S f y)(N:CJ f y ab W)(hW:W<=200000000000){J:Nat}{a:j7}(v:y[J]? =some a){j:Int}(hj: -9000000000000000000<=j/\j<=9000000000000000000):
 bK dO 225 [.agg #[I.v,S.v],vi J,vi j] m (adt m f a j):=by
 apply BR
 simp -zeta only[dR]
 intro s
 have C:=px s
 have g:∀b∈[m.size],b<s.size:=by simp[s]
 have aC:=o.lJ.aT
 have aA:=br v
 let⟨ai,ag,ak,hw⟩:=N.eS a (aZ v)
 let⟨aH,aI,b,c1,c2,H,e0,e1,e2,u,e4⟩:=o.lJ.bt v
 have w:∀{M:bg}{an:Obj},D m M->adt m f a j (.tuple #[vp M.size 0,vb false]) (M.push an):=λxx=>⟨_,false,O,xx.bZ _,bO⟩
 refine(JJ (o.le C.le) (λd c=>oh (N.eS d c))).bL (D.cU s) g λv1 m2 F _=>⟨_,O,λ_=>w (C.J F),λ_=>?_⟩
 have T:=C.J F
 refine(dj).bL F g λv2 m3 _ Y v3=>⟨_,O,λ_=>w (T.J Y),λ_=>?_⟩
 have A:=T.J Y
 have ax:=H.aT
 refine⟨V,V,_,A.aS u,?_⟩
 refine(dj).bL v3 g λv4 Q ac Z B=>⟨_,O,λ_=>w (A.J Z),λaF=>?_⟩
 have c:=A.J Z
 have hr:=ac.1 cB
 refine⟨V,V,_,c.aS e0,_,c.aS e1,_,c.aS e2,_,c.aS u,_,c.aS e4,?_⟩
 refine(MO (q:=a) (c1.ext c) (c2.ext c) ai ag f).aP λar R⟨r,t,G,x,sl,aa,kA,K,i5⟩=>⟨λb d=>G.bG b (B.lt (g b d)),(r,0),t,?_⟩
 obtain⟨al,_,_⟩:=ak.cy
 have ay:=Bk.pP a.eY
 have aj:=FU a.eY.bA
 have aq:Gv Q [m.size] x R:=⟨G,kA,λb d=>⟨G.lt (B.lt (g b d)),kA b (B.lt (g b d))⟩⟩
 have e6:j=((j.toNat:Nat):Int):=V
 obtain⟨jn,ad⟩:∃jn:Nat,j=jn:=⟨j.toNat,e6⟩
 subst ad
 simp only[fq]
 refine gP (n:=jn) V (λi M=>∃h z k,wA f (a.aY.length+dc (a.eY.bA.take i)) k/\To x R h M/\Gv Q [m.size] h M/\jZ h M r z k) ⟨x,sl,aa,sp i5,K.to,aq,K⟩ ?_
 rintro i M av μ aB ⟨ao,ap,L6,P,c6,e,L⟩ am
 have U:D m M:=c.J e.ext
 refine dit (λah=>?_) λah=>?_
 .let⟨au,p⟩:=dV a.eY.bA i
  let⟨aw,kk,ha,ae,g0,g1,g2,g3,g4⟩:=(H.le c.le).bt p
  have X:=e.ext
  have aG:=ub p
  have aE:=aj (i+1)
  have az:=xh (a.eY.bA.take i)
  have aD:=jS (a.eY.bA.take i)
  refine⟨V,V,_,U.aS u,V,V,_,X.aS g0,_,X.aS g1,_,X.aS g2,_,X.aS g3,_,X.aS g4,?_⟩
  refine(Lg X e.kA L P (o.le c.le) ha ae (al i au p) V (λb _=>RJ b)).aP λar m7⟨b,h,t,l,h7⟩=>⟨e.eV l,b,t,λ_=>⟨r,false,O,c.J (e.to l).ext,bO⟩,λd=>?_⟩
  let⟨z,k,h8,i8⟩:=h7 cB
  exact am V _ ⟨h,z,k,by rw[uL p,<-iv];exact i8,c6.J l,e.to l,h8⟩
 .have h:i=jn:=V
  subst h
  exact⟨r,true,O,U,λ_=>⟨V,V,ao,ap,L6,λb d=>e.kA b (c.lt d),L,sp P⟩⟩
end
section
variable{e d:Int}{c P:Nat}{m:bg}
def XW(a:0<=e)(b:0<d):0<=e.tmod d/\e.tmod d<d:=⟨Int.tmod_nonneg _ a,Int.tmod_lt_of_pos _ b⟩
def SD(a:0<=e)(b:0<d):0<=e.tdiv d/\e.tdiv d<=e:=by
 rw[aas a];exact⟨Int.ediv_nonneg a V,Int.ediv_le_self _ a⟩
def abj{b:Int}(f:0<=e/\e<4611686018427387904)(g:0<=b/\b<4611686018427387904):0<=abi e b:=by
 unfold abi;have a:(e%18446744073709551616).toNat<2^62:=V;have c:(b%18446744073709551616).toNat<2^62:=V;have d:=Nat.xor_lt_two_pow a c;grind [de]
def Rd(c:Nat)(a:E)(P:Nat)(m:bg):Prop:=(∃p:Int,dF m c ue [.s a,.i p]/\0<=p/\p<=P)/\a.len<=a.cap/\∀k:Nat,k<a.len->∃v:Int,0<=v/\v<=255/\aS (dB [c] m) a.bz (a.off+k*1)=some (.int .u8 v)
theorem Rd.aP{Q:Nat}{a:E}(h:Rd c a P m)(g:P<=Q):Rd c a Q m:=let⟨⟨p,b,d,f⟩,e⟩:=h;⟨⟨p,b,d,V⟩,e⟩
theorem Rd.lt{c P:Nat}{a:E}{m:bg}(h:Rd c a P m):c<m.size:=let⟨⟨_,b,_⟩,_⟩:=h;b.lt
theorem Rd.Bu{f:Nat}{b:E}{e M a:bg}(d:Rd c b f e)(h:Rd c b P M)(l:Fz [c] e a)(k:a[c]? =M[c]?):Rd c b P a:=by
 obtain⟨⟨p,g,i,j⟩,_⟩:=h;exact⟨⟨p,g.congr k,i,j⟩,d.2.1,λo m=>let⟨v,q,r,n⟩:=d.2.2 o m;⟨v,q,r,l.fj (λ_ h=>h) _ _ _ n⟩⟩
def Rd.ext{a:E}{d:bg}(h:Rd c a P m)(b:D m d):Rd c a P d:=h.Bu h (b.fz _) (b.bG _ h.lt)
def Rd.aV{c e P:Nat}{a:E}{d M:bg}(f:Rd c a e d)(h:Rd c a P M)(i:Fz [c] d M){b:Nat}(g:d.size<=b)(o:Nat)(l:ae):Rd c a P (aV M b o l):=
 by grind [Rd.Bu,Fz.aV,cq,Rd.lt]
def adB(c:Nat)(b:E)(P:Nat)(m:bg)(d:Int)(v:Value)(a:bg):Prop:=∃k:Int,v=vi k/\0<=k/\(k<d\/k=0)/\Rd c b (P+1) a/\Fz [c] m a
def dX{b:E}(q:Rd c b P m)(hP:P<=10^16)(d:Int):bK dO 74 [vp c 0,vi d] m (adB c b P m d):=by
 let⟨⟨p,s,l,p1⟩,X,D⟩:=q;apply Ca (c,0);simp -zeta only[eW];have g1:=s.dx 1;refine⟨p,g1,s.jb bO,?_⟩;intro h;have U:eJ (p+1)=p+1:=iz;have T:eJ (p+1 -1)=p:=by rw[show p+1 -1=p by omega];exact iz
 have t:dF h c ue [.s b,.i (p+1)]:=(U▸dF.aV (m:=m) (r:=[.i (eJ (p+1))]) (o:=1) s);have z:Fz [c] m h:=(Fz.cU [c] m).aV (bC bO) _ _;have F:Le (dB [c] m) (dB [c] h):=z.fj λ_ q=>q;have R:∀k:Int,0<=k->(k<d\/k=0)->adB c b P m d (vi k) h:=λk A C=>⟨k,O,A,C,⟨⟨p+1,t,V,V⟩,X,λi e=>let⟨v,g,j,f⟩:=D i e;⟨v,g,j,F _ _ _ f⟩⟩,z⟩;have e:=t.dx 0;have g1:=t.dx 1;have B:∀i:Int,0<=i->i<(b.len:Int)->∃v:Int,0<=v/\v<=255/\aS h b.bz (b.off+i.toNat*1)=some (.int .u8 v):=λi A C=>by
  let⟨v,g,j,f⟩:=D i.toNat V;exact⟨v,g,j,(iO.1 (F _ _ _ f)).2⟩
 refine⟨λ_=>R 0 (dT _) (bR O),λZ=>⟨_,e,λ_=>R 0 (dT _) (bR O),λY=>?_⟩⟩;simp only[dm]at Z;simp only[bd]at Y;have G:0<d:=V;refine⟨_,g1,_,e,?_⟩;rw[T];refine⟨λy=>?_,λ_=>?_⟩
 .simp only[bh]at y;let⟨v,g,j,f⟩:=B p l y;refine⟨_,e,l,y,v,f,V,?_⟩;rw[iz];have:=XW g G;exact R _ this.1 (bC this.2)
 .have w:0<(b.len:Int):=V;let⟨I,J⟩:=XW l w;let⟨v,g,j,f⟩:=B _ I J;have S:eJ (eJ (p*7)+3)=p*7+3:=by rw[de (b:=p*7) V V,iz]
  let⟨K,L⟩:=XW (e:=p*7+3) V w;let⟨u,u0,u1,hu⟩:=B _ K L;let⟨d0,d1⟩:=SD l w;rw[S];refine⟨_,e,_,e,V,I,J,v,f,_,e,_,e,V,K,L,u,hu,_,e,V,cD,V,?_⟩;have M:eJ (eJ v*131)=v*131:=by rw[de (b:=v) V V,iz]
  have N:eJ (eJ u*1117)=u*1117:=by rw[de (b:=u) V V,iz]
  have E3:eJ (p*29)=p*29:=iz;have Q:eJ (eJ (p.tdiv b.len)*53)=p.tdiv b.len*53:=by rw[de (b:=p.tdiv b.len) V V,iz]
  rw[M,N,E3,Q,de (b:=v*131+u*1117) V V,de (b:=v*131+u*1117+p*29) V V,de (b:=v*131+u*1117+p*29+p.tdiv b.len*53) V V];have H:0<=v*131+u*1117+p*29+p.tdiv b.len*53:=V;let⟨q0,q1⟩:=SD (d:=64) H cD;rw[de V V];have W:=abj ⟨H,V⟩ ⟨q0,V⟩;let⟨z0,z1⟩:=XW W G;exact R _ z0 (bC z1)
def og{a:E}(h:Rd c a P m)(j:P<=10^16){s:E}{l:ab}(d:ba (dB [c] m) s l)(o:0<l.length):
 bK dO 77 [vp c 0,s.v] m λv f=>∃k:Int,v=vi k/\k∈l/\Rd c a (P+1) f/\Fz [c] m f:=by
 apply Dw (c,0)
 have p:=d.aT
 refine(dX h j (s.len:Int)).aP λv r⟨k,g,n,q,i,b⟩=>⟨k,g,n,V,?_⟩
 let⟨x,e⟩:=dV l k.toNat
 exact⟨x,(iO.1 ((b.fj (λ_ h=>h)) _ _ _ (d.bt e))).2,x,O,aZ e,i,b⟩
end
section
variable{d:ad}{c:bg}
def _root_.Go.Vc.Gr.dY{α:Type}{X:ad}{n:bg}{v f:Nat}{R:bg->ae->α->Prop}{s:E}{u:List α}(t:sE f R)(x:Gr d n c v f R s u)(K:Fz X n c){k:Nat}(M:k<u.length){cs:ae}{a:α}(A:R (dB (s.bz::d) c) cs a):
 jb c s.bz (s.off+k*f) f/\Gr d n (aV c s.bz (s.off+k*f) cs) v f R s (u.set k a)/\Fz X n (aV c s.bz (s.off+k*f) cs)/\(∀g,g≠s.bz->(aV c s.bz (s.off+k*f) cs)[g]? =c[g]?):=by
 have S:=x.cJ
 let⟨y,e,z,l⟩:=x
 have P:∀g,g≠s.bz->(aV c s.bz (s.off+k*f) cs)[g]? =c[g]? :=by grind [cq]
 let⟨g,h,tail,q,G,H,U,I⟩:=z.bt.resolve_left y
 have Z:=t.aT A
 let⟨p,C⟩:=dV e k cB
 have Y:=l.aQ p (aZ C)
 have Q:s.off+k*f=k*f:=by rw[q];simp
 have J:s.bz=g:=by rw[q];rfl
 have N:=br C
 have ab:e=e.take k++p::e.drop (k+1):=by
  grind [List.getElem?_eq_some_iff,List.drop_eq_getElem_cons,List.take_append_drop]
 have ac:(e.take k).flatten.length=k*f:=by rw[dS λh B=>l.aQ h (gW B),qW,mH V]
 have aa:e.set k cs=e.take k++cs::e.drop (k+1):=by
  grind [List.set_eq_take_append_cons_drop]
 have L:kJ (e.flatten++tail) (k*f) cs=(e.set k cs).flatten++tail:=by
  have W:e.flatten++tail=(e.take k).flatten++(p++((e.drop (k+1)).flatten++tail)):=by
   grind
  grind [Gm,List.length,List.drop_left]
 have O:(e.set k cs).flatten.length=e.flatten.length:=by
  grind [dS,iy.aQ,List.length_set,List.mem_or_eq_of_mem_set]
 have D:Le (dB (s.bz::d) c) (dB (s.bz::d) (aV c s.bz (s.off+k*f) cs)):=by grind [dW]
 refine⟨?_,⟨y,e.set k cs,⟨(O▸z.aT),bR ⟨g,h,tail,q,G,?_,?_,I⟩⟩,⟨by simp[l.aT],λh B=>?_,λF h T i j=>?_⟩⟩,K.aV (bR S.1) _ _,P⟩
 .grind [dF.jb,List.take,List.flatten,List.length,List.length_append]
 .have w:=dF.aV (m:=c) (b:=g) (r:=cs) (o:=k*f) H
  rw[Q,J,<-L];exact w
 .grind [List.length_append]
 .grind [List.mem_or_eq_of_mem_set,iy.aQ]
 .by_cases w:k=F
  .subst w
   rw[fu N]at i
   rw[fu M]at j
   simp at i j;subst i j
   exact t.le D A
  .rw[dU w]at i j
   exact t.le D (l.eS F h T i j)
def FA(hS:∀a∈d,a<c.size){g A I:E}{P:Int}{bA:au}{x:eN}{e:Nat}(q:iN (dB d c) g bA)(ha:ba (dB d c) A x.aO)(hk:rQ (dB d c) I x.dv)(hj:e<=bA.length)(hb:bA.length<=900000000000):
 bK dO 227 [.agg #[g.v,vi P],vi e,tp x A I] c λae J=>∃R,ae=.agg #[R.v,vi P]/\iN (dB d J) R (bA.take e++[x]++bA.drop e)/\D c J:=by
 apply Jz
 simp -zeta only[dR]
 intro K h f r
 let⟨p,l,s1,s2,s3⟩:=um (a:=K) (c:=h) (d:=f) O O O
 obtain⟨w,s4⟩:=pu r
 have W:GS (h.size::d) f r (.mk f.size 0 0 0) []:=GS.bF _ _
 have u4:=p.J w
 have G:=q.aT
 have ag:=q.ms
 have F:∀a∈[h.size,K.size,c.size],a<r.size:=λa b=>w.lt (l a b)
 have H:∀{M:bg}{B:Nat},D c M->c.size<=B->Le (dB d c) (dB (B::h.size::d) M):=λxx af=>xx.dB λa b=>by
  simp only[bo]at b;rcases b with k|k|k
  .exact bR V
  .exact bR V
  .exact bC k
 have S:Int.toNat 0=0:=rfl
 have T:Int.toNat (e:Int)=e:=V
 have U:Int.toNat (g.len:Int)=g.len:=V
 rw[S,T,U]
 refine⟨V,V,V,?_⟩
 have ab:iN (dB (f.size::h.size::d) r) (g.cut 0 e 5) (bA.take e):=sp ((q.le (H (B:=f.size) u4 V)).PG (i:=0) (iD _) hj)
 refine GS.lY W (w.fz []) ab eX λr1 m5 g1 C z1 q1=>⟨λa b=>q1 a (F a b) (by have:=l a b;simp;omega),V,V,V,?_⟩
 intro L
 have s:=px L
 have y1:=g1.cJ
 have m:=C.ext
 have y:∀o,aS L c.size o=aS m5 c.size o:=λo=>bE (s.bG _ (oh (F c.size bO))) o
 refine⟨y 1,y 0,?_⟩
 refine GS.nE g1 C (ha.le (H (p.J m) V)) (hk.le (H (p.J m) V)) eX λQ N g2 u z2 q2=>⟨D.sN (m.J s) u.ext (λa b=>oh (l a b)),?_⟩
 have n:D f N:=u.ext
 have y2:=g2.cJ
 have t:∀{M z:bg},D f M->D f z->∀o,aS z c.size o=aS M c.size o:=λY Z o=>bE (by rw[Z.bG _ (l _ bO),Y.bG _ (l _ bO)]) o
 refine⟨t (m.J s) n 1,t (m.J s) n 0,?_⟩
 have ac:iN (dB (Q.bz::h.size::d) N) (g.cut e g.len 5) (bA.drop e):=by
  have:=(q.le (H (B:=Q.bz) (p.J n) V)).PG (i:=e) (j:=g.len) V V;rwa[G,eQ bY,<-G]at this
 refine GS.lY g2 u ac eX λr3 m8 X v z3 q3=>⟨D.sN n v.ext l,t n v.ext 1,?_⟩
 intro m9
 have aa:∀a∈h.size::d,a<f.size:=λa b=>by
  rcases bo.1 b with k|k
  .omega
  .have:=hS a k;omega
 refine⟨r3,O,?_,(p.J v.ext).aV V _ _⟩
 have hD:=X.cr kd.aP aa cD eX
 have ad:Le (dB (h.size::d) m8) (dB d m9):=dW bO λa b=>aX _ b
 exact iN.le ad (by simpa[nB]using hD)
def JL(B:∀b∈d,b<c.size){t K o:E}{z:af}{w:List j7}{q:j7}{m:Nat}{j:Bk}(h:iF (dB d c) t K z w)(C:w[m]? =some q)(h3:q.aY.length<=3/\q.df.length<=3)(ae:iN (dB d c) o j.bA):
 zk 229 [.agg #[t.v,K.v],vi m,.agg #[o.v,vi j.bQ]] c d z λag=>ag=w.set m ⟨q.aY,q.df,q.bQ,j⟩:=by
 apply Ck
 simp -zeta only[dR]
 intro F g i u
 let⟨p,n,s1,s2,s3⟩:=um (a:=F) (c:=g) (d:=i) O O O
 obtain⟨x,s4⟩:=pu u
 have g0:GR (g.size::d) i u (.mk i.size 0 0 0) []:=Gr.bF _ bY
 have u4:=p.J x
 have al:=h.lJ.aT;have ak:=h.p7
 have ai:=br C
 have ac:∀b∈[g.size,F.size,c.size],b<u.size:=λb e=>x.lt (n b e)
 have H:∀{M:bg}{y:Nat},D c M->c.size<=y->Le (dB d c) (dB (y::g.size::d) M):=λxx ah=>xx.dB λb e=>by
  simp only[bo]at e;rcases e with f|f|f
  .exact bR V
  .exact bR V
  .exact bC f
 refine Gr.lY lz.aP cD g0 (x.fz []) (h.lJ.le (H (y:=i.size) u4 V)) eX λl v g1 A z1 q1=>⟨λb e=>q1 b (ac b e) (by have:=n b e;simp;omega),V,V,?_⟩
 simp only[iA]at g1
 have P:D i v:=A.ext
 have y1:=g1.cJ
 let⟨am,an,s,R,T,c3,U,W,X,Y,Z⟩:=(h.lJ.le (H (y:=l.bz) (p.J P) V)).bt C
 have kA:∀{N:Value}{s I:Nat},aS (dB (l.bz::g.size::d) v) s I=some N->aS v s I=some N:=λaa=>(iO.1 aa).2
 refine⟨_,kA U,_,kA W,_,kA X,_,kA Y,_,kA Z,?_⟩
 refine(CD (b:=l.bz::g.size::d) (λb e=>?_) (R.le fN) (T.le fN) V).aP λrv m6⟨J,L,f,h1,h2,r⟩=>?_
 .simp only[bo]at e
  rcases e with f|f|f
  .omega
  .omega
  .have:=B b f;omega
 subst f
 have g2:=g1.ext lz.aP r
 have aj:=g2.aT cD
 let⟨wr,g3,f3,q3⟩:=Gr.dY (k:=m) (cs:=[.s J,.s L,.i q.bQ,.s o,.i j.bQ]) (a:=⟨q.aY,q.df,q.bQ,j⟩) lz.aP g2 (A.cg r) V ⟨J,L,o,O,h1,h2,ae.le (H (y:=l.bz) ((p.J P).J r) V)⟩
 refine⟨λb e=>r.bG b (oh (n b e)),_,_,_,_,_,O,V,V,wr,?_⟩
 intro m7
 refine⟨λb e=>q3 b (oh (n b e)),?_⟩
 intro G
 have ab:∀b∈g.size::d,b<i.size:=λb e=>by
  rcases bo.1 e with f|f
  .omega
  .have:=B b f;omega
 have ad:Le (dB (g.size::d) m7) (dB d G):=dW bO λb e=>aX _ e
 have Q:D c G:=(p.J f3.ext).aV V _ _
 exact⟨t,l,_,O,⟨h.bS.le Q.fj,DS.le ad (g3.cr lz.aP ab cD eX),h.dk,eX⟩,O,Q⟩
end
def aao{c:af}{d b:Nat}{l:au}(k:WL c d True b l){j:Nat}{a v:Int}(e:14<=a/\a<=17)(m:0<=v/\v<((b+dc (l.take j):Nat):Int)):
 WL c d True b (l.take j++[iX a v]++l.drop j)/\dc (l.take j++[iX a v]++l.drop j)=dc l/\sw (l.take j++[iX a v]++l.drop j)=sw l+2:=by
 have f:dc [iX a v]=0:=nF e.1 [v]
 have g:sw [iX a v]=2:=uo a [v]
 have h:=fg (l.take j) (l.drop j)
 have i:=gF (l.take j) (l.drop j)
 grind [List.take_append_drop,WL.Ni,WL.Dh,Iv,WL.fx,fg,WL.Bg,gF]
def Y2(h:Nat)(e:ap)(m:bg)(S:ad)(b:Nat)(f:E)(P:Nat)(g:af)(Q:List j7->Prop):Prop:=
 bK dO h e m λv a=>∃d r c,v=.agg #[d.v,r.v]/\iF (dB S a) d r g c/\Q c/\Rd b f P a/\Fz [b] m a
def Vg{f:ad}{m:bg}(hS:∀l∈f,l<m.size){c P:Nat}{L:E}(aw:c∈f)(h0:Rd c L P m)(hP:P+4<=10^16){s p:E}{u:af}{I:List j7}(hn:iF (dB f m) s p u I){Y:Nat}(N:CJ u I True Y)(hW:Y<=200000000000):
 Y2 194 [vp c 0,.agg #[s.v,p.v]] m f c L (P+4) u λT=>CJ u T True (Y+4):=by
 apply Ow (c,0)
 simp -zeta only[dR]
 intro d am
 let⟨x2,hl⟩:=fU (a:=d) (c:=am) O O
 have s1:=pz d
 have s2:am.size=m.size+2:=cB
 have bM:=hn.lJ.aT;have bL:=hn.p7
 have bN:=h0.lt
 have nb:∀a∈[d.size,m.size],a<am.size/\a∉[c]:=λa h=>⟨hl a h,by have:=hl a h;simp at h⊢;omega⟩
 have GO:CJ u I True (Y+4):=⟨N.jw,λq B=>let⟨g,a,l,e⟩:=N.eS q B;⟨g,a,l,V⟩⟩
 refine(dX (h0.ext x2) V (p.len:Int)).aP λi g⟨aa,e,f0,f1,h3,z3⟩=>⟨z3.eV nb,aa,e,?_⟩
 have u3:Fz [c] m g:=(x2.fz _).J z3
 have bB:aa<(I.length:Int):=by have:=N.jw;omega
 let⟨q,B⟩:=dV I aa.toNat
 let⟨av,aq,a8,hw⟩:=N.eS q (aZ B)
 have Hn:∀{M:bg},Fz [c] m M->iF (dB f M) s p u I:=by grind [iF.le,Fz.fj]
 have HS:∀{M:bg}(Z:Nat),m.size<=Z->Fz [c] m M->Le (dB f m) (dB (Z::d.size::f) M):=λZ bv gg=>gg.dB (λa h=>by simp at h;subst h;exact aw) λl A=>by
  grind
 have b9:=z3.aQ
 let⟨b2,b4,a,c1,c2,c3,e0,e1,e2,e3,e4⟩:=(hn.le (HS g.size V u3)).lJ.bt B
 have kA:∀{M:bg}{f:ad}{i:Value}{a H:Nat},aS (dB f M) a H=some i->aS M a H=some i:=by grind [iO]
 refine⟨f0,V,a,kA e3,q.eY.bQ,kA e4,?_⟩
 intro m4 m5
 have x5:D g m5:=by grind [D.push,D.aV]
 have s5:m5.size=g.size+1:=by grind [bD]
 have bw:=c3.aT
 have bI:=c3.kK
 have bx:=Bk.pP q.eY
 have bP:=jS q.eY.bA
 have aW:∀a∈[g.size,d.size,m.size],a<m5.size/\a∉[c]:=cB
 rw[iz]
 refine(dX (h3.ext x5) V _).aP λi m6⟨C,e,j0,j1,h6,z6⟩=>⟨z6.eV aW,C,e,?_⟩
 have u6:Fz [c] m m6:=(u3.cg x5).J z6
 have b_:=z6.aQ
 have a0:=(Hn u6).le fN
 obtain⟨fn,aN⟩:∃fn:Nat,aa=fn:=⟨aa.toNat,V⟩
 subst aN
 simp only[fq]at B
 have ar:∀a∈[g.size,d.size,m.size],a<m6.size/\a∉[c]:=cB
 have be:∀{M:bg},Rd c L (P+4) M->Fz [c] m M->∃d' R T,Value.agg #[s.v,p.v]=.agg #[d'.v,R.v]/\iF (dB f (aV M d.size 0 [.s s,.s p])) d' R u T/\CJ u T True (Y+4)/\Rd c L (P+4) (aV M d.size 0 [.s s,.s p])/\Fz [c] m (aV M d.size 0 [.s s,.s p]):=λhr o=>
  have g':=o.aV (b:=d.size) (bR V) 0 [.s s,.s p]
  ⟨s,p,I,O,Hn g',GO,h0.aV hr o V _ _,g'⟩
 refine(Js a0 N hW B V).aP λi G⟨lb,ok,e,y,hA⟩=>⟨y.eV λa h=>(ar a h).1,(lb,0),ok,e,λ_=>?_,λbK=>?_⟩
 .intro m8
  exact be ((h6.ext y).aP V) (u6.cg y)
 obtain⟨_,jl,ro,sl,ak,bW,h7,i7⟩:=hA cB
 intro m8
 have x8:=px m8
 have g8:GI f G m8 (.mk G.size 0 0 0) []:=GI.gN f G
 have z7:=y.aQ
 have bz:=xh q.eY.bA
 have aM:=Zr q.eY.bA C.toNat
 have N0:=i7.aT 0 cD
 have u7:Fz [c] m G:=u6.cg y
 have aI:∀l∈f,l<G.size:=by grind [Fz.aQ]
 refine gL (n:=(ak 0).length) V (λag U M=>D G M/\∃F,GI f G M U F/\F.length<=ag/\∀J∈F,0<=J/\J<(((ak 0).length:Nat):Int)) ⟨x8,[],g8,bY,bO⟩ ?_
 rintro ag U m9 bs μ bG ⟨z,F,o,bJ,ae⟩ an
 have h9:=h7.ext z
 have l0:=h9.aT (k:=0) cD
 have au:∀a∈[g.size,d.size,m.size],a<m9.size/\a∉[c]:=by grind [D.lt]
 refine⟨_,h9.dx (k:=0) cD,λaX=>?_,λbC=>?_⟩
 .simp only[bh]at aX
  let⟨J,t⟩:=dV (ak 0) ag
  refine⟨_,h9.dx (k:=0) cD,V,V,J,h9.bt cD V t,λ_=>?_,λ_=>an V _ _ ⟨z,F,o,V,ae⟩⟩
  refine(wM h9 i7 V (v:=(ag:Int)) V V).aP λi aA⟨Z,e,w⟩=>⟨w.eV λa h=>(au a h).1,Z,e,λ_=>?_,λ_=>an V _ _ ⟨z.J w,F,o.ext w,V,ae⟩⟩
  intro Q
  have gy:=o.cJ
  refine GI.nE (o.ext w) ((z.J w).fz []) V λR a_ W K _ X=>⟨D.sN ((z.J w).bZ _) K.ext (λa h=>y.lt (ar a h).1),an V _ _ ⟨K.ext,_,W,eX,λJ t=>?_⟩⟩
  rcases bU.1 t with t|t
  .exact ae J t
  .simp at t;omega
 .have bF:=o.aT cD
  have u9:Fz [c] m m9:=u7.cg z
  have r9:Rd c L (P+2) m9:=(h6.ext (y.J z)).aP V
  refine⟨λ_=>?_,λa1=>?_⟩
  .grind [Rd.aP]
  simp only[bd]at a1
  have gy:=o.cJ
  have gb:U.bz∉[c]:=by simp;have:=u7.aQ;omega
  refine(dX r9 V (U.len:Int)).aP λi aA⟨al,e,i0,i1,aG,AZ⟩=>⟨AZ.eV au,al,e,i0,V,?_⟩
  let⟨w,az⟩:=dV F al.toNat
  let⟨w0,w1⟩:=ae w (aZ az)
  have aO:aS m9 U.bz (U.off+al.toNat*1)=some (vi w):=((o.cr aI V).le fN).bt az
  refine⟨w,(bE (AZ.bG _ gy.2 gb) _).trans aO,?_⟩
  have bf:=u9.J AZ
  have ca:=AZ.aQ
  have aU:∀a∈[g.size,d.size,m.size],a<aA.size/\a∉[c]:=cB
  have ew:eJ (eJ ((a.len:Int) -C)+1)=(a.len:Int) -C+1:=by rw[de (b:=(a.len:Int) -C) V V,iz]
  rw[ew]
  refine(dX aG V _).aP λi Q⟨i2,e,bQ,bS,aH,aj⟩=>⟨aj.eV aU,i2,e,?_⟩
  have bi:=bf.J aj
  have cb:=aj.aQ
  have ap:∀a∈[g.size,d.size,m.size],a<Q.size:=cB
  have ac:∀{M:bg},Q.size<=M.size->∀l∈g.size::d.size::f,l<M.size:=λhz l A=>by
   simp only[bo]at A;grind [Fz.aQ]
  have bk:Fz [c] g Q:=(((((x5.fz _).J z6).cg y).cg z).J AZ).J aj
  have aL:=c3.le (bk.fj λl A=>by simp at A;subst A;simp[aw])
  obtain⟨jn,aP⟩:∃jn:Nat,C=jn:=⟨C.toNat,V⟩
  obtain⟨kn,aT⟩:∃kn:Nat,i2=kn:=⟨i2.toNat,V⟩
  subst aP aT
  have a7:jn+kn<=q.eY.bA.length:=V
  have aF:eJ ((jn:Int)+(kn:Int))=((jn+kn:Nat):Int):=by grind [de]
  simp only[fq]at N0 aM
  let⟨a9,r0,r1⟩:=a8.cy
  have bA:dc (q.eY.bA.take jn)<=dc (q.eY.bA.take (jn+kn)):=by
   have:=Zr (q.eY.bA.take (jn+kn)) jn;rwa[aat,mH V]at this
  let⟨bn,bl,bq⟩:=aao (j:=jn+kn) (a:=15) (v:=w) a9 cD ⟨w0,V⟩
  have a6:(q.eY.bA.take (jn+kn)++[iX 15 w]++q.eY.bA.drop (jn+kn)).take jn=q.eY.bA.take jn:=by
   rw[nB,rD eX,aat,mH V]
  let⟨bp,bm,br⟩:=aao (j:=jn) (a:=14) (v:=w) bn cD ⟨w0,by rw[a6];omega⟩
  generalize ay:q.eY.bA.take (jn+kn)++[iX 15 w]++q.eY.bA.drop (jn+kn)=st1 at*
  have bH:st1.length=q.eY.bA.length+1:=by rw[<-ay];simp;omega
  have K:∀{M X:bg},D M X->Q.size<=M.size->∀a∈[g.size,d.size,m.size],∀H,aS X a H=aS M a H:=λxx hz a h H=>bE (xx.bG a (cw (ap a h) hz)) H
  have kS:∀{M X:bg},D M X->Q.size<=M.size->gS [g.size,d.size,m.size] M X:=λxx hz a h=>xx.bG a (cw (ap a h) hz)
  rw[aF]
  refine(lK (c:=g.size::d.size::f) (ac bY) 15 w).aP λi a_⟨bt,bT,e,aJ,aQ,J⟩=>⟨kS J bY,_,_,_,_,_,e,K J bY _ bO _,K J bY _ bO _,?_⟩
  have aE:=J.aQ
  refine(FA (d:=g.size::d.size::f) (P:=q.eY.bQ) (x:=iX 15 w) (ac aE) (aL.le J.fj) aJ aQ a7 V).aP λi ba⟨bc,e,ax,ai⟩=>⟨kS ai aE,_,_,e,?_⟩
  rw[ay]at ax
  intro ah
  have b5:=ai.aQ
  have b6:ah.size=ba.size:=bD _ _ _ _
  have aB:=(bi.cg J).cg ai
  have bj:Fz [c] m ah:=aB.aV (bR V) _ _
  have bb:Rd c L (P+2+1+1) ah:=h0.aV ((aH.ext J).ext ai) aB V _ _
  have a4:iN (dB (g.size::d.size::f) ah) bc st1:=ax.le (dW bO λ_ ab=>ab)
  refine(lK (c:=g.size::d.size::f) (ac V) 14 w).aP λi bX⟨bu,bV,e,aK,aR,t⟩=>⟨kS t V,_,_,_,_,_,e,K t V _ bO _,K t V _ bO _,K t V _ bO _,K t V _ bO _,?_⟩
  have b7:=t.aQ
  refine(FA (d:=g.size::d.size::f) (P:=q.eY.bQ) (x:=iX 14 w) (ac V) (a4.le t.fj) aK aR (e:=jn) V V).aP λi bZ⟨b3,e,a5,W⟩=>⟨kS W V,_,_,e,K W V _ bO _,K W V _ bO _,?_⟩
  have b8:=W.aQ
  have aC:=(bj.cg t).cg W
  refine(JL (d:=g.size::d.size::f) (ac V) (j:=.mk (st1.take jn++[iX 14 w]++st1.drop jn) q.eY.bQ) (hn.le (HS g.size V aC)) B ⟨av,aq⟩ a5).aP λi b0⟨d',R,T,e,aY,a3,ao⟩=>⟨kS ao V,d',R,e,?_⟩
  intro b1
  have aD:=aC.cg ao
  refine⟨d',R,T,O,aY.le (dW bO λl A=>by simp[A]),?_,h0.aV (((bb.ext t).ext W).ext ao) aD V _ _,aD.aV (bR V) _ _⟩
  subst a3
  refine⟨by simp;exact N.jw,λq' a2=>?_⟩
  rw[pJ]
  rcases jc a2 with ab|ab
  .exact GO.eS q' ab
  .subst ab
   refine⟨av,aq,.of bp ⟨r0,by rw[bm,bl];exact r1⟩,?_⟩
   show Bk.w (.mk _ _)<=_
   rw[Bk.vu,br,bq];omega
section
variable{d:bg}{t:E}{b:Bk}{g x:Int}{e:ad}{h f c:Nat}
def tZ(e:iN d t b.bA):wX 282 [.agg #[t.v,vi b.bQ]] d λc=>0<=c/\c<=b.bA.length/\∀(i:Nat)(x:eN),b.bA[i]? =some x->(i:Int)<c->14<=x.op/\x.op<=17:=by
 apply Dr;simp -zeta only[dR];intro a;have s:=px a;have m:∀k∈[d.size],k<a.size:=by simp[a]
 have o:=e.aT;refine gP (o▸e.kK) (λc M=>D a M/\∀(i:Nat)(x:eN),b.bA[i]? =some x->i<c->14<=x.op/\x.op<=17) ⟨cY,λi x _ h=>V⟩ ?_;rintro c M I μ C ⟨j,A⟩ q
 have u:=s.J j;have R:∀{g:bg},D d g->∃n:Int,vi (c:Int)=vi n/\(0<=n/\n<=b.bA.length/\∀(i:Nat)(x:eN),b.bA[i]? =some x->(i:Int)<n->14<=x.op/\x.op<=17)/\D d g:=cB;refine⟨λh=>?_,λh=>R u⟩;simp only[bh]at h;let⟨x,p⟩:=dV b.bA c;obtain⟨f,H,y,E,l,_⟩:=e.bt p;refine⟨V,V,_,u.aS l,?_⟩;refine(xO x.op M).bL j m λw J z v r=>⟨_,O,λF=>q V _ ⟨r,λi K G B=>?_⟩,λ_=>R (u.J v)⟩;grind
def If(a:iN d t b.bA){o:Int}(G:0<=g/\g<=b.bA.length)(r:∀(k:Nat)(s:eN),b.bA[k]? =some s->(k:Int)<g->0<s.aO.length):
 wX 283 [.agg #[t.v,vi b.bQ],vi g,vi o,vi x] d λc=>-1<=c/\(0<=c->c<g/\∃s:eN,b.bA[c.toNat]? =some s/\s.op=o/\s.aO[0]? =some x):=by
 apply Ln
 simp -zeta only[dR]
 intro l
 have y:=px l
 have J:=a.aT
 have F:=a.kK
 obtain⟨m,v⟩:∃m:Nat,g=m:=⟨g.toNat,V⟩
 subst v
 refine gP V (λc M=>D l M) cY ?_
 rintro c M I μ C e n
 have u:=y.J e
 refine⟨λh=>?_,λh=>⟨-1,O,⟨V,λh=>V⟩,u⟩⟩
 simp only[bh]at h
 let⟨s,j⟩:=dV b.bA c
 let⟨f,L,i,E,p,g1,g2,q,A⟩:=a.bt j
 have B:=i.aT
 have:=r c s j V
 let⟨z,w⟩:=dV s.aO 0
 refine⟨V,V,_,u.aS p,λH=>⟨V,V,_,u.aS q,cD,V,z,(i.ext u).bt w,λK=>?_,λ_=>n V _ e⟩,λ_=>n V _ e⟩
 grind
def TH(e:iN d t b.bA){a:Int}(y:0<=a/\a<=b.bA.length):wX 316 [.agg #[t.v,vi b.bQ],vi a,vi g] d λc=>-1<=c/\c<b.bA.length:=by
 apply MC;simp -zeta only[dR];intro j;have p:=px j;have m:=e.aT;obtain⟨h,l⟩:∃h:Nat,a=h:=⟨a.toNat,V⟩;subst l;refine abM V (m▸e.kK) (λc M=>D j M) cY ?_;rintro c M I μ _ w k o
 have u:=p.J k;refine⟨λi=>?_,λi=>⟨-1,O,⟨V,V⟩,u⟩⟩;simp only[bh]at i;let⟨A,n⟩:=dV b.bA c;let⟨f,z,v,x,q,g1,g2,r,s⟩:=e.bt n;have N:=o V _ k
 grind [D.aS]
def ME(b:Bk)(hS:∀k∈e,k<d.size)(u:iN d t b.bA)(Z:b.w<=10^12):bK dO 294 [.agg #[t.v,vi b.bQ]] d λab v=>∃s,ab=.agg #[s.v,vi b.bQ]/\GS e d v s b.bA/\D d v:=by
 let⟨bA,p⟩:=b;rw[Bk.vu]at Z;simp only[Bk.mV,Bk.lV]at*;apply vm;simp -zeta only[dR];intro g f h E o;let⟨x1,W⟩:=fU (a:=g) (c:=f) O O;have s0:=pz g;have s1:f.size=d.size+2:=cB;have s2:=pz h;have s3:=pz E;have F:D h o:=by grind [D.push,D.aV]
 have ac:D f o:=(D.push f _).J F;have q:GS (h.size::g.size::e) f o (.mk f.size 0 0 0) []:=(GS.bF _ f).ext kd.aP F;have H:dF o h.size fm [.s (.mk f.size 0 0 0),.i p]:=dF.aV (m:=E) (dF.push h _ _);have Q:∀k∈g.size::e,k<f.size:=by grind [dE,D.aQ]
 have Y:=u.aT;have ae:=jS bA;refine gP (Y▸u.kK) (λc M=>D f M/\∃s,GS (h.size::g.size::e) f M s (bA.take c)/\dF M h.size fm [.s s,.i p]) ⟨ac,_,q,H⟩ ?_;rintro c w ad μ hk ⟨z,s,n,B⟩ aa
 have j:=x1.J z;have X:∀b∈[g.size,d.size],b<w.size:=by grind [D.lt]
 have hy:=n.cJ;have z5:=z.aQ;have A:=B.lt;refine dit (λP=>?_) λP=>?_
 .let⟨x,C⟩:=dV bA c;let⟨pa,pk,R,U,q,g1,g2,M,N⟩:=u.bt C;have af:=TQ C;refine⟨s,B.dx 0,V,V,_,j.aS q,_,j.aS g1,_,j.aS g2,_,j.aS M,_,j.aS N,?_⟩;refine(Cz (dE (dE Q z5 A) bY hy.2) (R.ext j) (U.le j.le) V (λb _=>Ay b)).bL (D.cU w) X λI J x' y S T K l _=>⟨_,_,_,_,_,O,bE (l.bG _ A) _,?_⟩;subst K;intro m7;refine Gr.bV (h:=[.i 0,.i 0,.i 0,.s .nil,.s .nil]) (j:=0) (o:=[.s s,.i p]) (v:=x) kd.aP cD (n.ext kd.aP l) ((z.J l).fz []) ⟨I,J,O,S,T⟩ cB (B.ext l) bO cD ⟨V,bO⟩ (λk r=>by have G:=W k r;have L:=l.aQ;omega) λr' v g' G L z' q'=>aa V _ ⟨L.ext,r',?_,G⟩
  grind [bX]
 .rw[eQ V]at n;refine⟨s,B.dx 0,p,B.dx 1,?_⟩;intro y;have l:Fz [g.size] w y:=by grind [Fz.cU,Fz.aV]
  have C:GS e f y s bA:=n.re kd.aP l bO cB λk r=>bC (by simp[r]);grind [Gr.cW,kd.aP,D.aV]
def aap{d:af}{b:Prop}{l:au}(i:WL d h b f l){x a:eN}(e:l[c]? =some x)(o:WS d h b (f+dc (l.take c)) a)(hd:dn a=dn x):
 WL d h b f (l.set c a)/\dc (l.set c a)=dc l/\sw (l.set c a)+x.w=sw l+a.w:=by
 have n:=br e
 have j:l.set c a=l.take c++([a]++l.drop (c+1)):=by rw[List.set_eq_take_append_cons_drop,bn n];rfl
 have g:l=l.take c++([x]++l.drop (c+1)):=by
  let⟨k,m⟩:=mQ.1 e;rw[<-m];show l=l.take c++(l[c]::l.drop (c+1));rw[<-HJ k,j9]
 have p:dc l=dc (l.take c)+(dn x+dc (l.drop (c+1))):=by
  conv=>lhs;rw[g]
  rw[fg,fg,nM,xk];omega
 have q:sw l=sw (l.take c)+(x.w+sw (l.drop (c+1))):=by
  conv=>lhs;rw[g]
  rw[gF,gF,qu,zL];omega
 rw[j]
 refine⟨(i.Ni c).fx ((WL.mM o).fx ?_),?_,?_⟩
 .have:=i.Bg (c+1)
  rw[uL e]at this
  rw[nM,xk,hd,ui,iv];exact this
 .rw[fg,fg,nM,xk];omega
 .rw[gF,gF,qu,zL];omega
def _root_.Go.Vc.Gr.jI{α:Type}{q:bg}{j b:Nat}{R:bg->ae->α->Prop}{s:E}{l:List α}(k:Gr e q d j b R s l){x:α}(o:l[c]? =some x):∃a,R (dB (s.bz::e) d) a x/\jG d s.bz (s.off+c*b) a:=by
 let⟨r,i,m,f⟩:=k;let⟨a,g⟩:=dV i c cB;refine⟨a,f.eS c a x g o,λp h n=>?_⟩;have:=m.kZ (c*b+p) h (jt f.aQ g n);grind [Nat.add_assoc]
def ON(hS:∀c∈e,c<d.size)(q:iN d t b.bA){I:af}(ah:WB I h True f b)(hw:b.w<=10^12)(hx:0<=x/\x<(f:Int))(aR:f<=10^12)(g:Int):
 bK dO 281 [.agg #[E.v t,vi b.bQ],vi x,vi g] d λU Q=>∃s l,U=.agg #[E.v s,vi l.bQ]/\iN Q s l.bA/\(iN (dB e d) t b.bA->iN (dB e Q) s l.bA)/\(WB I h True f l/\l.w<=b.w)/\D d Q:=by
 apply Hu
 simp -zeta only[kL]
 intro m r
 let⟨w,o⟩:=fU (a:=m) (c:=r) O O
 have s1:=pz m
 have s2:r.size=d.size+2:=by simp[r,s1]
 let⟨N,aE⟩:=ah.cy
 have z:∀{Y Z:bg},D r Y->D r Z->∀A,aS Z d.size A=aS Y d.size A:=λn h' A=>bE (by rw[h'.bG _ (o _ bO),n.bG _ (o _ bO)]) A
 refine(tZ (q.le w.le)).bL (D.cU r) o λn1 m3 L H _=>⟨_,O,z cY H _,z cY H _,?_⟩
 refine(If (q.le (w.J H).le) ⟨L.1,L.2.1⟩ λai s hi az=>?_).bL H o λn2 m4 aA x4 C=>⟨_,O,?_⟩
 .have:=L.2.2 ai s hi az
  have:=(N ai s hi).iY.mM V
  omega
 refine(tZ (q.le (w.J C).le)).bL C o λn3 m5 ag x5 F=>⟨_,O,z C F _,z C F _,?_⟩
 refine(TH (q.le (w.J F).le) ⟨ag.1,ag.2.1⟩).bL F o λn4 u a1 x6 v6=>⟨_,O,?_⟩
 have T:=w.J v6
 have am:∃s l,Value.agg #[E.v t,vi b.bQ]=.agg #[E.v s,vi l.bQ]/\iN (aV u m.size 0 [.s t,.i b.bQ]) s l.bA/\(iN (dB e d) t b.bA->iN (dB e (aV u m.size 0 [.s t,.i b.bQ])) s l.bA)/\(WB I h True f l/\l.w<=b.w)/\D d (aV u m.size 0 [.s t,.i b.bQ]):=
  have J:=T.aV V 0 [.s t,.i b.bQ]
  ⟨t,b,O,q.le J.le,λn=>n.le J.fj,⟨ah,bY⟩,J⟩
 refine⟨λ_=>am,λh2=>⟨λ_=>am,λh4=>?_⟩⟩
 simp only[dm]at h2 h4
 have z6:=v6.aQ
 have ac:∀c∈m.size::e,c<u.size:=λc i=>by
  rcases bo.1 i with j|j
  .omega
  .have:=hS c j;omega
 refine(ME b ac (q.le T.le) hw).aP λU m7⟨B,j,g7,W⟩=>⟨λc i=>W.bG c (oh (o c i)),_,_,j,?_⟩
 intro m8 m9
 obtain⟨x9,s9⟩:=pv m9
 have y7:=g7.cJ
 have z7:=W.aQ
 have g9:=g7.ext kd.aP x9
 have ae:∀c∈[m7.size,m.size,d.size],c<m9.size/\c≠B.bz:=λc i=>by simp at i;omega
 refine(lK (c:=B.bz::m.size::e) (λc i=>?_) 17 x).aP λU ak⟨aa,aj,j,ax,ay,v⟩=>⟨λc i=>v.bG c (ae c i).1,_,_,_,_,_,j,bE (v.bG _ V) _,?_⟩
 .rcases bo.1 i with j|j
  .omega
  .have:=ac c j;omega
 have ab:=g9.ext kd.aP v
 have a6:=ab.aT cD
 let⟨a0,R,M,a2,aT⟩:=aA.2 V
 have ao:D u ak:=(W.J x9).J v
 have aB:=br M
 let⟨aL,K,ar,aJ⟩:=Gr.dY (k:=n2.toNat) (cs:=[.i 17,.i 0,.i 0,.s aa,.s aj]) (a:=iX 17 x) kd.aP ab (ao.fz []) aB ⟨aa,aj,O,ax,ay⟩
 refine⟨V,V,aL,?_⟩
 intro aG
 have AZ:=v.aQ
 have a8:aG.size=ak.size:=bD _ _ _ _
 refine⟨λc i=>aJ c (ae c i).2,V,V,?_⟩
 have aF:=N _ R M
 have w1:=aF.iY.mM (bC V)
 have d1:dn (iX 17 x)=dn R:=by
  unfold dn;rw[aW (λn:tv _=>by have:=n.2;simp only[iX]at this;omega),aW (λn:tv _=>oh n.2)]
 let⟨an,aN,a_⟩:=aap N M (Iv cD ⟨hx.1,V⟩) d1
 have a4:=eN.pP R
 have aY:(iX 17 x).w=2:=rfl
 let⟨y,P⟩:=dV (b.bA.set n2.toNat (iX 17 x)) n4.toNat eX
 have aZ:=K.aT cD
 obtain⟨aQ,⟨pa,pk,rfl,aC,aD⟩,mu⟩:=K.jI P
 have e0:=mu 0 _ O;have e1:=mu 1 _ O;have e2:=mu 2 _ O;have e3:=mu 3 _ O;have e4:=mu 4 _ O
 refine⟨_,e0,_,e1,_,e2,_,e3,_,e4,?_⟩
 intro a7 aH
 obtain⟨G,a9⟩:=pv aH
 have av:=K.ext kd.aP G
 have aq:eJ (1+x)=1+x:=de V V
 rw[aq]
 have ap:=(ar.cg G)
 let⟨aM,aw,au,aK⟩:=Gr.dY (k:=n4.toNat) (a:=⟨y.op,y.cE,1+x,y.aO,y.dv⟩) kd.aP av ap eX ⟨pa,pk,O,ba.le G.fj aC,rQ.le G.fj aD⟩
 refine⟨V,V,aM,?_⟩
 intro al
 have p:=an _ y P
 let⟨aP,aO,bb⟩:=aap (a:=⟨y.op,y.cE,1+x,y.aO,y.dv⟩) an P ⟨⟨p.iY.op,p.iY.aO,p.iY.mM,⟨by show 0<=1+x;omega,by show 1+x<=_;omega⟩,p.iY.Nk,p.iY.lY,p.iY.jF⟩,p.dv⟩ O
 refine⟨λc i=>aK c (by simp at i;omega),?_⟩
 intro aI
 have a5:(⟨y.op,y.cE,1+x,y.aO,y.dv⟩:eN).w=y.w:=rfl
 have aU:=Bk.pP b
 have a3:=jS b.bA
 have X:iN (dB (m.size::e) al) B _:=aw.rU kd.aP (S:=m.size::e) (λi=>by
  rcases bo.1 i with j|j
  .omega
  .have:=hS _ j;omega) cD eX
 have ad:Le (dB (m.size::e) al) (dB e aI):=dW bO λc i=>aX _ i
 refine⟨B,.mk _ b.bQ,O,(X.le ad).le fN,λ_=>X.le ad,⟨.of aP (by rw[aO,aN];exact aE),?_⟩,(T.J au.ext).aV V _ _⟩
 rw[Bk.vu];omega
end
def Za(c:af)(d:List j7)(N:Nat):Prop:=∀(b:Bk),b.w<=N->∀(S:ad)(m:bg),(∀a∈S,a<m.size)->∀(f r t eO:E)(l:ab)(a:Nat),iF m f r c d->iN m t b.bA->ba m eO l->WB c d.length True a b->a+4*b.w<=10^12->l.length+4*b.w<=10^12->
 rG 233 [.agg #[f.v,r.v],.agg #[t.v,vi b.bQ],eO.v] m S λe=>WB c d.length True a e/\e.w<=b.w
def OO{z:ad}{f:bg}(hS:∀c∈z,c<f.size){Q ac pa pk eO:E}{h:af}{u:List j7}{a:eN}{t:ab}{A:Nat}(p:iF f Q ac h u)(ha:ba f pa a.aO)(hk:rQ f pk a.dv)(C:ba f eO t)(X:WS h u.length True A a)(hb:A+4*a.w<=10^12)(aR:t.length+4*a.w<=10^12){k:Nat}{i:Bk}(T:a.dv[k]? =some i)(ih:Za h u i.w):
 rG 254 [.agg #[Q.v,ac.v],tp a pa pk,vi k,eO.v] f z λj=>WB h u.length True (A+Gc h a.op a.cE k) j/\j.w<=i.w:=by
 apply Hv
 simp -zeta only[dR]
 intro aa r b
 let⟨d,hl,s1,g,s3⟩:=um (a:=aa) (c:=r) (d:=b) O O O
 let⟨ah,ht,f0,f1⟩:=hk.bt T
 have aP:=br T
 have aQ:=hk.aT
 have aM:=ha.aT
 have aW:=eN.pP a
 have aO:=Be T
 have ae:=X.dv k i T
 have ay:∀{M:bg},D b M->∀c∈r.size::z,c<M.size:=λxx c o=>by
  grind [D.aQ]
 have kH:∀(M:bg)(Y s:E)(Z:ab)(j:Bk)(Lx:ad),D f M->D b M->(∀c∈Lx,c<M.size)->iN M s j.bA->ba M Y Z->Z.length<=t.length+1->WB h u.length True (A+Gc h a.op a.cE k) j->j.w<=i.w->
  bK dO 233 [.agg #[Q.v,ac.v],.agg #[s.v,vi j.bQ],Y.v] M λv q=>gS Lx M q/\∃(g:E)(b2:Bk),v=.agg #[g.v,vi b2.bQ]/\∀P,P=aV q r.size 0 [.s g,.i b2.bQ]->∃s3 b3,(Value.agg #[g.v,vi b2.bQ])=.agg #[s3.v,vi b3.bQ]/\iN (dB z P) s3 b3.bA/\(WB h u.length True (A+Gc h a.op a.cE k) b3/\b3.w<=i.w)/\D f P:=λM Y s Z j Lx xm aK aw hs aC aT aH aG=>by
  have h3:=V0 p.dk a.op a.cE k
  refine(ih j aG (r.size::z) M (ay aK) Q ac s Y Z _ (p.le xm.le) hs aC aH V V).aP λv q⟨g,b2,e,aE,az,x'⟩=>⟨x'.eV aw,g,b2,e,λP ax=>⟨g,b2,O,?_,⟨az.1,V⟩,?_⟩⟩
  .rw[ax];exact aE.le (dW bO λc o=>aX _ o)
  .grind [D.J,D.aV]
 refine⟨λR=>?_,λR=>?_⟩
 .refine⟨V,V,_,d.aS f0,_,d.aS f1,?_⟩
  refine(kH b eO ah t i _ d cY hl (ht.le d.le) (C.ext d) V ae bY).aP λv q⟨n,g,b2,e,h2⟩=>⟨n,_,_,e,?_⟩
  grind
 .have R:a.op=8:=cB
  obtain⟨aN,_⟩:=X.iY.lY R
  have aL:=X.iY.mM (bR (bR R))
  let⟨y,hy⟩:=dV a.aO 0
  let⟨y0,y1⟩:=X.iY.aO y (aZ hy)
  refine⟨cD,V,y,(ha.ext d).bt hy,V,V,_,d.aS f0,_,d.aS f1,?_⟩
  intro m4 I
  have x5:D b I:=by grind [D.push,D.aV]
  have s5:I.size=b.size+1:=by grind [bD]
  have J:=d.J x5
  have G:∀{M:bg},D I M->∀c∈[b.size,r.size,aa.size,f.size],c<M.size:=λxx c o=>by have:=xx.aQ;simp at o;omega
  refine(fI (C.ext J) y).jY.bL (D.cU I) (G cY) λbb m6 l _=>⟨_,O,λ_=>?_,λ_=>?_⟩
  .have K:=J.J l
   let⟨cn,aA⟩:=dV (cT h a.cE) k
   have w:∀{M M':bg},D I M->D M M'->∀c∈[b.size,r.size,aa.size,f.size],∀ao,aS M' c ao=aS M c ao:=by grind [bE,D.bG]
   refine(kQ (e:=[]) bO (p.bS.le K.le) p.dk a.cE).bL l (G cY) λs7 l7 m7 W e x7 v7=>⟨_,O,w l x7 _ bO _,w l x7 _ bO _,w l x7 _ bO _,?_⟩
   subst e
   have W:=W.le fN
   have l7:=W.aT
   refine⟨V,V,cn,W.bt aA,?_⟩
   refine(fV (e:=[]) (p.bS.le ((J.J v7).le.J EB)) p.dk cn).bL v7 (G cY) λs8 l8 m8 aU e x8 v8=>⟨_,O,w v7 x8 _ bO _,w v7 x8 _ bO _,?_⟩
   subst e
   have z8:=v8.aQ
   have h3:=V0 p.dk a.op a.cE k
   have ak:iN (dB [b.size] m8) ah i.bA:=ht.le ((EB (m:=f)).J ((J.J v8).dB λc o=>bR cB))
   refine(ON (e:=[b.size]) cB (ak.le fN) ae V (x:=y) ⟨y0,V⟩ V (s8.len:Int)).aP λv m9⟨s9,b9,e,_,aF,B,x9⟩=>⟨λc o=>x9.bG c (G v8 c o),_,_,e,?_⟩
   intro H
   have v9:=v8.J x9
   have aj:D b H:=by grind [D.J,D.aV]
   have U:iN H s9 b9.bA:=((aF ak).le (dW (a:=[b.size]) bO λ_ F=>F)).le fN
   have a2:H.size=m9.size:=bD _ _ _ _
   have F:∀{M:bg},H.size<=M.size->∀c∈[b.size,r.size,aa.size,f.size],c<M.size:=cB
   refine(tZ U).bL (D.cU H) (F bY) λa0 aY ag au _=>⟨_,O,?_⟩
   obtain⟨aI,_⟩:=B.1.cy
   refine(If (U.le au.le) (o:=17) (x:=y) ⟨ag.1,ag.2.1⟩ λal s hj aD=>?_).bL au (F bY) λa1 aJ _ a3 L=>⟨_,O,λ_=>?_,λ_=>?_⟩
   .have:=ag.2.2 al s hj aD
    have:=(aI al s hj).iY.mM V
    omega
   .have N:=aj.J L
    refine(pU (S:=[]) bO ((C.ext (d.J N)).le EB) y V).bL L (F bY) λaq am an av ap a4 ai=>⟨_,O,?_⟩
    have ar:=aj.J ai
    have aB:ba an aq am:=(av.cr bO (oh ap.2)).le fN
    refine(kH an aq s9 am b9 _ (d.J ar) ar (F ai.aQ) (U.le ai.le) aB ap.2 B.1 B.2).aP λv q⟨n,g,b2,e,h2⟩=>⟨n,_,_,e,?_⟩
    grind
   .have N:=aj.J L
    refine(kH aJ eO s9 t b9 _ (d.J N) N (F L.aQ) (U.le L.le) (C.ext (d.J N)) V B.1 B.2).aP λv q⟨n,g,b2,e,h2⟩=>⟨n,_,_,e,?_⟩
    grind
  .have K:=J.J l
   refine(kH m6 eO ah t i _ K (x5.J l) (G l) (ht.le K.le) (C.ext K) V ae bY).aP λv q⟨n,g,b2,e,h2⟩=>⟨n,_,_,e,?_⟩
   grind
section
variable{b:List j7}
theorem Za.iU{c:af}{N a:Nat}(h:Za c b N)(e:a<=N):Za c b a:=λd f=>h d (fD f e)
def Lj{A:af}:∀N:Nat,Za A b N:=by
 intro N;induction N with
 |zero=>intro p hb;have:=p.NP;omega
 |succ N l=>
 intro p hb h ad hS aw aO aP eO aM Z hn U ak ap ay aC;let⟨bA,y⟩:=p;have ac:=ap.cy;rw[Bk.vu]at*;simp only[Bk.mV,Bk.lV]at*;apply Dx;simp -zeta only[kL,nO];intro X f j g m5 G;let⟨x3,hl,s1,s2,s3⟩:=um (a:=X) (c:=f) (d:=j) O O O;have s4:=pz g;have ae:=py G;have au:D j G:=(D.push j _).J ae;have g0:GS (g.size::f.size::h) j G (.mk j.size 0 0 0) []:=(GS.bF _ j).ext kd.aP ae;have B0:dF G g.size fm [.s (.mk j.size 0 0 0),.i y]:=dF.aV (m:=m5) (dF.push g _ _);have ah:∀c∈f.size::h,c<j.size:=dE hS x3.aQ (hl _ bO);have al:=U.aT;have an:=FU bA;have aG:=jS bA;refine gP (al▸U.kK) (λk M=>D j M/\∃s n,GS (g.size::f.size::h) j M s n/\dF M g.size fm [.s s,.i y]/\n.length=k/\WL A b.length True Z n/\dc n=dc (bA.take k)/\sw n<=sw (bA.take k)) ⟨au,_,[],g0,B0,O,WL.gN,bO,bO⟩ ?_;rintro k M av μ hk ⟨xM,s,n,C,B,aE,wl,F,ao⟩ ar
 have v:=x3.J xM;have hy:=C.cJ;have ax:=B.lt;refine dit (λE=>?_) λE=>?_
 .let⟨x,u⟩:=dV bA k;let⟨pa,pk,ha,Q,e0,e1,e2,e3,e4⟩:=U.bt u;have aJ:=TQ u;have aL:=eN.pP x;have az:=xf x.dv;have aK:=ub u;have aI:=uL u;have W:=ac.1 k x u;have aB:=xh (bA.take k);have aF:=jS (bA.take k);have aH:=an (k+1);refine⟨V,V,_,v.aS e0,_,v.aS e1,_,v.aS e2,_,v.aS e3,_,v.aS e4,?_⟩;intro m7 o m9;obtain⟨x8,s8⟩:=pv o;have x9:=px m9;have ag:GB (s.bz::g.size::f.size::h) o m9 (.mk o.size 0 0 0) []:=GB.bF o;have P:∀c∈s.bz::g.size::f.size::h,c<o.size:=λc d=>by
   simp only[bo]at d;rcases d with e|e|e|e
   .omega
   .omega
   .omega
   .have:=hS c e;omega
  have R:=Q.aT;refine gL (R▸Q.kK) (λw ks r=>D o r/\∃lk,GB (s.bz::g.size::f.size::h) o r ks lk/\lk.length=w/\(∀(q:Nat)(p:Bk),lk[q]? =some p->WB A b.length True (Z+dc (bA.take k)+Gc A x.op x.cE q) p)/\bw lk<=bw (x.dv.take w)) ⟨x9,[],ag,O,bO,bO⟩ ?_;rintro w ks I I2 μ2 hj ⟨z,lk,K,aD,ab,aj⟩ aq;have t:=v.J (x8.J z);have yk:=K.cJ;have z2:=z.aQ;have T:∀{r:bg},o.size<=r.size->∀c∈[M.size,f.size,X.size,ad.size],c<r.size:=λE c d=>by simp at d;omega
  refine dit (λh2=>?_) λh2=>?_
  .let⟨p,H⟩:=dV x.dv w;have aA:=Be H;have ai:=yP H;refine(OO (z:=ks.bz::s.bz::g.size::f.size::h) (λc d=>?_) (hn.le t.le) (ha.ext t) (Q.le t.le) (ak.ext t) W V V H (l.iU V)).bL (D.cU I) (T z2) λss b' aN am aa Y _=>⟨_,_,O,?_⟩
   .rcases bo.1 d with e|e
    .omega
    .have:=P c e;omega
   refine GB.nE (K.ext vx.aP Y) ((z.J Y).fz []) am V λr' r g2 f2 aQ q2=>⟨D.sN ((z.J Y).bZ _) f2.ext (T bY),aq V _ _ ⟨f2.ext,_,g2,eX,λq b2 l=>?_,?_⟩⟩
   .rcases dJ q lk.length with J|J
    .rw[dZ J]at l;exact ab q b2 l
    .rw[dP J]at l;have:q -lk.length=0:=by have:=br l;simp at this;omega
     rw[this]at l;simp at l;subst l;have:q=w:=V;subst this;exact aa.1
   .rw[sV,yO,Ea,ai];have:=aa.2;omega
  .have aa:lk.length=x.dv.length:=V;rw[eQ V]at aj;have J:D M I:=x8.J z;have H:=B.ext J;have G2:=C.ext kd.aP J;refine⟨s,H.dx 0,?_⟩;refine(dC (s.bz::g.size::f.size::h) (ha.ext t) V).bL (D.cU I) (T z2) λs' l' ai ga e l _=>⟨_,O,bE (l.bG _ V) _,bE (l.bG _ V) _,bE (l.bG _ V) _,bE (l.bG _ H.lt) _,?_⟩;subst e;intro am;refine Gr.bV (h:=[.i 0,.i 0,.i 0,.s .nil,.s .nil]) (L:=[M.size,f.size,X.size,ad.size]) (j:=0) (w:=72) (o:=[.s s,.i y]) (v:=⟨x.op,x.cE,x.dh,x.aO,lk⟩) kd.aP cD (G2.ext kd.aP l) (((xM.J J).J l).fz []) ⟨s',ks,O,(ga.cr (λc d=>oh (P c d)) V),rQ.le l.fj (K.cr vx.aP P cD (by show lk.length<=_;omega))⟩ V (H.ext l) bO cD ⟨V,bO⟩ (λc d=>by have Y:=l.aQ;simp at d;omega) λr' m' g' Y f' z' q'=>ar V _ ⟨f'.ext,r',_,g',Y,eX,wl.Dh (W.US id W.iY.dh aa ab|>λE=>by rw[F];exact E),?_,?_⟩
   .rw[fg,nM,xk,F];have e:dn (⟨x.op,x.cE,x.dh,x.aO,lk⟩:eN)=dn x:=rfl;omega
   .rw[gF,qu,zL];have h5:(⟨x.op,x.cE,x.dh,x.aO,lk⟩:eN).w=1+x.aO.length+bw lk:=eN.pP _;omega
 .have R:k=bA.length:=V;subst R;rw[fw]at F ao;refine⟨s,B.dx 0,y,B.dx 1,?_⟩;intro m7;have l:Le (dB (g.size::f.size::h) M) (dB h m7):=dW bO λc d=>aX _ (aX _ d);have o:=C.ne B cD;refine⟨s,.mk n y,O,iN.le l (C.rU kd.aP (λd=>?_) cD (by show n.length<=_;omega)),⟨.of wl ((F▸ac.2)),by rw[Bk.vu];omega⟩,v.aV V _ _⟩;rcases bo.1 d with e|e
  .exact o e
  .have:=ah _ e;omega
def RO{f:ad}{m:bg}(I:∀c∈f,c<m.size){j r:E}{h:af}(i:iF m j r h b){W:Nat}(hW:W<=200000000000)(hk:CJ h b True W):zk 197 [.agg #[j.v,r.v]] m f h λx=>CJ h x True W:=by
 apply Lk;simp -zeta only[dR];intro g a2;let⟨y,J⟩:=fU (a:=g) (c:=a2) O O;have s1:=pz g;have ak:=i.lJ.aT;have av:=i.p7;refine(jK (b:=g.size::f) (dE I y.aQ (J _ bO)) (i.le y.le).bS i.dk).aP λ_ L⟨dd,ab,ae,P⟩=>?_;subst ab;refine⟨P.eV J,_,O,?_⟩;intro N ao ap;have u2:=y.J P;let⟨x5,B0,g0,s3,s5⟩:=om (b:=N.size::g.size::f) lz.aP (d:=L) (a:=N) (c:=ao) (j:=ap) O O O;have K:∀c∈[g.size,m.size],c<L.size:=by grind [D.lt]
 have ac:∀c∈g.size::f,c<L.size:=λc w=>P.lt (dE I y.aQ (J _ bO) c w);refine nV (R:=λa d M=>∃j r x,Value.agg #[a.v,d.v]=.agg #[j.v,r.v]/\iF (dB f M) j r h x/\CJ h x True W/\D m M) lz.aP cD cD I ⟨V,K _ bO⟩ u2 s3 ae ak V x5 B0 g0 (λ_ q=>q.aY.length<=3/\q.df.length<=3/\WB h b.length True q.aY.length q.eY/\q.eY.w<=W) (λa l aa n U X d e k=>⟨a,l,aa,O,⟨U,X,i.dk,V⟩,Mh hk.jw d e,k⟩) λan M st aa ar μ ag au Q T B aq=>?_
 let⟨q,hq⟩:=dV b an ag;let⟨aj,ai,am,hw⟩:=hk.eS q (aZ hq);have u:=u2.J Q;let⟨aw,ax,a,c1,c2,c3,z,A,F,p,s⟩:=i.lJ.bt hq;have G:∀{v:Value}{a o:Nat},aS m a o=some v->aS M a o=some v:=λH=>u.aS H;refine⟨st,B.dx 1,V,V,_,G z,_,G A,_,G F,_,G p,_,G s,V,V,_,G p,_,G s,?_⟩;intro k;have hy:=T.cJ;have Y:=B.lt;have zM:=Q.aQ;obtain⟨d,s7⟩:=pu k;have ah:ba k (.mk M.size 0 0 0) []:=pX;have e:∀{v:Value}{a o:Nat},aS m a o=some v->aS k a o=aS M a o:=by grind [D.aS]
 have C:∀{a o:Nat},a<M.size->aS k a o=aS M a o:=λH=>bE (d.bG _ H) _;have t:m.size<M.size:=by grind [D.lt]
 refine⟨e p,e s,C t,C t,C t,e z,e A,e F,e p,e s,C t,C Y,?_⟩;refine(Lj q.eY.w q.eY bY (st.bz::N.size::g.size::f) k (λc w=>?_) j r a (.mk M.size 0 0 0) [] q.aY.length (i.le (u.J d).le) (c3.le (u.J d).le) ah am V cB).bL (Q.J d) K λss b' M1 al Z l u1=>⟨_,_,O,?_⟩
 .grind
 have n:∀{v:Value}{a o:Nat},aS m a o=some v->aS M1 a o=aS k a o:=by grind [D.aS]
 refine⟨n z,n A,n F,n p,n s,bE (l.bG _ (d.lt t)) _,bE (l.bG _ (d.lt Y)) _,?_⟩;exact Ao ac (λc w=>by have U:=K c w;have X:=u1.aQ;omega) u1 (T.ext lz.aP (d.J l)) (B.ext (d.J l)) V (c1.ext (u.J (d.J l))) (c2.ext (u.J (d.J l))) al ⟨V,V⟩ V λs' X g' U x'=>aq s' X _ g' U x' ⟨aj,ai,Z.1,fD Z.2 hw⟩
end
section
variable{a:bg}{t:E}{b:Bk}{c:ad}
def Xm(a:Int)(l:au):Nat:=l.countP λs=>s.op=a
def adI:∀l:au,Xm 14 l+Xm 15 l<=l.length
 |[]=>by simp[Xm]
 |s::l=>by
  have:=adI l;grind [Xm,List.length_cons]
def Zq(a:Int)(l:au)(s:eN):Xm a (l++[s])=Xm a l+(if s.op=a then 1 else 0):=by
 simp[Xm,List.countP_append,List.countP_cons]
def MY(f:iN a t b.bA):wX 278 [.agg #[t.v,vi b.bQ]] a λk=>0<=k/\k<=b.bA.length/\∀(i:Nat)(c:eN),b.bA[i]? =some c->(i:Int)<k->c.op=14\/c.op=15:=by
 apply FE;simp -zeta only[dR];intro d;have A:=px d;have r:∀m∈[a.size],m<d.size:=by simp[d]
 have s:=f.aT;refine gP (n:=b.bA.length) (s▸f.kK) (λk M=>D d M/\∀(i:Nat)(c:eN),b.bA[i]? =some c->i<k->c.op=14\/c.op=15) ⟨cY,λi c _ h=>V⟩ ?_;rintro k M I μ J ⟨j,G⟩ y
 have u:=A.J j;have R:∀{g:bg},D a g->∃e:Int,vi (k:Int)=vi e/\(0<=e/\e<=b.bA.length/\∀(i:Nat)(c:eN),b.bA[i]? =some c->(i:Int)<e->c.op=14\/c.op=15)/\D a g:=cB;refine⟨λh=>?_,λh=>R u⟩;simp only[bh]at h;let⟨c,v⟩:=dV b.bA k;let⟨l,w,E,K,o,g1,g2,p,q⟩:=f.bt v;refine⟨V,V,_,u.aS o,_,u.aS g1,_,u.aS g2,_,u.aS p,_,u.aS q,?_⟩;refine(Fh (x:=c) l w M).bL j r λC P F B z=>⟨_,O,λL=>y V _ ⟨z,λi Q N H=>?_⟩,λ_=>R (u.J B)⟩;grind
def Cw(Y:∀j∈c,j<a.size)(z:iN a t b.bA){e:Nat}(hm:e<=b.bA.length)(f:Int)(I:∀(i:Nat)(s:eN),b.bA[i]? =some s->i<e->0<s.aO.length)(hb:b.bA.length<=10^12):
 oA 279 [.agg #[t.v,vi b.bQ],vi e,vi f] a c λl=>(∀y∈l,∃(i:Nat)(s:eN),i<e/\b.bA[i]? =some s/\y∈s.aO)/\l.length<=Xm f (b.bA.take e):=by
 apply GX
 simp -zeta only[dR]
 intro d A
 have C:=px d
 have K:∀j∈[a.size],j<d.size:=by simp[d]
 have P:=px A
 have H:GI c d A (.mk d.size 0 0 0) []:=GI.gN c d
 have ac:=z.aT
 refine gL (n:=e) V (λk s M=>D d M/\∃l,GI c d M s l/\(∀y∈l,∃(i:Nat)(s:eN),i<e/\b.bA[i]? =some s/\y∈s.aO)/\l.length<=Xm f (b.bA.take k)) ⟨P,[],H,bO,bO⟩ ?_
 rintro k s M R μ hk ⟨h,l,m,p,L⟩ B
 have u:=C.J h
 refine dit (λo=>?_) λo=>?_
 .let⟨x,r⟩:=dV b.bA k
  let⟨T,kk,w,ab,E,U,W,F,X⟩:=z.bt r
  have Z:=w.aT
  have:=I k x r V
  let⟨y,N⟩:=dV x.aO 0
  have J:Xm f (b.bA.take (k+1))=Xm f (b.bA.take k)+(if x.op=f then 1 else 0):=by rw[bX r,Zq]
  have aa:Xm f (b.bA.take k)<=(b.bA.take k).length:=List.countP_le_length
  have ad:=RS k b.bA
  refine⟨V,V,_,u.aS E,λq=>⟨V,V,_,u.aS F,cD,V,y,(w.ext u).bt N,?_⟩,λq=>B V _ _ ⟨h,l,m,p,?_⟩⟩
  .intro m3
   simp only[bP]at q
   rw[bn q]at J
   refine GI.nE m (h.fz []) V λae S G v _ _=>⟨D.sN (h.bZ _) v.ext K,B V _ _ ⟨v.ext,_,G,λQ g=>?_,eX⟩⟩
   rcases bU.1 g with g|g
   .exact p Q g
   grind [aZ]
  grind [beq_eq_false_iff_ne]
 .have g:k=e:=V
  subst g
  exact⟨s,l,O,m.cW (λ_ o=>o) C.aQ,⟨p,L⟩,u⟩
def Xn:∀{l:au},(∀x∈l,dn x=0)->dc l=0
 |[],_=>O
 |x::l,h=>by rw[nM,h x cK,Xn λy a=>h y (aX _ a)]
def aae:∀{l:au},(∀x∈l,2<=x.w)->2*l.length<=sw l
 |[],_=>bO
 |x::l,h=>by
  have b:=h x cK;have c:=aae λy a=>h y (aX _ a);grind [qu,List.length_cons]
def QV(hS:∀e∈c,e<a.size){P:E}{o:ab}{ds:af}{nr f:Nat}(p:iN (dB c a) t b.bA)(hf:ba a P o)(a5:o.length<=3)(ac:WB ds nr True (f+o.length) b)(hw:b.w<=100000000000)(ha:f<=10^12){g:Int}(hx:0<=g/\g<(f:Int)):
 rG 253 [.agg #[t.v,vi b.bQ],vi g,P.v,vi f] a c λb'=>WB ds nr True (f+o.length) b'/\b'.w<=b.w+8:=by
 apply Jw
 simp -zeta only[dR]
 intro q ae
 let⟨w,B⟩:=fU (a:=q) (c:=ae) O O
 have s1:=pz q
 clear_value ae
 let⟨ad,bc⟩:=ac.cy
 have aa:=p.le fN
 have a1:=Bk.pP b
 have bf:=jS b.bA
 have bl:=p.aT
 have a3:=p.ms
 have a6:=hf.aT
 refine(MY (aa.le w.le)).bL (D.cU ae) B λmn m3 a8 x3 _=>⟨_,O,?_⟩
 obtain⟨kn,aK⟩:∃kn:Nat,mn=kn:=⟨mn.toNat,V⟩
 subst aK
 have ap:∀(d:Nat)(s:eN),b.bA[d]? =some s->d<kn->s.op=14\/s.op=15:=cB
 have an:∀(d:Nat)(s:eN),b.bA[d]? =some s->d<kn->0<s.aO.length:=λd s T aM=>by
  have:=ap d s T aM;have:=(ad d s T).iY.mM V;omega
 refine(Cw (c:=[]) bO (aa.le (w.J x3).le) (e:=kn) V 14 an V).bL x3 B λsd C m4 gd hd x4 v4=>⟨_,O,?_⟩
 refine(Cw (c:=[]) bO (aa.le (w.J v4).le) (e:=kn) V 15 an V).bL v4 B λW J m5 gr hr x5 v5=>⟨_,O,?_⟩
 have a2:=adI (b.bA.take kn)
 have bk:(b.bA.take kn).length=kn:=cB
 have aq:ba m5 W J:=(gr.cr bO V).le fN
 refine(fI aq g).bL v5 B λbi m6 a0 x6 A=>⟨_,O,λ_=>⟨t,b,O,p.le (((w.J A).aV V _ _).fj),⟨ac,V⟩,(w.J A).aV V _ _⟩,λa7=>⟨λ_=>⟨t,b,O,p.le (((w.J A).aV V _ _).fj),⟨ac,V⟩,(w.J A).aV V _ _⟩,λa9=>?_⟩⟩
 have a_:0<o.length:=by grind [beq_eq_false_iff_ne]
 have aN:∀s∈b.bA.take kn,∃d:Nat,d<kn/\b.bA[d]? =some s:=λs p=>by
  let⟨d,T⟩:=cH.1 p;have:=br T;grind [List.getElem?_take_of_lt]
 have aH:dc (b.bA.take kn)=0:=Xn λs p=>by
  let⟨d,h1,h2⟩:=aN s p;have:=ap d s h2 h1;exact aW λQ:tv s.op=>by have:=Q.2;omega
 have be:2*kn<=sw (b.bA.take kn):=by
  have:=aae (l:=b.bA.take kn) λs p=>by
   grind [eN.pP]
  omega
 have bj:sw b.bA=sw (b.bA.take kn)+sw (b.bA.drop kn):=by rw[<-gF,j9]
 have a4:dc b.bA=dc (b.bA.take kn)+dc (b.bA.drop kn):=by rw[<-fg,j9]
 have aw:∀y:Int,(∃(d:Nat)(s:eN),d<kn/\b.bA[d]? =some s/\y∈s.aO)->0<=y/\y<((f+o.length:Nat):Int):=λy⟨d,s,h1,h2,h3⟩=>by
  have h4:=(ad d s h2).iY.aO y h3;have h5:=Zr (b.bA.take kn) d;grind [Nat.min_eq_left]
 refine(wu (S:=[]) bO ((aq.ext x6).le EB) g V).bL A B λaV aQ m8 al ao x8 v8=>⟨_,O,?_⟩
 have y2:=al.cJ
 have aO:ba (dB [aV.bz] m8) sd C:=((gd.cr bO V).le fN).le (((x5.J x6).le.J (EB (m:=m6))).J (x8.dB λe h=>bR cB))
 refine Bi (j:=o.length) V (λk sd W M=>D m6 M/\∃C J,ba (dB [W.bz] M) sd C/\GI [] m6 M W J/\(∀y∈C,0<=y/\y<((f+o.length:Nat):Int))/\C.length<=Xm 14 (b.bA.take kn)/\(∀y∈J,0<=y/\y<((f+o.length:Nat):Int))/\J.length<=Xm 15 (b.bA.take kn)+k) ⟨x8,C,aQ,aO,al,λy I=>aw y (hd.1 y I),hd.2,λy I=>aw y (hr.1 y (ao.1 y I)),VI ao.2 hr.2⟩ ?_
 rintro k F z r ak μ hk ⟨L,U,K,H,G,R,am,ar,bd⟩ ag
 have X:=(w.J A).J L
 have y3:=G.cJ
 have v:∀e∈[q.size,a.size],e<r.size:=by grind [D.lt]
 refine⟨λQ=>?_,λQ=>?_⟩
 .simp only[bh]at Q
  let⟨y,I⟩:=dV o k
  have ew:eJ ((f:Int)+(k:Int))=(f:Int)+k:=by grind [de]
  rw[ew]
  have Z:∀{M:bg},D r M->aS M P.bz (P.off+Int.toNat (k:Int)*1)=some (vi y):=λu=>(hf.ext (X.J u)).bt I
  have au:∀{M:bg},D r M->ak F z (eJ ((k:Int)+1)) M/\μ F z (eJ ((k:Int)+1)) M<μ F z k r:=λu=>ag V _ _ _ ⟨L.J u,U,K,H.le u.fj,G.ext u,R,am,ar,V⟩
  have Wr:∀{M:bg},D r M->mj (M.push (.cells (db [.i ((f:Int)+k)]) bB)) bB [.i 0] 8 z (.mk M.size 0 1 1) λai N=>gS [q.size,a.size] (M.push (.cells (db [.i ((f:Int)+k)]) bB)) N/\ak F ai (eJ ((k:Int)+1)) N/\μ F ai (eJ ((k:Int)+1)) N<μ F z k r:=λ{M} u=>by
   refine GI.nE (G.ext u) ((L.J u).fz []) V λai N g' f' z' q'=>⟨D.sN ((L.J u).bZ _) f'.ext (λe h=>A.lt (B e h)),ag V _ _ _ ⟨f'.ext,U,_,(H.le u.fj).le (tG λe h hn=>?_),g',R,am,λaj hz=>?_,eX⟩⟩
   .grind
   .grind
  refine⟨V,V,y,Z cY,λ_=>?_,λ_=>⟨V,V,y,Z cY,λ_=>?_,λ_=>au cY⟩⟩
  .refine(fI (H.le fN) _).bL (D.cU r) v λbb az _ Y _=>⟨_,O,λ_=>?_,λ_=>⟨V,V,y,Z Y,λ_=>?_,λ_=>au Y⟩⟩
   .refine(wu (S:=[z.bz]) cB (H.le Y.fj) _ V).bL Y v λaB ay aA ax ah aC av=>⟨_,O,ag V _ _ _ ⟨L.J av,ay,K,ax.cr cB (oh ah.2),G.ext av,λaj hz=>R aj (ah.1 aj hz),oh ah.2,ar,V⟩⟩
   grind
  grind [D.cU]
 .have aP:ba r z K:=(G.cr bO V).le fN
  have aj:∀{M:bg},r.size<=M.size->∀e∈q.size::c,e<M.size:=λhz e h=>by
   grind [Array.size,D.aQ]
  refine(iR (c:=q.size::c) (aj bY) 14 (H.le fN) V).bL (D.cU r) v λaR bm bo Z aC ay _=>⟨_,O,?_⟩
  subst aC
  have bD:=Z.cJ
  refine(lK (c:=aR.bz::q.size::c) (λe h=>?_) 16 g).aP λbC bp⟨aZ,bb,aB,aG,aJ,N⟩=>⟨λe h=>N.bG e (ay.lt (v e h)),_,_,_,_,_,aB,?_⟩
  .grind
  intro bq
  have az:=ay.J N
  refine GS.nE (x:=iX 16 g) (Z.ext kd.aP N) (az.fz []) aG aJ cB λaT bs ah I bH bw=>⟨D.sN (az.bZ _) I.ext v,?_⟩
  have bF:=ah.cJ
  refine(iR (c:=aT.bz::q.size::c) (λe h=>?_) 15 (aP.ext I.ext) V).bL I.ext v λbA bn bt aE aD aY ax=>⟨_,O,?_⟩
  .grind
  subst aD
  refine GS.lY (ah.ext kd.aP aY) (ax.fz []) (aE.cr kd.aP (λe h=>?_) cD cB) cB λav au ai u bI bx=>⟨D.sN ax u.ext v,V,V,V,?_⟩
  .grind
  have bG:=ai.cJ
  have z9:=X.aQ
  have aL:Le (dB c a) (dB (av.bz::q.size::c) au):=(X.J u.ext).dB λe h=>by
   grind
  have ek:Int.toNat (kn:Int)=kn:=V
  have el:Int.toNat (t.len:Int)=t.len:=V
  rw[ek,el]
  have aI:iN (dB (av.bz::q.size::c) au) (t.cut kn t.len 5) (b.bA.drop kn):=by
   have:=(p.le aL).PG (i:=kn) (j:=t.len) V V;grind [eQ]
  refine GS.lY ai u aI eX λaU bu aF Y bJ bz=>⟨D.sN u.ext Y.ext v,bE cB _,?_⟩
  intro bv
  have aA:=aF.cr kd.aP (aj bY) cD eX
  have e1:dc [iX 16 g]=0:=nF cD [g]
  have e2:sw [iX 16 g]=2:=uo 16 [g]
  have W1:WL ds nr True (f+o.length) (U.map (iX 14)++[iX 16 g]++K.map (iX 15)++b.bA.drop kn):=by
   refine WL.fx (WL.fx ((vE cD R).Dh ?_) ?_) ?_
   .grind [nF,Iv]
   .grind [fg,nF,vE]
   .rw[fg,fg,nF cD,nF cD,e1];have:=ad.Bg kn;rwa[aH]at this
  refine⟨aU,.mk (U.map (iX 14)++[iX 16 g]++K.map (iX 15)++b.bA.drop kn) b.bQ,O,iN.le (dW bO λe h=>aX _ h) aA,⟨.of W1 ?_,?_⟩,(X.J Y.ext).aV V _ _⟩
  .grind [fg,nF]
  grind [Bk.vu,gF,uo]
end
def afc(c:af)(d:List j7)(b:Bk):Prop:=∀(S:ad)(m:bg),(∀a∈S,a<m.size)->∀(f r t:E)(a:Nat),iF m f r c d->iN m t b.bA->WB c d.length True a b->a+4*b.w<=10^12->9*b.w<=100000000000->
 rG 232 [.agg #[f.v,r.v],.agg #[t.v,vi b.bQ],vi a] m S λe=>WB c d.length True a e/\e.w+8<=9*b.w
def HB{r:af}{rs:List j7}:∀q:Bk,afc r rs q:=by
 refine Bk.ind ?_;intro bA W ih h ah hS au aG bx j C hs aU a8 a9;have aB:=aU.cy;rw[Bk.vu]at*;simp only[Bk.mV,Bk.lV]at*;apply AO;simp -zeta only[kL,nO];intro U f p g m5 m6;let⟨x3,hl,s1,s2,s3⟩:=um (a:=U) (c:=f) (d:=p) O O O;have s4:=pz g;have aI:=py m6;have a2:D p m6:=(D.push p _).J aI;have g0:GS (g.size::f.size::h) p m6 (.mk p.size 0 0 0) []:=(GS.bF _ p).ext kd.aP aI;have B0:dF m6 g.size fm [.s (.mk p.size 0 0 0),.i W]:=dF.aV (m:=m5) (dF.push g _ _);have aK:∀c∈f.size::h,c<p.size:=dE hS x3.aQ (hl _ bO);have aO:=hs.aT;have aQ:=FU bA;have bl:=jS bA;refine gL (aO▸hs.kK) (λk(v:Int) M=>v=((j+dc (bA.take k):Nat):Int)/\D p M/\∃s o,GS (g.size::f.size::h) p M s o/\dF M g.size fm [.s s,.i W]/\o.length=k/\WL r rs.length True j o/\dc o=dc (bA.take k)/\sw o<=9*sw (bA.take k)) ⟨bO,a2,_,[],g0,B0,O,WL.gN,bO,bO⟩ ?_;rintro k v0 M ar μ hk ⟨aT,xM,s,o,ab,Q,bh,wl,ae,aR⟩ aF
 subst aT;have v:=x3.J xM;have hy:=ab.cJ;have a5:=Q.lt;refine dit (λac=>?_) λac=>?_
 .let⟨x,F⟩:=dV bA k;let⟨pa,pk,ha,an,e0,e1,e2,e3,e4⟩:=hs.bt F;have bq:=TQ F;have bt:=eN.pP x;have a_:=xf x.dv;have bs:=ub F;have bp:=uL F;have J:=aB.1 k x F;have be:=xh (bA.take k);have bk:=jS (bA.take k);have bm:=aQ (k+1);refine⟨V,V,_,v.aS e0,_,v.aS e1,_,v.aS e2,_,v.aS e3,_,v.aS e4,?_⟩;intro m7 u m9;obtain⟨x8,s8⟩:=pv u;obtain⟨x9,s9⟩:=pu m9;have aJ:GB (s.bz::g.size::f.size::h) u m9 (.mk u.size 0 0 0) []:=GB.bF u;have al:∀c∈s.bz::g.size::f.size::h,c<u.size:=λc d=>by
   simp only[bo]at d;rcases d with e|e|e|e
   .omega
   .omega
   .omega
   .have:=hS c e;omega
  have ao:=an.aT;have t:∀{b:bg},u.size<=b.size->∀c∈[M.size,f.size,U.size,ah.size],c<b.size:=λac c d=>by simp at d;omega
  refine(kQ (e:=[u.size]) eX (C.bS.le (v.J (x8.J x9)).le) C.dk x.cE).bL (D.cU m9) (t x9.aQ) λsc lc bu ay e aH _=>⟨_,O,?_⟩;subst e;have bi:=ay.aT;refine gL (ao▸an.kK) (λl ks b=>D u b/\ba (dB [ks.bz] b) sc (cT r x.cE)/\∃lk,GB (s.bz::g.size::f.size::h) u b ks lk/\lk.length=l/\(∀(G:Nat)(q:Bk),lk[G]? =some q->WB r rs.length True (j+dc (bA.take k)+Gc r x.op x.cE G) q)/\bw lk<=9*bw (x.dv.take l)) ⟨x9.J aH,ay,[],aJ.ext vx.aP aH,O,bO,bO⟩ ?_;rintro l ks w I2 μ2 hj ⟨Y,az,lk,gk,bf,aw,aN⟩ a0;have z:=v.J (x8.J Y);have yk:=gk.cJ;have H:=Y.aQ;refine dit (λh2=>?_) λh2=>?_
  .let⟨q,I⟩:=dV x.dv l;let⟨tb,aA,f0,f1⟩:=an.bt I;have bb:=Be I;have aM:=yP I;have ad:=J.dv l q I;have h3:=V0 C.dk x.op x.cE l;have ak:∀{b:bg},D w b->∀c∈ks.bz::s.bz::g.size::f.size::h,c<b.size:=λxx c d=>by
    have:=xx.aQ;rcases bo.1 d with e|e
    .omega
    .have:=al c e;omega
   have aa:∀{b:bg}{P:E}{y:Bk},D w b->iN (dB (ks.bz::s.bz::g.size::f.size::h) b) P y.bA->WB r rs.length True (j+dc (bA.take k)+Gc r x.op x.cE l) y->y.w<=9*q.w->
    mj (b.push (.cells (db [.s P,.i y.bQ]) fm)) fm [.s .nil,.i 0] 32 ks (.mk b.size 0 1 1) λN Z=>gS [M.size,f.size,U.size,ah.size] (b.push (.cells (db [.s P,.i y.bQ]) fm)) Z/\I2 N (eJ ((l:Int)+1)) Z/\μ2 N (eJ ((l:Int)+1)) Z<μ2 ks l w:=λ{b P y} x11 T hwb' hw'=>by
    refine GB.nE (gk.ext vx.aP x11) ((Y.J x11).fz []) T V λN Z g2 f2 a3 q2=>⟨D.sN ((Y.J x11).bZ _) f2.ext (t bY),a0 V _ _ ⟨f2.ext,(az.le x11.fj).le (tG λc d ax=>?_),_,g2,eX,λG b2 B=>?_,?_⟩⟩
    .simp at ax
     refine⟨?_,q2 c d ax⟩
     simp
     rcases a3.2 with e|e<;>omega
    .rcases dJ G lk.length with n|n
     .rw[dZ n]at B;exact aw G b2 B
     .rw[dP n]at B
      have:G -lk.length=0:=by have:=br B;simp at this;omega
      rw[this]at B;simp at B;subst B
      have:G=l:=V
      subst this;exact hwb'
    .rw[sV,yO,Ea,aM]
     omega
   refine⟨λA=>?_,λA=>?_⟩
   .simp only[bP]at A;obtain⟨a7,_⟩:=J.iY.lY A;have a4:=J.iY.mM (bR (bR A));let⟨aq,aC⟩:=dV x.aO 0;let⟨y0,y1⟩:=J.iY.aO aq (aZ aC);have a6:=ha.aT;let⟨cn,av⟩:=dV (cT r x.cE) l;refine⟨V,V,cn,(az.le fN).bt av,?_⟩;refine(fV (C.bS.le (z.le.J EB)) C.dk cn).bL (D.cU w) (t H) λsf lf aD ag e ai _=>⟨_,O,?_⟩;subst e;have ag:=ag.le fN;have bj:=ag.aT;have R:=z.J ai;rw[Px A av]at ad h3 aa;have aj:aS aD pa.bz (pa.off+Int.toNat (0:Int)*1)=some (vi aq):=(ha.ext R).bt aC;refine⟨V,V,_,R.aS f0,_,R.aS f1,cD,V,aq,aj,?_⟩;have ew:eJ (((j+dc (bA.take k):Nat):Int)+(sf.len:Int))=((j+dc (bA.take k)+(cX r cn).length:Nat):Int):=by rw[de V V];omega
    rw[ew];refine(ih x (aZ F) q (aZ I) (ks.bz::s.bz::g.size::f.size::h) aD (ak ai) au aG tb _ (C.le R.le) (aA.le R.le) ad V V).bL ai (t H) λP y aV T am X ap=>⟨_,_,O,?_⟩;refine⟨by rw[X.aS aj,aj],bE (X.bG _ (ai.lt (t H _ bO))) _,?_⟩;refine(QV (ak ap) T (ag.ext X) V am.1 V V ⟨y0,y1⟩).bL ap (t H) λbv b2 aE aP aL n a1=>⟨_,_,O,?_⟩;intro aY;exact aa a1 aP aL.1 V
   .simp only[bd]at A;rw[Py A]at ad aa;refine⟨V,V,_,z.aS f0,_,z.aS f1,?_⟩;refine(ih x (aZ F) q (aZ I) (ks.bz::s.bz::g.size::f.size::h) w (ak cY) au aG tb _ (C.le z.le) (aA.le z.le) ad V V).bL (D.cU w) (t H) λP y aV T am X ap=>⟨_,_,O,?_⟩;intro aE;exact aa X T am.1 V
  .have aj:lk.length=x.dv.length:=V;rw[eQ V]at aN;have I:D M w:=x8.J Y;have B:=Q.ext I;have G2:=ab.ext kd.aP I;refine⟨s,B.dx 0,?_⟩;refine(dC (s.bz::g.size::f.size::h) (ha.ext z) V).bL (D.cU w) (t H) λs' l' aE ga e n _=>⟨_,O,bE (n.bG _ V) _,bE (n.bG _ V) _,bE (n.bG _ V) _,bE (n.bG _ B.lt) _,?_⟩;subst e;intro aY;refine Gr.bV (h:=[.i 0,.i 0,.i 0,.s .nil,.s .nil]) (K:=λb=>bK dO 205 [vi x.op] b λv A=>gS [M.size,f.size,U.size,ah.size] b A/\∃y:Bool,v=vb y/\
    (y=true->ar (eJ (((j+dc (bA.take k):Nat):Int)+1)) (eJ ((k:Int)+1)) A/\μ (eJ (((j+dc (bA.take k):Nat):Int)+1)) (eJ ((k:Int)+1)) A<μ ((j+dc (bA.take k):Nat):Int) (k:Int) M)/\
    (y=false->ar ((j+dc (bA.take k):Nat):Int) (eJ ((k:Int)+1)) A/\μ ((j+dc (bA.take k):Nat):Int) (eJ ((k:Int)+1)) A<μ ((j+dc (bA.take k):Nat):Int) (k:Int) M)) (L:=[M.size,f.size,U.size,ah.size]) (j:=0) (w:=72) (o:=[.s s,.i W]) (v:=⟨x.op,x.cE,x.dh,x.aO,lk⟩) kd.aP cD (G2.ext kd.aP n) (((xM.J I).J n).fz []) ⟨s',ks,O,(ga.cr (λc d=>oh (al c d)) V),rQ.le n.fj (gk.cr vx.aP al cD (by show lk.length<=_;omega))⟩ V (B.ext n) bO cD ⟨V,bO⟩ (λc d=>by have y:=n.aQ;simp at d;omega) λN m' Z P X z' q'=>?_
   have R:=wl.Dh (J.US id J.iY.dh aj aw|>λac=>(ae▸ac));have ak:=n.aQ;refine(mO x.op m').aP λv A⟨T,e,ai,y⟩=>⟨λc d=>y.bG c (oh (t H c d)),T,e,?_⟩;have ad:=zV x T ai;have aa:dc (o++[⟨x.op,x.cE,x.dh,x.aO,lk⟩])=dc (bA.take (k+1)):=by
    rw[fg,nM,xk,ae];have e:dn (⟨x.op,x.cE,x.dh,x.aO,lk⟩:eN)=dn x:=rfl;omega
   have ag:sw (o++[⟨x.op,x.cE,x.dh,x.aO,lk⟩])<=9*sw (bA.take (k+1)):=by
    rw[gF,qu,zL];have h5:(⟨x.op,x.cE,x.dh,x.aO,lk⟩:eN).w=1+x.aO.length+bw lk:=eN.pP _;omega
   refine⟨λht=>?_,λhf=>?_⟩
   .rw[bn ht]at ad;rw[de V V];exact aF V _ _ ⟨V,X.ext.J y,N,_,Z.ext kd.aP y,P.ext y,eX,R,aa,ag⟩
   .rw[aW (by simp[hf])]at ad;exact aF V _ _ ⟨V,X.ext.J y,N,_,Z.ext kd.aP y,P.ext y,eX,R,aa,ag⟩
 .have ao:k=bA.length:=V;subst ao;rw[fw]at ae aR;refine⟨s,Q.dx 0,W,Q.dx 1,?_⟩;intro m7;have b:Le (dB (g.size::f.size::h) M) (dB h m7):=dW bO λc d=>aX _ (aX _ d);have l:=ab.ne Q cD;refine⟨s,.mk o W,O,iN.le b (ab.rU kd.aP (λd=>?_) cD (by show o.length<=_;omega)),⟨.of wl ((ae▸aB.2)),by rw[Bk.vu];omega⟩,v.aV V _ _⟩;rcases bo.1 d with e|e
  .exact l e
  .have:=aK _ e;omega
def JC{d:ad}{m:bg}(y:∀c∈d,c<m.size){h r:E}{f:af}{p:List j7}(g:iF m h r f p){W:Nat}(hW:9*W<=100000000000)(Q:CJ f p True W):zk 196 [.agg #[h.v,r.v]] m d f λs=>CJ f s True (9*W):=by
 apply Cf;simp -zeta only[dR];intro b a2;let⟨v,n⟩:=fU (a:=b) (c:=a2) O O;have s1:=pz b;have aj:=g.lJ.aT;have ax:=g.p7;refine(jK (b:=b.size::d) (dE y v.aQ (n _ bO)) (g.le v.le).bS g.dk).aP λ_ H⟨aa,e,ae,w⟩=>?_;subst e;refine⟨w.eV n,_,O,?_⟩;intro I an ao;have Y:=v.J w;let⟨x5,B0,g0,s3,s5⟩:=om (b:=I.size::b.size::d) lz.aP (d:=H) (a:=I) (c:=an) (j:=ao) O O O;have A:∀c∈[b.size,m.size],c<H.size:=λc a=>w.lt (n c a);have z:∀c∈b.size::d,c<H.size:=λc a=>w.lt (dE y v.aQ (n _ bO) c a);refine nV (R:=λi j M=>∃h r s,Value.agg #[i.v,j.v]=.agg #[h.v,r.v]/\iF (dB d M) h r f s/\CJ f s True (9*W)/\D m M) lz.aP cD cD y ⟨V,A _ bO⟩ Y s3 ae aj V x5 B0 g0 (λ_ q=>q.aY.length<=3/\q.df.length<=3/\WB f p.length True q.aY.length q.eY/\q.eY.w<=9*W) (λi u F x N k j o t=>⟨i,u,F,O,⟨N,k,g.dk,V⟩,Mh Q.jw j o,t⟩) λam M X F ar μ ag av xM L B ap=>?_
 let⟨q,U⟩:=dV p am ag;let⟨ai,ah,al,hw⟩:=Q.eS q (aZ U);have t:=Y.J xM;let⟨aq,ay,j,K,c2,c3,e0,e1,e2,e3,e4⟩:=g.lJ.bt U;have G:∀{Z:Value}{j o:Nat},aS m j o=some Z->aS M j o=some Z:=λac=>t.aS ac;refine⟨V,V,_,G e0,_,G e1,_,G e2,_,G e3,_,G e4,?_⟩;intro m7 i;have hy:=L.cJ;have au:=B.lt;obtain⟨J,s8⟩:=pv i;have T:∀c∈[M.size,b.size,m.size],c<i.size:=λc a=>by
  rcases bo.1 a with e|e
  .omega
  .have:=A c e;omega
 have w8:=t.J J;have aw:=K.aT;have ab:(aq.len:Int)=(q.aY.length:Nat):=V;refine⟨X,(B.ext J).dx 1,?_⟩;rw[ab];refine(HB q.eY (X.bz::I.size::b.size::d) i (λc a=>?_) h r j q.aY.length (g.le w8.le) (c3.le w8.le) al V V).bL (D.cU i) T λss b' M1 ak P u _=>⟨_,_,O,?_⟩
 .simp only[bo]at a;rcases a with e|e|e|e
  .omega
  .omega
  .have:=z c (by simp[e]);omega
  .have:=z c (by simp[e]);omega
 have C:∀o,aS M1 M.size o=aS i M.size o:=λo=>bE (u.bG _ V) o;refine⟨C 0,C 1,C 2,C 3,C 4,bE (u.bG _ V) _,?_⟩;have x:=J.J u;have z1:=u.aQ;exact Ao (b:=b.size::d) (v:=aa) (x:=F) z (λc a=>by have N:=T c a;have k:=A c;simp only[bo]at a k;rcases a with e|e|e|e<;>first|omega|(have:=k (by simp[e]);omega)|simp at e) (xM.J x) (L.ext lz.aP x) (B.ext x) V (K.ext (t.J x)) (c2.ext (t.J x)) ak ⟨V,V⟩ V λs' N g' k x'=>ap s' N _ g' k x' ⟨ai,ah,P.1,by have:=P.2;show b'.w<=_;omega⟩
section
variable{S:ad}{m:bg}{c:E}{l:List Instr}
theorem gG.le{m b:bg}(h:Le m b){a:ae}{x:Instr}:gG m a x->gG b a x:=λ⟨c,j,d,e,f⟩=>⟨c,j,d,e.le h,f.le h⟩
theorem gG.aP:sE 6 gG:=⟨λh=>gG.le h,λh=>by obtain⟨_,_,rfl,_⟩:=h;rfl⟩
def je.le{m a:bg}(b:Le m a){s:E}{l:List Instr}(h:je m s l):je a s l:=by grind [fX.le,gG.le]
theorem oJ.le{m b:bg}(h:Le m b){a:ae}{x:eG}:oJ m a x->oJ b a x:=λ⟨d,l,c,e,f,g,i⟩=>⟨d,l,c,e,f.le h,g.le h,je.le h i⟩
def oJ.aP:sE 5 oJ:=⟨λh=>oJ.le h,λh=>by obtain⟨_,_,_,rfl,_⟩:=h;rfl⟩
def mh.le{m a:bg}(b:Le m a){s:E}{l:av}(h:mh m s l):mh a s l:=by grind [fX.le,oJ.le]
def inV(x:Instr)(a j:E):Value:=.agg #[vi x.op,vi x.bH,vi x.cE,vi x.dh,a.v,j.v]
def AB(G:∀c∈S,c<m.size){o s:E}{x:Instr}(w:ba m o x.aO)(z:ba m s x.gE)(g:x.aO.length<=10^12/\x.gE.length<=10^12):
 bK dO 199 [inV x o s] m λF k=>∃f h,F=inV x f h/\ba (dB S k) f x.aO/\ba (dB S k) h x.gE/\D m k:=by
 apply vn
 simp -zeta only[dR]
 intro d i
 let⟨l,q⟩:=fU (a:=d) (c:=i) O O
 have I:=pz d
 have p:∀c∈d.size::S,c<i.size:=by grind [dE,D.aQ]
 have b:∀{M n:bg},D i M->D M n->∀t,aS n m.size t=aS M m.size t:=by grind [bE,D.bG,D.lt]
 refine(dC (d.size::S) (w.ext l) g.1).bL (D.cU i) q λf _ H u j a _=>⟨_,O,b cY a _,b cY a _,b cY a _,b cY a _,b cY a _,?_⟩
 subst j
 refine(dC (d.size::S) (z.ext (l.J a)) g.2).bL a q λh _ A v j e C=>⟨_,O,b a e _,b a e _,b a e _,b a e _,?_⟩
 subst j
 intro B
 have r:Le (dB (d.size::S) A) (dB S B):=by grind [dW,List.mem_cons_of_mem]
 exact⟨f,h,O,((u.cr p g.1).le e.fj).le r,(v.cr (λc y=>a.lt (p c y)) g.2).le r,(l.J C).aV V _ _⟩
def RN(d:je m c l)(s:Int):JW 192 [c.v,vi s] m:=by
 apply Li;have k:=d.aT;refine gL (n:=l.length) (k▸d.kK) (λ_ _ M=>D m M) cY ?_;rintro q K M I μ G e u
 refine⟨λh=>?_,λ_=>rN e⟩;simp only[bh]at h;let⟨x,o⟩:=dV l q;let⟨z,J,b,F,A,g,B,C,f,E⟩:=(je.ext e d).bt o;have j:=b.aT;refine⟨V,V,_,g,?_⟩;refine gL (n:=x.aO.length) (j▸b.kK) (λ_ _ a=>D M a) cY ?_;rintro r L w v μ2 H a t;refine⟨V,V,_,a.aS f,λi=>?_,λ_=>u V _ _ (e.J a)⟩;simp only[bh]at i;let⟨y,p⟩:=dV x.aO r;exact⟨V,V,_,a.aS f,V,V,y,(b.ext a).bt p,t V _ _ a⟩
@[grind cases] structure Ri (k:Nat) (x:Instr):Prop where
 Oe:x.op=22->(k:Int)<x.cE
 arg:x.op=18\/x.op=23\/x.op=16\/x.op=17->0<x.aO.length
def Ya(l:List Instr):Prop:=∀(k:Nat)(x:Instr),l[k]? =some x->Ri k x
def MX(e:je m c l)(E:Ya l){j:Int}(B:0<=j)(XQ:Int):sT 234 [c.v,vi j,vi XQ] m:=by
 apply FD;simp -zeta only[dR];have I:=e.aT;have K:=e.kK;refine⟨λv _ M=>0<=v/\D m M,λv _ _=>((l.length:Int) -v).toNat,⟨B,cY⟩,?_⟩;rintro v G M ⟨F,i⟩;refine⟨λh=>?_,λ_=>rA i⟩;simp only[bh]at h;let⟨x,n⟩:=dV l v.toNat;let⟨b,L,d,J,r,s,t,w,z,A⟩:=(je.ext i e).bt n;have H:=d.aT;have k:=E _ x n;refine⟨F,V,_,r,_,s,_,t,_,w,_,z,_,A,?_⟩;intro N a;have g:D M a:=by grind [D.push,D.aV]
 have u:=i.J g;have Oe:(x.op==22)=true->(0<=x.cE/\D m a)/\((l.length:Int) -x.cE).toNat<((l.length:Int) -v).toNat:=λh=>by
  grind [Ri.Oe]
 have o:(x.op==23)=true->(0:Int)<=0/\(0:Int)<(b.len:Int)/\∃p:Int,aS a b.bz (b.off+Int.toNat (0:Int)*1)=some (vi p)/\∃q:Bool,vb (p==G)=.bool q/\D m a:=λh=>by
  simp only[bP]at h;have:=k.arg V;let⟨y,f⟩:=dV x.aO 0;exact⟨cD,V,y,(d.ext g).bt f,rA u⟩
 refine⟨λC=>?_,λ_=>⟨Oe,λ_=>⟨o,λ_=>rA u⟩⟩⟩;simp only[bP]at C;have:=k.arg V;let⟨y,f⟩:=dV x.aO 0;refine⟨cD,V,y,(d.ext g).bt f,λ_=>?_,λ_=>⟨Oe,λ_=>⟨o,λ_=>rA u⟩⟩⟩;grind [de,List.length]
def Pr(l b:List Instr):Prop:=b.length=l.length/\∀(k:Nat)(a:Instr),b[k]? =some a->∃x,l[k]? =some x/\(a=x\/a=⟨24,0,x.cE,0,x.aO,x.gE⟩)
def VR(l:List Instr):Prop:=∀x∈l,x.aO.length<=10^12/\x.gE.length<=10^12
abbrev GIn(S:ad)(a m:bg)(s:E)(l:List Instr):Prop:=Gr S a m fA 6 gG s l
def OS(hS:∀c∈S,c<m.size)(h:je m c l)(ab:Ya l)(ac:VR l)(hb:l.length<=10^12):
 bK dO 198 [c.v] m λH F=>∃s e,H=s.v/\GIn S m F s e/\Pr l e/\D m F:=by
 apply HF
 simp -zeta only[dR]
 intro G
 have x1:=px G
 have U:GIn S m G (.mk m.size 0 0 0) []:=by grind [Gr.bF]
 have aa:=h.aT
 refine gL (n:=l.length) (aa▸h.kK) (λk s M=>D m M/\∃e,GIn S m M s e/\Pr (l.take k) e) ⟨x1,[],U,by simp[Pr]⟩ ?_
 rintro k s M I μ hk ⟨t,e,v,B,C⟩ af
 refine dit (λX=>?_) λX=>?_
 .let⟨d,E⟩:=dV l k
  let⟨ag,aj,Z,hj,K,L,N,P,Q,R⟩:=(je.ext t h).bt E
  have ad:=ac d (aZ E)
  have hy:=v.cJ
  have ai:e.length=k:=cB
  have Y:∀c∈s.bz::S,c<M.size:=λc h=>by
   grind
  refine⟨V,V,_,K,_,L,_,N,_,P,_,Q,_,R,?_⟩
  refine(AB Y Z hj ad).aP λH z⟨p,q,J,w,y,x2⟩=>⟨_,_,_,_,_,_,J,?_⟩
  intro m3 r
  have g:D z r:=by grind [D.push,D.aV]
  have s4:r.size=z.size+1:=by grind [bD]
  have j:=x2.J g
  have u:∀{f:bg}{b:Instr},D r f->ba (dB (s.bz::S) f) p b.aO->ba (dB (s.bz::S) f) q b.gE->(b=d\/b=⟨24,0,d.cE,0,d.aO,d.gE⟩)->
   mj (f.push (.cells (db [.i b.op,.i b.bH,.i b.cE,.i b.dh,.s p,.s q]) fA)) fA [.i 0,.i 0,.i 0,.i 0,.s .nil,.s .nil] 80 s (.mk f.size 0 1 1) λA o=>gS [z.size] (f.push (.cells (db [.i b.op,.i b.bH,.i b.cE,.i b.dh,.s p,.s q]) fA)) o/\I A (eJ ((k:Int)+1)) o/\μ A (eJ ((k:Int)+1)) o<μ s k M:=λ{f b} xx h1 h2 h3=>by
   have z4:=j.aQ
   have zx:=xx.aQ
   refine Gr.nE (h:=[.i 0,.i 0,.i 0,.i 0,.s .nil,.s .nil]) (m:=b) gG.aP cD (v.ext gG.aP (j.J xx)) ((t.J (j.J xx)).fz []) ⟨p,q,O,h1,h2⟩ V λA o W T z3 q3=>⟨λc h=>?_,af V _ _ ⟨T.ext,_,W,eX,λae ak hi=>?_⟩⟩
   .grind [D.aQ,D.push,D.bG]
   .rcases dJ ae e.length with i|i
    .grind [List.getElem?_append_left,List.getElem?_take_of_lt]
    grind [List.getElem?_append_right,List.length,br,List.getElem?_take_of_lt]
  have z4:=j.aQ
  refine⟨λh9=>?_,λ_=>?_⟩
  .rw[de (b:=(k:Int)+1) V V]
   refine(MX (je.ext (t.J j) h) ab V d.bH).bL (D.cU r) cB λah m5 i _=>⟨_,O,λ_=>?_,λ_=>?_⟩
   .intro m6
    have:=u (b:=⟨24,0,d.cE,0,d.aO,d.gE⟩) i ((w.le g.fj).le i.fj) ((y.le g.fj).le i.fj) (bR O)
    grind [de]
   .intro m6
    have:=u (b:=d) i ((w.le g.fj).le i.fj) ((y.le g.fj).le i.fj) (bC O)
    grind [de]
  .intro m5
   exact u (b:=d) cY (w.le g.fj) (y.le g.fj) (bC O)
 .rw[eQ V]at B C
  exact⟨s,e,O,v,⟨B,C⟩,t⟩
end
section
variable{b:av}
@[grind cases] structure Y9 (p:eG):Prop where
 aY:p.aY.length<=3
 df:p.df.length<=3
 jw:0<p.eA.length
 p7:p.eA.length<=10^12
 eA:Ya p.eA
 pL:VR p.eA
@[grind cases] structure DQ (ps:av):Prop where
 jw:0<ps.length
 p7:ps.length<=4
 eS:∀p∈ps,Y9 p
def VP(f:Nat)(c:ap)(m:bg)(S:ad)(e:af)(Q:av->Prop):Prop:=bK dO f c m λv a=>∃d p b,v=.agg #[d.v,p.v]/\dA (dB S a) d e/\mh (dB S a) p b/\Q b/\D m a
def Pr.ok{l d:List Instr}(h:Pr l d)(g:Ya l)(f:VR l):Ya d/\VR d:=by
 let⟨j,e⟩:=h;refine⟨λk a c=>?_,λa c=>?_⟩
 .obtain⟨x,b,rfl|rfl⟩:=e k a c
  .exact g k a b
  .exact⟨sx,sx⟩
 .let⟨k,i⟩:=cH.1 c;obtain⟨x,b,rfl|rfl⟩:=e k a i
  .exact f a (aZ b)
  .exact f x (aZ b)
def aa1{a:av}(h:DQ b)(d:a.length=b.length)(c:∀(i:Nat)(q:eG),a[i]? =some q->Y9 q):DQ a:=
 by constructor<;>grind [DQ.jw,DQ.p7,List.mem_iff_getElem?]
def Na{f:ad}{o:bg}(P:∀c∈f,c<o.size){w x:E}{y:af}(hd:dA o w y)(ht:eR y)(hp:mh o x b)(T:DQ b):VP 130 [.agg #[w.v,x.v]] o f y DQ:=by
 apply FI;simp -zeta only[dR];intro g a2;let⟨I,C⟩:=fU (a:=g) (c:=a2) O O;have s1:=pz g;have am:=hp.aT;have aA:=T.p7;refine(jK (b:=g.size::f) (dE P I.aQ (C _ bO)) (hd.le I.le) ht).aP λ_ X⟨dd,e,ak,J⟩=>?_;subst e;refine⟨J.eV C,_,O,?_⟩;intro m ao ap;have u2:=I.J J;let⟨x5,B0,g0,s3,s5⟩:=om (b:=m.size::g.size::f) oJ.aP (d:=X) (a:=m) (c:=ao) (j:=ap) O O O;have Q:∀c∈[g.size,o.size],c<X.size:=λc d=>J.lt (C c d);have ac:∀c∈g.size::f,c<X.size:=λc d=>J.lt (dE P I.aQ (C _ bO) c d);refine nV (R:=λj k M=>∃w x h,Value.agg #[j.v,k.v]=.agg #[w.v,x.v]/\dA (dB f M) w y/\mh (dB f M) x h/\DQ h/\D o M) oJ.aP cD cD P ⟨V,Q _ bO⟩ u2 s3 ak am V x5 B0 g0 (λ_ q=>Y9 q) (λh Y ag m' h1 A j k l=>⟨h,Y,ag,O,h1,A,aa1 T j k,l⟩) λan M r ag av μ al ay xM ab K aq=>?_
 let⟨q,hq⟩:=dV b an al;have n:=T.eS q (aZ hq);have q3:=n.aY;have q4:=n.df;have qf:=n.p7;have qs:=n.jw;have v6:=u2.J xM;let⟨aw,k,c,c1,c2,c3,e0,e1,e2,e3,e4⟩:=hp.bt hq;have G:∀{Z:Value}{k t:Nat},aS o k t=some Z->aS M k t=some Z:=λz=>v6.aS z;refine⟨V,V,_,G e0,_,G e1,_,G e2,_,G e3,_,G e4,?_⟩;intro m7 p;have hy:=ab.cJ;have ax:=K.lt;obtain⟨x8,s8⟩:=pv p;have F:∀c∈[M.size,g.size,o.size],c<p.size:=λc d=>by
  rcases bo.1 d with e|e
  .omega
  .have:=Q c e;omega
 have w8:=v6.J x8;have B:∀{M':bg},p.size<=M'.size->∀c∈r.bz::m.size::g.size::f,c<M'.size:=λz c d=>by
  simp only[bo]at d;rcases d with e|e|e|e
  .omega
  .omega
  .have:=ac c (by simp[e]);omega
  .have:=ac c (by simp[e]);omega
 have h:∀{L M2:bg},D p L->D L M2->∀k,k<p.size->∀t,aS M2 k t=aS L k t:=λz h' k hb t=>bE (h'.bG k (z.lt hb)) t;have l:M.size<p.size:=V;have U:m.size<p.size:=V;refine⟨r,(K.ext x8).dx 1,?_⟩;refine(dC (r.bz::m.size::g.size::f) (c1.ext w8) V).bL (D.cU p) F λa' _ m9 ga e j _=>⟨_,O,h cY j _ l _,h cY j _ l _,h cY j _ l _,h cY j _ l _,h cY j _ U _,?_⟩;subst e;refine(dC (r.bz::m.size::g.size::f) (c2.ext (w8.J j)) V).bL j F λb' _ aB gb e v u=>⟨_,O,h j v _ l _,h j v _ l _,h j v _ l _,h j v _ U _,?_⟩;subst e;have z9:=j.aQ;have AZ:=v.aQ;refine(OS (B V) (je.ext (w8.J u) c3) n.eA n.pL qf).aP λZ W⟨N,H,e,gc,ae,s⟩=>⟨λc d=>s.bG c (u.lt (F c d)),N,e,h u s _ l _,h u s _ l _,h u s _ U _,?_⟩;intro aC;have aa:=x8.J (u.J s);have aD:=s.aQ;let⟨ar,au⟩:=ae.ok n.eA n.pL;have az:=ae.1;have ah:ba (dB (r.bz::m.size::g.size::f) W) a' q.aY:=(ga.cr (B V) V).le ((v.J s).fj);have ai:ba (dB (r.bz::m.size::g.size::f) W) b' q.df:=(gb.cr (B V) V).le s.fj;have aj:je (dB (r.bz::m.size::g.size::f) W) N H:=gc.cr gG.aP (B V) cD V;exact Gr.bV (h:=[.s .nil,.s .nil,.i 0,.i 0,.s .nil]) (j:=1) (w:=88) (o:=[.s dd,.s r]) (v:=⟨q.aY,q.df,q.bQ,q.aU,H⟩) oJ.aP cD (ab.ext oJ.aP aa) ((xM.J aa).fz []) ⟨a',b',N,O,ah,ai,aj⟩ V (K.ext aa) bO cD ⟨V,bO⟩ (λc d=>by have h1:=F c d;have A:=Q c;simp only[bo]at d A;rcases d with e|e|e|e<;>first|omega|(have:=A (by simp[e]);omega)|simp at e) λY m' g' A f' z' q'=>aq Y m' _ g' A f'.ext ⟨q3,q4,by show 0<H.length;omega,by show H.length<=_;omega,ar,au⟩
end
section
variable{S:ad}{d c:bg}{b:Nat}{s:E}{l:List Instr}{x:Instr}
@[grind cases] structure DM (S:ad) (m0 m:bg) (eb:Nat) (s:E) (l:List Instr):Prop where
 bV:dF m eb vW [.s s]
 gr:GIn (eb::S) m0 m s l
 up:m0.size<=eb
def DM.ext{S:ad}{d c a:bg}{b:Nat}{s:E}{l:List Instr}(h:DM S d c b s l)(x:D c a):DM S d a b s l:=⟨h.bV.ext x,h.gr.ext gG.aP x,h.up⟩
def DM.ne{S:ad}{d c:bg}{b:Nat}{s:E}{l:List Instr}(h:DM S d c b s l):s.bz≠b:=h.gr.ne h.bV cD
def Uc(S:ad)(d c:bg)(b:Nat)(s:E)(P:List Instr->Prop)(f:bg):Prop:=∃a e,DM S d f b a e/\P e/\Fz [b,s.bz] c f/\(a.bz=s.bz\/c.size<=a.bz)
def uE{n q:E}(i:DM S d c b s l)(A:d.size<=c.size)(G:ba (dB (s.bz::b::S) c) n x.aO)(H:ba (dB (s.bz::b::S) c) q x.gE)(j:l.length<=10^12):
 bK dO 191 [vp b 0,inV x n q] c λM K=>M=vi (l.length:Nat)/\Uc S d c b s (l++[x]=·) K:=by
 apply BP (b,0)
 simp -zeta only[dR]
 intro B
 obtain⟨h,U⟩:=pu B
 have f:=i.ext h
 have z:=f.bV.lt
 have Q:=i.bV.lt
 have T:=i.gr.cJ
 refine⟨s,f.bV.dx 0,?_⟩
 intro L
 have C:=px L
 refine⟨bE (C.bG _ z) _,?_⟩
 have R:=vf A
 have g1:GIn (b::S) (c.extract 0 d.size) B s l:=Gr.cW gG.aP f.gr (λF j=>bC j) V
 refine Gr.nE gG.aP cD g1 ((((D.Rc A).J h).fz [])) ⟨n,q,O,G.le h.fj,H.le h.fj⟩ V λr t v P N u=>?_
 have p:=f.bV.congr (u b z (th f.ne))
 have J:=v.ne p cD
 refine⟨λa e=>?_,p.jb bO,?_⟩
 .simp at e;subst e
  rw[u c.size V V,C.bG _ V]
 intro k
 have y:dF k b vW [.s r]:=dF.aV (m:=t) p
 have o:∀a,a≠b->k[a]? =t[a]? :=λa e=>cq _ _ _ _ e
 have W:k.size=t.size:=bD _ _ _ _
 refine⟨λa e=>o a (by simp at e;omega),r,y.dx 0,?_⟩
 have w:GIn (b::S) d k r (l++[x]):=by
  refine Gr.cW gG.aP (v.re gG.aP (Y:=[b]) ⟨V,λa e g=>o a (sp g)⟩ bO (by simp;exact J) λa e=>bC e) (λF j=>bC j) V
 have F:=w.aT cD
 have I:r.len=l.length+1:=by rw[F];simp
 refine⟨?_,r,_,⟨y,w,i.up⟩,O,⟨V,λa e g=>?_⟩,oh N.2⟩
 .rw[I,iz];congr 1;omega
 .simp only[bo,nh,Ga,FZ]at g
  rw[o a g.1,u a V g.2,h.bG a e]
def WV{i:Nat}(h:DM S d c b s l)(o:d.size<=c.size)(r:l[i]? =some x):
 bK dO 240 [vp b 0,vi i] c λ_ K=>Uc S d c b s (l.set i ⟨x.op,0,l.length,0,x.aO,x.gE⟩=·) K:=by
 apply BO (b,0)
 simp -zeta only[dR]
 have H:=br r
 have J:=h.gr.aT cD
 obtain⟨L,⟨q,t,rfl,F,G⟩,mu⟩:=h.gr.jI r
 have w:=mu 0 _ O;have y:=mu 1 _ O;have z:=mu 2 _ O;have A:=mu 3 _ O;have B:=mu 4 _ O;have C:=mu 5 _ O
 refine⟨s,h.bV.dx 0,V,V,_,w,_,y,_,z,_,A,_,B,_,C,?_⟩
 intro P j
 obtain⟨g,Q⟩:=pv j
 have f:=h.ext g
 have I:=f.ne
 have N:=h.gr.cJ
 refine⟨s,f.bV.dx 0,s,f.bV.dx 0,V,V,?_⟩
 have g1:GIn (b::S) (c.extract 0 d.size) j s l:=Gr.cW gG.aP f.gr (λv m=>bC m) (by rw[vf o];exact bY)
 rw[J]
 let⟨wr,E,M,p⟩:=Gr.dY (k:=i) (cs:=[.i x.op,.i 0,.i l.length,.i 0,.s q,.s t]) (a:=⟨x.op,0,l.length,0,x.aO,x.gE⟩) gG.aP g1 (((D.Rc o).J g).fz []) H ⟨q,t,O,F.le g.fj,G.le g.fj⟩
 refine⟨wr,?_⟩
 intro u
 have R:u.size=j.size:=bD _ _ _ _
 refine⟨λe n=>p e (by simp at n;omega),s,_,⟨f.bV.congr (p b (th I)),Gr.cW gG.aP E (λv m=>bC m) (by rw[vf o];exact bY),h.up⟩,O,⟨V,λe n m=>?_⟩,bC O⟩
 simp only[bo,nh,Ga,FZ]at m
 have v:u[e]? =j[e]? :=p e m.2
 rw[v,g.bG e n]
end
section
variable{n a:Nat}
def qE(l b:List Instr)(n:Nat):Prop:=∃a,b=l++a/\(∀(i:Nat)(x:Instr),a[i]? =some x->Ri (l.length+i) x)/\VR a/\a.length<=n
def qE.cU(l:List Instr):qE l l 0:=⟨[],bO,bO,λ_ h=>by simp at h,bY⟩
theorem qE.iU{l b:List Instr}(h:qE l b n)(i:n<=a):qE l b a:=let⟨f,c,d,e,g⟩:=h;⟨f,c,d,e,V⟩
def qE.aT{l a:List Instr}(h:qE l a n):a.length<=l.length+n:=by obtain⟨b,rfl,_,_,d⟩:=h;simp;omega
def qE.J{l b c:List Instr}(h:qE l b n)(f:qE b c a):qE l c (n+a):=by
 obtain⟨i,rfl,k,d,o⟩:=h;obtain⟨j,rfl,m,e,p⟩:=f;refine⟨i++j,bO,λr x q=>?_,λx g=>?_,eX⟩
 .grind [Nat.lt_or_ge,List.length,List.getElem?_append_left,List.getElem?_append_right]
 .rcases bU.1 g with h|h
  .exact d x h
  .exact e x h
def qE.mM{l:List Instr}{x:Instr}(h:Ri l.length x)(c:x.aO.length<=10^12/\x.gE.length<=10^12):qE l (l++[x]) 1:=
 ⟨[x],O,λi y a=>by
  have:i=0:=by have:=br a;simp at this;omega
  subst this;simp at a;subst a;exact h,λy b=>by simp at b;subst b;exact c,bO⟩
section
variable{S:ad}{d m c:bg}{b:Nat}{s e:E}{l f:List Instr}
def DM.kA(h:DM S d m b s l)(e:D d m)(a:Fz [b,s.bz] m c):D d c:=by
 constructor<;>grind [DM.gr,Gr.cJ,DM.up,Fz.ext,D.fz,E.bz,Fz.J,Fz.Ij]
def Wc(g:Fz [b,s.bz] m c)(d:e.bz=s.bz\/m.size<=e.bz):Le (dB [s.bz,b] m) (dB [e.bz,b] c):=tG λa f h=>by
 grind [Fz.bG]
def Uc.eV{L:ad}(f:Fz [b,s.bz] m c)(d:∀a∈L,a<m.size/\a≠b/\a≠s.bz):gS L m c:=λa e=>f.bG a (d a e).1 cB
end
@[grind cases] structure Yb (S:ad) (mb m:bg) (eb:Nat) (s:E) (l:List Instr) (cons first:E) (cl fl:ab):Prop where
 em:DM S mb m eb s l
 x:D mb m
 kA:∀c∈S,c<m.size
 eB:ba (dB [s.bz,eb] m) cons cl
 first:ba (dB [s.bz,eb] m) first fl
 bG:fl.length=cl.length
 pL:∀y∈fl,0<=y/\y<=900000000000
def Yb.ext{S:ad}{e m d:bg}{b:Nat}{s:E}{l:List Instr}{cons first:E}{a c:ab}(h:Yb S e m b s l cons first a c)(x:D m d):Yb S e d b s l cons first a c:=
 ⟨h.em.ext x,h.x.J x,λf g=>x.lt (h.kA f g),h.eB.le x.fj,h.first.le x.fj,h.bG,h.pL⟩
def Yb.xD{S:ad}{e m d:bg}{a:Nat}{s c:E}{o j:List Instr}{cons first:E}{f g:ab}(h:Yb S e m a s o cons first f g)(l:DM S e d a c j)(b:Fz [a,s.bz] m d)(i:c.bz=s.bz\/m.size<=c.bz):Yb S e d a c j cons first f g:=
 ⟨l,h.em.kA h.x b,λk n=>cw (h.kA k n) b.aQ,h.eB.le (Wc b i),h.first.le (Wc b i),h.bG,h.pL⟩
def adx(f:af)(g:List j7)(x:eN):Prop:=∀(S:ad)(a m:bg)(c:Nat)(s:E)(l:List Instr)(cons first:E)(b h:ab)(e r d k:E),Yb S a m c s l cons first b h->WS f g.length True b.length x->b.length+4*x.w<=900000000000->l.length+6*x.w<=10^12->iF a e r f g->ba a d x.aO->rQ a k x.dv->
 bK dO 220 [vp c 0,.agg #[e.v,r.v],tp x d k,cons.v,first.v] m λ_ j=>Uc S a m c s (λi=>qE l i (6*x.w)) j
def acO(f:af)(g:List j7)(b:Bk):Prop:=∀(S:ad)(a m:bg)(d:Nat)(s:E)(l:List Instr)(cons first:E)(c h:ab)(e r t:E),Yb S a m d s l cons first c h->WB f g.length True c.length b->c.length+4*b.w<=900000000000->l.length+6*b.w<=10^12->iF a e r f g->iN a t b.bA->
 bK dO 190 [vp d 0,.agg #[e.v,r.v],.agg #[t.v,vi b.bQ],cons.v,first.v] m λ_ j=>Uc S a m d s (λi=>qE l i (6*(b.w -1))) j
end
def xE{m:bg}:ba m .nil []:=⟨O,bY,bO,bO⟩
def QM{ds:af}{rs:List j7}{bA:au}{aX:Int}(a:∀b∈bA,b.op=7\/b.op=8->adx ds rs b):acO ds rs (.mk bA aX):=by
 intro z mb L e ad ah cons first cl fl aD aV bm E0 aO a4 a5 hn hs
 have aP:=aO.cy;rw[Bk.vu]at*;simp only[Bk.mV,Bk.lV]at*;apply zE (e,0);simp -zeta only[dR];intro ab ac;let⟨x2,hl⟩:=fU (a:=ab) (c:=ac) O O;have s1:=pz ab;have s2:ac.size=L.size+2:=cB;have aN:=hs.aT;have aw:=FU bA;have bb:=jS bA;have a7:=E0.em.bV.lt;have bj:=E0.em.gr.cJ;refine Bi (j:=bA.length) (aN▸hs.kK) (λp cons first M=>∃o K A H,Yb z mb M e o K cons first A H/\A.length=cl.length+dc (bA.take p)/\qE ah K (6*sw (bA.take p))/\Fz [e,ad.bz] L M/\(o.bz=ad.bz\/ac.size<=o.bz)/\ac.size<=M.size) ⟨ad,ah,cl,fl,E0.ext x2,bO,(qE.cU ah).iU (iD _),x2.fz _,bC O,bY⟩ ?_;rintro p cons first M aY μ hk ⟨o,K,A,H,P,aK,ag,fz,a9,hM⟩ aA
 have a8:=ag.aT;have be:=aw p;have r:=P.em.gr.cJ;refine dit (λk=>?_) λk=>?_
 .let⟨b,Y⟩:=dV bA p;let⟨pa,pk,I,aL,e0,e1,e2,e3,e4⟩:=hs.bt Y;have bh:=ub Y;have bf:=uL Y;have bi:=eN.pP b;have bc:=aw (p+1);have a6:=xh (bA.take p);have a_:=jS (bA.take p);have W:=aP.1 p b Y;rw[<-aK]at W;have X:=P.x;refine⟨V,V,_,X.aS e0,_,X.aS e1,_,X.aS e2,_,X.aS e3,_,X.aS e4,?_⟩;intro m3 s;have x4:D M s:=by grind [D.push,D.aV]
  have s4:s.size=M.size+1:=by grind [bD]
  have i:=P.ext x4;have U:∀{Q:bg},s.size<=Q.size->∀j∈[M.size,ab.size,L.size],j<Q.size/\j≠e/\j≠o.bz:=cB;have Z:∀{y R:bg},s.size<=y.size->D y R->gS [M.size,ab.size,L.size] y R:=λhz xx j J=>xx.bG j (U hz j J).1;have C:∀{y R:bg},s.size<=y.size->D y R->∀ai,aS R M.size ai=aS y M.size ai:=λhz xx ai=>bE (xx.bG _ V) ai;have an:∀{Q:bg},s.size<=Q.size->∀c∈o.bz::e::z,c<Q.size:=λhz c a=>by
   simp only[bo]at a;rcases a with f|f|f
   .omega
   .omega
   .have:=P.kA c f;have:=X.aQ;omega
  refine⟨λF=>∃g t,Yb z mb F e g t cons first A H/\qE K t (6*b.w)/\Fz [e,o.bz] s F/\(g.bz=o.bz\/s.size<=g.bz),⟨λh7=>?_,λn7=>⟨λaG=>?_,λaT=>⟨λaH=>?_,λaU=>?_⟩⟩⟩,?_⟩
  .simp only[eH,bP]at h7;refine(a b (aZ Y) h7 z mb s e o K cons first A H aD aV pa pk i W V V hn I aL).aP λv m5⟨g,t,ae,p5,G,b5⟩=>⟨Uc.eV G (U bY),g,t,i.xD ae G b5,p5,G,b5⟩
  .simp only[eH,bP]at aG;refine(dC (o.bz::e::z) (I.ext i.x) V).aP λv m5⟨a',la,f,ga,ea,d⟩=>⟨Z bY d,a',f,C bY d _,?_⟩;subst ea;have m:=i.ext d;have u:=d.aQ;refine(uE (x:=⟨b.op,0,0,0,b.aO,[]⟩) m.em m.x.aQ (GI.cr ga (an bY) cB) xE V).aP λv N⟨ev,s6,l6,aj,p6,B,b6⟩=>⟨Uc.eV B (U u),_,ev,s6,l6,m.xD aj B b6,?_,(d.fz _).J B,V⟩;subst p6;exact(qE.mM ⟨λk=>by simp only at k;omega,λk=>by simp only at k;omega⟩ ⟨by show b.aO.length<=_;omega,bO⟩).iU V
  .simp only[eH,bP]at aH;have a1:=W.iY.mM V;let⟨E,am⟩:=dV b.aO 0;let⟨y0,y1⟩:=W.iY.aO E (aZ am);have a3:=I.aT;have c4:=(i.eB.le fN);have f4:=(i.first.le fN);have aJ:=c4.aT;have aQ:=f4.aT;have aM:=i.bG;let⟨cn,aB⟩:=dV A E.toNat;let⟨fn,al⟩:=dV H E.toNat;let⟨aR,a0⟩:=i.pL fn (aZ al);have F4:=f4.bt al;refine⟨cD,V,E,(I.ext i.x).bt am,y0,V,cn,c4.bt aB,y0,V,fn,F4,?_⟩;refine(fV (e:=[]) (hn.bS.le (i.x.le.J EB)) hn.dk cn).aP λv m5⟨aF,bk,f,ay,ap,d⟩=>⟨Z bY d,aF,f,by rw[d.aS F4,F4],C bY d _,C bY d _,?_⟩;subst ap;have u:=d.aQ;have F3:=Kd hn.dk cn;obtain⟨fk,aC⟩:∃fk:Nat,fn=fk:=⟨fn.toNat,V⟩;subst aC;refine(vQ (S:=[]) bO ay fk V).aP λv N⟨aI,bl,f,ar,ak,h⟩=>⟨Z u h,aI,f,C u h _,C u h _,?_⟩;have z6:=h.aQ;refine(iL (S:=[]) bO ((I.ext (i.x.J (d.J h))).le EB) (ar.cr yo.aP bO cD (oh ak.2)) (oh ak.2)).aP λv m7⟨ao,aa,f,av,aE,q⟩=>⟨Z V q,ao,f,C V q _,?_⟩;have T:=(d.J h).J q;have w:=i.ext T;have z7:=q.aQ;have ax:GI (o.bz::e::z) N m7 ao aa:=GI.jY av;have a2:aa.length<=b.aO.length+3:=by rw[<-aE];simp;have:=ak.2;omega
   have az:0<aa.length:=cB;refine(uE (x:=⟨b.op,0,0,0,aa,[]⟩) w.em w.x.aQ (ax.cr (an V) V) xE V).aP λv m8⟨ev,s8,l8,aq,p8,f8,b8⟩=>⟨Uc.eV f8 (U V),_,ev,s8,l8,w.xD aq f8 b8,?_,(T.fz _).J f8,V⟩;subst p8;exact(qE.mM ⟨λk=>by simp only at k;omega,λ_=>az⟩ ⟨by show aa.length<=_;omega,bO⟩).iU V
  .refine(dC (o.bz::e::z) (I.ext i.x) V).aP λv m5⟨a',la,f,ga,ea,d⟩=>⟨Z bY d,a',f,C bY d _,C bY d _,C bY d _,?_⟩;subst ea;simp only[cV,bd]at aT aU;have m:=i.ext d;have u:=d.aQ;have aa:b.op<=11:=by
    rcases W.iY.op with k|k
    .exact k.2
    .omega
   refine(uE (x:=⟨b.op,(cons.len:Int),b.cE,b.dh,b.aO,[]⟩) m.em m.x.aQ (GI.cr ga (an bY) cB) xE V).aP λv N⟨ev,s6,l6,aj,p6,B,b6⟩=>⟨Uc.eV B (U u),_,ev,s6,l6,m.xD aj B b6,?_,(d.fz _).J B,V⟩;subst p6;exact(qE.mM ⟨λk=>by simp only at k;omega,λk=>by simp only at k;omega⟩ ⟨by show b.aO.length<=_;omega,bO⟩).iU V
  .rintro F ⟨g,t,m,p5,G,b5⟩;have u:=G.aQ;have ae:qE ah t (6*sw (bA.take (p+1))):=(ag.J p5).iU V;have aq:Fz [e,ad.bz] L F:=(fz.cg x4).vV G λE r=>by
    simp only[bo,nh,Ga]at r⊢;grind
   have ar:g.bz=ad.bz\/ac.size<=g.bz:=V;have a2:=m.em.gr.cJ;have al:∀j∈[M.size,ab.size,L.size],j<F.size:=cB;have av:=λj J=>zV b j J;refine(mO b.op F).aP λv N⟨j,f,J,h⟩=>⟨λc a=>h.bG c (al c a),j,f,λht=>?_,λhf=>?_⟩
   .have hd:=av j J;rw[bn ht]at hd;intro m7;have q:=px m7;have a1:=m.em.bV.lt;have z6:=h.aQ;have aa:∀c∈[g.bz,e],c<N.size:=λc a=>by simp at a;omega
    have aQ:ba (dB [g.bz,e] m7) (.mk N.size 0 1 1) [0]:=ba.km bB (l:=[0]) aa O O bO;have T:=h.J q;have w:=m.ext T;have a0:=w.eB.aT;refine(iL (S:=[g.bz,e]) (λc a=>q.lt (aa c a)) w.eB aQ cB).aP λv m8⟨aB,ax,f,aE,ao,B⟩=>⟨λc a=>B.bG c (q.lt (h.lt (al c a))),aB,f,?_⟩;intro m9;have d:=px m9;have z7:=q.aQ;have z8:=B.aQ;have am:∀c∈[g.bz,e],c<m8.size:=λc a=>by have:=aa c a;omega
    have aR:ba (dB [g.bz,e] m9) (.mk m8.size 0 1 1) [0]:=ba.km bB (l:=[0]) am O O bO;have E9:=w.ext (B.J d);have aM:=E9.bG;refine(iL (S:=[g.bz,e]) (λc a=>d.lt (am c a)) E9.first aR cB).aP λv az⟨aC,ay,f,aF,ap,aj⟩=>⟨λc a=>aj.bG c (d.lt (B.lt (q.lt (h.lt (al c a))))),aC,f,?_⟩;have ak:=E9.ext aj;have aI:ba (dB [g.bz,e] az) aB ax:=(GI.cr aE (λc a=>q.lt (aa c a)) (by rw[<-ao];simp;omega)).le ((d.J aj).fj);have aJ:ba (dB [g.bz,e] az) aC ay:=GI.cr aF (λc a=>d.lt (am c a)) (by rw[<-ap];simp;omega);refine aA V _ _ _ ⟨g,t,ax,ay,⟨ak.em,ak.x,ak.kA,aI,aJ,by rw[<-ao,<-ap];simp;omega,λE r=>?_⟩,by rw[<-ao];simp;omega,ae,aq.cg (((T.J B).J d).J aj),ar,?_⟩
    .rw[<-ap]at r;rcases bU.1 r with r|r
     .exact m.pL E r
     .simp at r;omega
    grind [D.aQ]
   .have hd:=av j J;rw[aW (by simp[hf])]at hd;exact aA V _ _ _ ⟨g,t,A,H,m.ext h,V,ae,aq.cg h,ar,oh h.aQ⟩
 .have b:p=bA.length:=V;subst b;rw[fw]at ag;exact⟨o,K,P.em,ag.iU V,fz,V⟩
section
variable{m:bg}
def JT(m:bg)(s:E):Prop:=s.len<=s.cap/\∀k:Nat,k<s.len->∃v:Int,0<=v/\v<=255/\aS m s.bz (s.off+k*1)=some (.int .u8 v)
def MP{eA:E}(h:JT m eA):bK dO 44 [eA.v] m λv i=>∃a,v=vp m.size 0/\Rd m.size a 0 i/\D m i:=by
 let⟨g,f⟩:=h;apply Fp;have R:∀a:E,JT m a->∃l,vp m.size 0=vp m.size 0/\Rd m.size l 0 (m.push (.cells (db [.s a,.i 0]) ue))/\D m (m.push (.cells (db [.s a,.i 0]) ue)):=λa⟨n,o⟩=>by
  refine⟨a,O,⟨⟨0,dF.push _ _ _,dT _,bO⟩,n,λk c=>?_⟩,D.push _ _⟩;let⟨v,d,e,b⟩:=o k c;have s:=rV b;exact⟨v,d,e,iO.2 ⟨eX,(D.push m _).aS b⟩⟩
 refine⟨λh=>?_,λ_=>R eA ⟨g,f⟩⟩;simp only[bh]at h;refine⟨cD,cD,V,?_⟩;refine R _ ?_;cases eA with
 |nil=>simp at h
 |DK j p sp=>simp at h
 |mk j p t q=>
  simp only[E.kv,E.SU]at h g;refine⟨by simp[E.cut];omega,λk c=>?_⟩;have r:k<2000:=by simpa[E.cut]using c
  let⟨v,d,e,b⟩:=f k eX;exact⟨v,d,e,by simpa[E.cut]using b⟩
def Pk(f:Nat)(b:ap)(m:bg)(S:ad)(Q:Ex->Prop):Prop:=bK dO f b m λv a=>∃s e,v=.agg #[vi e.op,vi e.cE,s.v]/\jz (dB S a) s e.dv/\Q e/\D m a
def Fg(S:ad)(n:Int)(m:bg):Pk 287 [vi n] m S (.mk 0 n []=·):=by
 apply Jp;simp -zeta only[dR];intro a b d;have c:D m b:=(D.push m _).J (D.push a _);exact⟨_,.mk 0 n [],O,pX,O,c.aV bY _ _⟩
def pO(S:ad)(n:Int)(m:bg):Pk 322 [vi n] m S (.mk 12 n []=·):=by
 apply HG;simp -zeta only[dR];intro a b d;have c:D m b:=(D.push m _).J (D.push a _);exact⟨_,.mk 12 n [],O,pX,O,c.aV bY _ _⟩
def NN{S:ad}{s:E}{dv:ax}(h:jz (dB S m) s dv)(a cE:Int):Pk 320 [vi a,vi cE,s.v] m S (.mk a cE dv=·):=by
 apply OH;simp -zeta only[dR];intro d c;have b:=py c;exact⟨s,.mk a cE dv,O,h.le b.fj,O,b⟩
def FG{a P:Nat}{b:E}(q:Rd a b P m)(x:P+4<=10^16):bK dO 339 [vp a 0] m λv h=>∃k:Int,v=vi k/\Rd a b (P+4) h/\Fz [a] m h:=by
 apply JB (a,0);refine(dX q V 6).aP λv y⟨d,e,_,_,r,l⟩=>⟨d,e,?_⟩;refine(dX r V 6).aP λv z⟨f,e,_,_,s,n⟩=>⟨f,e,?_⟩;refine(dX s V 40).aP λv w⟨g,e,_,_,c,o⟩=>⟨g,e,?_⟩;intro i;have j:=px i;have u:ba (dB [a] i) (.mk w.size 0 10 10) [d,f,0,1,2,-1,3,g,999,-998]:=ba.km bB (by have:=c.lt;simpa using this) O O bO;refine(og (c.ext j) V u bO).aP λv A⟨k,e,_,t,p⟩=>⟨k,e,k,O,t,((l.J n).J o).cg j|>.J p⟩
end
section
variable{m:bg}
def ae9(e:Ex):Prop:=∀(m:bg)(t:E),jz m t e.dv->∀left:Int,left<=600->wX 324 [.agg #[vi e.op,vi e.cE,t.v],vi left] m λk=>k= -1\/0<=k/\k+e.n=left
def MQ:∀e:Ex,ae9 e:=by
 refine Ex.ind ?_;intro F cE dv r m G b left z;simp only[Ex.abS,Ex.Z1,Ex.XB,Ex.Yz]at*;apply Fs;simp -zeta only[dR];intro a;have f:=px a;have o:∀i∈[m.size],i<a.size:=by simp[a]
 have d:∀{M:bg},D m M->∃k:Int,vi (-1:Int)=vi k/\(k= -1\/0<=k/\k+((1+en dv:Nat):Int)=left)/\D m M:=cB;refine⟨λ_=>d f,λl=>?_⟩;simp only[dm]at l;have q:=b.aT;rw[de (b:=left -1) V V];refine gL (n:=dv.length) (q▸b.kK) (λk(v:Int) M=>D a M/\0<=v/\v+1+en (dv.take k)=left) ⟨cY,V,bO⟩ ?_;rintro k v M I μ y ⟨g,J,K⟩ E
 have u:=f.J g;refine⟨λh=>?_,λh=>?_⟩
 .simp only[bh]at h;let⟨e,c⟩:=dV dv k;let⟨s,p,j,g1,g2⟩:=b.bt c;refine⟨V,V,_,u.aS j,_,u.aS g1,_,u.aS g2,?_⟩;refine(r e (aZ c) M s (jz.le u.le p) v V).bL g o λC B A t H=>⟨_,O,λ_=>d (u.J t),λw=>?_⟩;grind [decide_eq_false_iff_not,OY]
 .grind [decide_eq_false_iff_not,eQ]
def Ft{t:E}{e:Ex}(h:jz m t e.dv):wX 293 [.agg #[vi e.op,vi e.cE,t.v]] m λk=>k= -1\/k=e.n/\e.n<=30:=by
 apply Jv;simp -zeta only[dR];intro a;have b:=px a;have g:∀d∈[m.size],d<a.size:=by simp[a]
 refine(MQ e a t (jz.le b.le h) 30 cD).bL (D.cU a) g λn j i c l=>⟨_,O,λ_=>⟨-1,O,bC O,b.J c⟩,λf=>?_⟩;simp only[dm]at f;rw[de (b:=30 -n) V V];exact⟨_,O,bR ⟨V,V⟩,b.J c⟩
def QW{s:E}{l:ab}(h:ba m s l)(e:Int):wX 286 [s.v,vi e] m λk=>-1<=k/\k<l.length:=by
 apply Jy;have c:=h.aT;refine gP (n:=l.length) (c▸h.kK) (λ_ M=>D m M) cY ?_;rintro k M I μ g a f
 refine⟨λb=>?_,λ_=>⟨-1,O,⟨V,V⟩,a⟩⟩;simp only[bh]at b;let⟨x,d⟩:=dV l k;exact⟨V,V,x,(h.ext a).bt d,λ_=>⟨k,O,⟨V,V⟩,a⟩,λ_=>f V _ a⟩
def QJ(f:E)(m:bg):bK dO 201 [f.v] m λv a=>v=.agg #[f.v]/\D m a:=by
 apply QI;simp -zeta only[dR];intro b c;exact⟨trivial,(D.push m _).aV bY _ _⟩
def WY{p:E}(r:Int):bK dO 257 [p.v,vi r] m λv a=>v=.agg #[p.v,vi r,vi 0,vi 0,E.v .nil]/\D m a:=by
 apply QX;simp -zeta only[dR];intro b c;exact⟨trivial,(D.push m _).aV bY _ _⟩
end
section
variable{b:ad}{m:bg}{c d p:E}{a:av}
def Lt(v:∀a∈b,a<m.size){l:ab}(h:ba m c l)(w:l.length<=10^12)(t:Int):oA 340 [c.v,vi t] m b λa=>(∀y∈a,0<=y/\y<(l.length:Int))/\a.length<=l.length:=by
 apply DG;intro B;have q:=h.aT;refine gL (n:=l.length) (q▸h.kK) (λk s M=>D m M/\∃a,GI b m M s a/\(∀y∈a,0<=y/\y<(l.length:Int))/\a.length<=k) ⟨D.push m _,[],GI.gN b m,bO,bY⟩ ?_;rintro k s M I μ z ⟨e,a,g,f,A⟩ j
 refine⟨λi=>?_,λi=>⟨s,a,O,g,⟨f,V⟩,e⟩⟩;simp only[bh]at i;let⟨x,r⟩:=dV l k;refine⟨V,V,x,(h.ext e).bt r,λ_=>?_,λ_=>j V _ _ ⟨e,a,g,f,V⟩⟩;intro C;exact GI.nE g (e.fz []) V λE u p o _ _=>j V _ _ ⟨o.ext,_,p,λy d=>by
  rcases bU.1 d with d|d
  .exact f y d
  .simp at d;omega,eX⟩
def Zc(m:bg)(b:ae)(p:eG):Prop:=∃a x y z,b=[.s a,.i p.bQ,.i x,.i y,.s z]/\ba m a p.aY
abbrev tA(m:bg)(s:E)(l:av):Prop:=fX m 5 (Zc m) s l
theorem Zc.le{m b:bg}(h:Le m b){a:ae}{p:eG}:Zc m a p->Zc b a p:=λ⟨c,x,y,z,d,e⟩=>⟨c,x,y,z,d,e.le h⟩
def tA.le{m a:bg}(b:Le m a){s:E}{l:av}(h:tA m s l):tA a s l:=by grind [fX.le,Zc.le]
theorem tA.bt{s:E}{l:av}(h:tA m s l){k:Nat}{p:eG}(d:l[k]? =some p):∃a,ba m a p.aY/\aS m s.bz (s.off+k*5)=some a.v/\aS m s.bz (s.off+k*5+1)=some (vi p.bQ):=by
 obtain⟨e,⟨a,x,y,z,rfl,c⟩,b⟩:=h.kZ k p d;exact⟨a,c,b 0 _ O,b 1 _ O⟩
def ClQ(b:af)(a:av)(t y:Int):Prop:=∃(f:Nat)(q:eG),y=f/\a[f]? =some q/\0<q.aY.length/\(0<t->∃d∈b,d.eB.length=0/\q.aY.getLast?=some d.qe/\q.bQ=d.to)
def Cx(hS:∀j∈b,j<m.size){g:af}(hd:dA m d g)(ht:eR g)(o:tA m p a)(hf:a.length<=1000)(t:Int):oA 346 [.agg #[d.v,p.v],vi t] m b λc=>(∀y∈c,ClQ g a t y)/\c.length<=a.length:=by
 apply G5;simp -zeta only[dR];intro e J;have K:=px e;have F:∀j∈[m.size],j<e.size:=by simp[e]
 have R:GI b e J (.mk e.size 0 0 0) []:=GI.gN b e;have x2:=px J;have Z:=o.aT;refine gL (n:=a.length) (Z▸o.kK) (λk s M=>D e M/\∃c,GI b e M s c/\(∀y∈c,ClQ g a t y)/\c.length<=k) ⟨x2,[],R,bO,bY⟩ ?_;rintro k s M ab μ hk ⟨w,c,h,i,ad⟩ q
 have u:=K.J w;refine⟨λE=>?_,λE=>⟨s,c,O,h.cW (λ_ C=>C) K.aQ,⟨i,V⟩,u⟩⟩;simp only[bh]at E;let⟨r,H⟩:=dV a k;let⟨z,l,A,P⟩:=o.bt H;have ac:=l.aT;have ae:=l.kK;refine⟨V,V,_,u.aS A,λS=>?_,λ_=>q V _ _ ⟨w,c,h,i,V⟩⟩;simp only[bh]at S;rw[de (b:=(z.len:Int) -1) V V];let⟨y,I⟩:=dV r.aY (((z.len:Int) -1).toNat);refine⟨V,V,_,u.aS A,V,V,y,(l.ext u).bt I,V,V,_,u.aS P,?_⟩;refine(EO (hd.le u.le) ht y r.bQ).bL w F λah m3 G L v=>⟨_,O,λY=>?_,λ_=>q V _ _ ⟨v,c,h.ext L,i,V⟩⟩;intro m4;refine GI.nE (h.ext L) (v.fz []) V λai M' Q B _ _=>⟨D.sN (v.bZ _) B.ext F,q V _ _ ⟨B.ext,_,Q,λaa f=>?_,eX⟩⟩;rcases bU.1 f with f|f
 .exact i aa f
 .simp at f Y;refine⟨k,r,f,H,V,λC=>?_⟩;rcases G with G|⟨ag,N,_,X,T,U,W⟩
  .omega
  .refine⟨N,aZ X,T,?_,W.symm⟩;rw[List.getLast?_eq_getElem?,U,<-I];congr 1;omega
def tY{j:af}{v:ab}(hd:dA m d j)(k:eR j)(q:tA m p a)(o:a.length<=1000)(r:ba m c v)(t:Int):sT 341 [.agg #[d.v,p.v],c.v,vi t] m:=by
 apply Jd;simp -zeta only[dR];intro e;have g:=px e;have f:∀n∈[m.size],n<e.size:=by simp[e]
 refine(qQ (hd.le g.le) k t).jY.bL (D.cU e) f λl x h _=>⟨_,O,λ_=>rA (g.J h),λ_=>?_⟩;have b:=g.J h;refine(Cx (b:=[]) bO (hd.le b.le) k (tA.le b.le q) o t).bL h f λA w y _ _ i s=>⟨_,O,λ_=>rA (b.J i),λ_=>?_⟩;exact(fI (r.ext (b.J i)) t).jY.bL s f λl z u _=>⟨_,O,rA ((b.J i).J u)⟩
end
def QG{a P:Nat}{p:E}{m:bg}(h:Rd a p P m)(Q:P+1<=10^16){q v x:E}{g:af}{r:av}{L:ab}(hd:dA (dB [a] m) q g)(I:eR g)(H:tA (dB [a] m) v r)(B:r.length<=1000)(J:ba (dB [a] m) x L):
 bK dO 334 [vp a 0,.agg #[q.v,v.v],x.v] m λw u=>∃k:Int,w=vi k/\(k=1\/0<=k/\k<=4/\k<=g.length)/\Rd a p (P+1) u/\Fz [a] m u:=by
 apply Jb (a,0)
 simp -zeta only[dR]
 intro o d
 have U:=pz o
 have M:=px o
 have y:=px d
 have z:D m d:=M.J y
 have S:=h.lt
 have t:∀c∈[m.size],c<d.size/\c∉[a]:=λc l=>by have:=y.aQ;simp at l⊢;omega
 have K:ba (dB [a] d) (.mk o.size 0 7 7) [1,1,3,0,2,4,3]:=ba.km bB eX O O bO
 have R:=hd.aT
 refine(og (h.ext z) V K bO).aP λw e⟨k,A,C,j,i⟩=>⟨i.eV t,k,A,?_⟩
 have b:Fz [a] m e:=(z.fz _).J i
 have s:0<=k/\k<=4:=by simp at C;omega
 refine⟨λ_=>⟨1,O,bC O,j,b⟩,λG=>?_⟩
 simp only[dm]at G
 have n:Le (dB [a] m) e:=(b.fj λ_ h=>h).J fN
 have F:∀c∈[m.size],c<e.size:=λc l=>cw (t c l).1 i.aQ
 refine(tY (hd.le n) I (tA.le n H) B (J.le n) k).bL (D.cU e) F λN T f _=>⟨_,O,λ_=>⟨1,O,bC O,j.ext f,b.cg f⟩,λ_=>⟨k,O,bR ⟨s.1,s.2,V⟩,j.ext f,b.cg f⟩⟩

section
variable{t:Int}{x:Ex}
def Pw:af:=[⟨0,0,[[],[0,1]]⟩,⟨0,0,[]⟩,⟨0,0,[[],[3,0,3]]⟩]
def XD:af:=[⟨0,0,[[1,3]]⟩,⟨1,0,[]⟩,⟨0,0,[[1,1,0],[0],[3]]⟩,⟨0,1,[]⟩]
def vA:List af:=Pw::XD.map λd=>Pw++[d]
def Um:List (ab×Int):=[([],0),([1],0),([1,1],1),([1],1),([1,0],1),([2,1],1),([1,1],0),([3],0),([0],1),([0,1],1),([3,0],3),([3],1),([1,3,0],0),([0],0),([0,0],0),([1,0],0)]
@[grind cases] structure GP (ds:af) (fs:av):Prop where
 ds:ds∈vA
 jw:0<fs.length
 p7:fs.length<=4
 eS:∀q∈fs,(q.aY,q.bQ)∈Um
def Lo(t:Int):Prop:=t=0\/t=1\/t=3
instance(t:Int):Decidable (Lo t):=inferInstanceAs (Decidable (_\/_))
def Ty(b:af)(t:Int):Prop:=0<=t/\t<=(b.length:Int)
instance(b:af)(t:Int):Decidable (Ty b t):=inferInstanceAs (Decidable (_/\_))
section
variable{b:af}{e:av}
theorem tB:∀b∈vA,3<=b.length/\b.length<=4:=cD
def VV:∀b∈vA,∀t∈[(0:Int),1,2,3,4],∀c∈(cT b t).take 2,((cT b t).head?=some c\/t∉cX b c)->(cX b c).length<=3/\(∀f∈cX b c,Lo f)/\(Lo t->(cX b c).length=0):=cD
def Xj:∀b∈vA,0<(cT b 1).length/\0<(cT b 3).length/\(cT b 0).length=0:=cD
def VT:∀b∈vA,∀d∈b,d.eB.length=0->∀s∈Um,s.1.getLast?=some d.qe->s.2=d.to->∀f∈s.1.dropLast,Lo f:=cD
theorem RX:∀b∈vA,cT b 1=[0,1]/\cT b 3=[2,3]/\cX b 0=[]/\cX b 1=[0,1]/\cX b 2=[]/\cX b 3=[3,0,3]:=cD
def DV:∀b∈vA,(∀t∈[(0:Int),1,2,3,4],∀c∈cT b t,(cX b c).length<=3/\∀f∈cX b c,Ty b f)/\(∀t∈[(0:Int),1,2,3,4],(cT b t).length<=3)/\(∀d∈b,Ty b d.qe):=cD
def VU:∀b∈vA,∀t∈[(1:Int),3,4],(t:Int)<=b.length->(∀d∈b[t.toNat -1]?,d.eB.length≠0)->0<(cT b t).length:=cD
def Bb:∀s∈Um,s.1.length<=3/\(∀t∈s.1,0<=t/\t<=3)/\0<=s.2/\s.2<=3:=cD
def aaN(a:0<=t)(b:t<=4):t∈[(0:Int),1,2,3,4]:=eX
def Ty.adW(hd:b∈vA)(h:Ty b t):t∈[(0:Int),1,2,3,4]:=aaN h.1 (VI (tB b hd) h.2)
def GP.ty(h:GP b e)(a:0<=t)(c:t<=3):Ty b t:=⟨a,oh (tB b h.ds)⟩
theorem Lo.ty(hd:b∈vA)(h:Lo t):Ty b t:=by have:=tB b hd;unfold Lo at h;constructor<;>omega
end
def Ze:∀b∈vA,∀d∈b,0<d.eB.length->d.eB.length<=3/\d.qe=0/\d.to=0/\∀f∈d.eB,f.length<=3/\∀t∈f,0<=t/\t<=(b.length:Int):=cD
def Zf:∀b∈vA,∀k∈List.range b.length,∀d∈b[k]?,d.eB.length=0->(∀e∈b.take k,¬(e.eB.length=0/\e.qe=d.qe/\e.to=d.to))/\Ty b d.qe/\Ty b d.to:=cD
def xc{b:af}(h:b∈vA):eR b:=
 ⟨(tB b h).2,λk d a=>⟨Ze b h d (aZ a),Zf b h k (qY.2 (br a)) d a⟩⟩
@[grind cases] structure XF (ds:af) (nf a:Nat) (op cE:Int) (n:Nat):Prop where
 o:0<=op/\op<=13
 var:op=12->0<=cE/\cE<(a:Int)
 Nk:op=13->n=2
 aeK:op=7->n=3
 lY:op=8->n=1+(cT ds cE).length/\0<(cT ds cE).length
 jF:op=9->0<=cE/\cE<(nf:Int)
def xb(b:af)(c cE:Int):Nat->Nat
 |0=>0
 |i+1=>if c=13 then 1 else Gc b c cE i
inductive WX(b:af)(d:Nat):Nat->Ex->Prop
 |mk {a:Nat} {c cE:Int} {dv:ax} (iY:XF b d a c cE dv.length) (hk:∀(i:Nat)(e:Ex),dv[i]? =some e->WX b d (a+xb b c cE i) e):WX b d a (.mk c cE dv)
variable{b:af}{d a:Nat}{c cE:Int}{dv:ax}
def WX.cy{e:Ex}(h:WX b d a e):XF b d a e.op e.cE e.dv.length/\∀(i:Nat)(x:Ex),e.dv[i]? =some x->WX b d (a+xb b e.op e.cE i) x:=by
 cases h with
 |mk iY c=>exact⟨iY,c⟩
def aeQ(a:c≠13)(d:c≠8)(i:Nat):xb b c cE i=0:=by
 cases i with
 |zero=>rfl
 |succ i=>show(if c=13 then 1 else Gc b c cE i)=0;rw[aW a,Py d]
theorem WX.iY(k:0<=c/\c<=11)(g:c=7->dv.length=3)(f:c≠8)(i:c=9->0<=cE/\cE<(d:Int))(j:∀e∈dv,WX b d a e):WX b d a (.mk c cE dv):=
 .mk ⟨⟨V,V⟩,λh=>V,λh=>V,g,λh=>absurd h f,i⟩ λl e h=>by rw[aeQ V f];exact j e (aZ h)
def WX.rB(n:Int):WX b d a (.mk 0 n []):=by grind [WX.iY]
def WX.var(h:0<=cE/\cE<(a:Int)):WX b d a (.mk 12 cE []):=.mk ⟨cD,λ_=>h,λh=>V,λh=>V,λh=>V,λh=>V⟩ bO
def WX.lt{y:Ex}(e:WX b d a x)(f:WX b d (a+1) y):WX b d a (.mk 13 0 [x,y]):=
 .mk ⟨cD,λh=>V,λ_=>O,λh=>V,λh=>V,λh=>V⟩ λi g c=>by
  rcases i with _|_|i
  .simp at c;subst c;exact e
  .simp at c;subst c;exact f
  .simp at c
theorem WX.mt{l:ax}(k:WX b d a x)(n:l.length=(cT b cE).length)(m:0<l.length)(j:∀(i:Nat)(e:Ex)(f:Int),l[i]? =some e->(cT b cE)[i]? =some f->WX b d (a+(cX b f).length) e):WX b d a (.mk 8 cE (x::l)):=
 .mk ⟨cD,λh=>V,λh=>V,λh=>V,λ_=>⟨eX,V⟩,λh=>V⟩ λi e c=>by
  rcases i with _|i
  .simp at c;subst c;exact k
  .simp at c;let⟨f,g⟩:=dV (cT b cE) i (oh (br c));have:=j i e f c g;show WX b d (a+Gc b 8 cE i) e;grind [Px]
end
end Go.Proofs.YtbbbdejieenniaaGreat
