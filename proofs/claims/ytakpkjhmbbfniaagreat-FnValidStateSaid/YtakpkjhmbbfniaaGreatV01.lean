/- Part of a proof, joined by a program. -/
import Derived.Test.YtakpkjhmbbfniaaGreatV00
set_option linter.unusedVariables false
set_option linter.unusedSimpArgs false
set_option linter.defProp false
set_option maxHeartbeats 8000000
set_option maxRecDepth 100000
section
namespace Go.Vc
variable{P:Program}{T:TT}{G:List Nat}{n:Nat}
def JP:Op->Bool
 | .alloc _| .box ..| .buildSlice ..| .store ..| .makeSlice ..| .makeMap ..| .lookup ..| .mapUpdate ..| .makeFunc ..=>true
 | .call ⟨.builtin .append,_,_⟩| .call ⟨.builtin .copy,_,_⟩=>true
 | .call ⟨.builtin _,_,_⟩=>false
 | .call _=>true
 |_=>false
def pQ(n:Nat):Option Nat->Bool
 |none=>true
 |some d=>Nat.blt d n
def JQ(ops:List Oper)(j:Nat):Option Nat:=
 match FL ops j with
 |some o=>o.dst
 |none=>none
def gd(ops:List Oper)(fr:Fr)(g:Option (Nat×Bool))(Pa no:Fr->Prop):Prop:=
 match g with
 |none=>Pa fr
 |some (j,want)=>match JQ ops j with
  |none=>False
  |some d=>match eJ fr d with
   | .tt=>bif want then Pa fr else no fr
   | .ff=>bif want then no fr else Pa fr
   | .un=>no fr
   | .c (.t x)=>(x=true->bif want then Pa ((d,.tt)::fr)else no ((d,.tt)::fr))/\(x=false->bif want then no ((d,.ff)::fr)else Pa ((d,.ff)::fr))
   |_=>False
def pR(P:Program)(T:TT)(G:List Nat)(n:Nat)(ops:List Oper):List Oper->Fr->ah->(Fr->ah->Prop)->Prop
 |[],fr,m,k=>k fr m
 |o::iE,fr,m,k=>
  bif pQ n o.dst then
   gd ops fr o.guard
    (λfr=>bif JP o.op then wr P T G n fr m o.dst o.type (λfr' x m'=>pR P T G n ops iE (rL fr' o.dst x) m' k) o.op
     else rd T fr m (λx=>pR P T G n ops iE (rL fr o.dst x) m k) o.op)
    (λfr=>pR P T G n ops iE (rL fr o.dst .un) m k)
  else False
def xF:List Oper->List Nat
 |[]=>[]
 |o::r=>match o.dst with
  |some d=>d::xF r
  |none=>xF r
def jL(M:List Nat)(a a':Act):Prop:=∀t,t∉M->a'.tmps.getD t undef=a.tmps.getD t undef
theorem jL.av(M:List Nat)(a:Act):jL M a a:=λ_ _=>rfl
theorem jL.trans{M:List Nat}{a b c:Act}(h:jL M a b)(k:jL M b c):jL M a c:=λt ht=>(k t ht).trans (h t ht)
theorem jL.put{M:List Nat}{d:Option Nat}(hd:∀t,d=some t->t∈M)(v:Value)(a:Act):jL M a (a.put d v):=by
 cases d with
 |none=>exact jL.av M a
 |some d=>
  intro t ht;have cx:d≠t:=λe=>ht (e▸hd d rfl);simp[Act.put,aGI cx]
theorem JR{o:Oper}{d:Nat}(hd:o.dst=some d):∀(ops:List Oper),o∈ops->d∈xF ops:=by
 intro ops;induction ops with
 |nil=>intro h;cases h
 |cons x r ih=>
  intro h;rcases List.mem_cons.1 h with h1|h1
  ·subst h1;simp only[xF,hd];exact aF3
  ·have:=ih h1;unfold xF;cases x.dst with
   |none=>exact this
   |some e=>exact aFT _ this
theorem Ca{d:Option Nat}(h:pQ n d=true):∀t,d=some t->t<n:=by
 rintro t rfl;have:Nat.blt t n=true:=h;simpa[Nat.blt,Nat.succ_le_iff]using this
theorem FU(dK:Array Oper){fr:Fr}{a:Act}{m:ah}(hR:gW n fr a)(hB:Bx n fr m)(o:Oper){Pa no:Fr->Prop}(h:gd dK.toList fr o.guard Pa no):
 (Region.wanted o (yielded dK a.tmps)=true/\∃fr',Pa fr'/\gW n fr' a/\Bx n fr' m)\/
 (Region.wanted o (yielded dK a.tmps)=false/\∃fr',no fr'/\gW n fr' a/\Bx n fr' m):=by
 unfold gd at h
 cases hg:o.guard with
 |none=>
  rw[hg]at h
  exact Or.inl ⟨by simp[Region.wanted,hg],fr,h,hR,hB⟩
 |some p=>
  obtain⟨j,want⟩:=p
  rw[hg]at h
  simp only at h
  split at h
  ·exact h.elim
  ·rename_i d hd
   have hgs:(dK[j]?).bind (·.dst)=some d:=by
    unfold JQ at hd;rw[mQ]at hd;have e:dK.toList[j]? =dK[j]? :=az;rw[e]at hd;split at hd
    ·rename_i oj hoj;rw[hoj];exact hd
    ·simp at hd
   have FF:=hR.aE d
   have Sn:∀b:Bool,a.tmps.getD d undef=.bool b->yielded dK a.tmps j=some b:=by
    intro b hb;have:a.tmps[d]? =some (.bool b):=by
     cases hx:a.tmps[d]? with
     |none=>rw[aHl,hx]at hb;simp[undef]at hb
     |some y=>rw[aHl,hx]at hb;simp at hb;rw[hb]
    simp[yielded,hgs,this]
   split at h
   ·rename_i hf
    rw[hf]at FF
    have hy:=Sn true FF
    cases want
    ·exact Or.inr ⟨by simp[Region.wanted,hg,hy],fr,h,hR,hB⟩
    ·exact Or.inl ⟨by simp[Region.wanted,hg,hy],fr,h,hR,hB⟩
   ·rename_i hf
    rw[hf]at FF
    have hy:=Sn false FF
    cases want
    ·exact Or.inl ⟨by simp[Region.wanted,hg,hy],fr,h,hR,hB⟩
    ·exact Or.inr ⟨by simp[Region.wanted,hg,hy],fr,h,hR,hB⟩
   ·rename_i hf
    rw[hf]at FF
    have hy:yielded dK a.tmps j=none:=by
     have aaO:a.tmps.getD d undef=undef:=FF;rw[aHl]at aaO;unfold yielded;rw[hgs];cases hx:a.tmps[d]? with
     |none=>simp[hx]
     |some y=>rw[hx]at aaO;simp at aaO;subst aaO;simp[hx,undef]
    exact Or.inr ⟨by simp[Region.wanted,hg,hy],fr,h,hR,hB⟩
   ·rename_i x hf
    rw[hf]at FF
    have hy:=Sn x FF
    have aaP:∀b:Bool,x=b->gW n ((d,if b then SV.tt else SV.ff)::fr) a:=by
     rintro b rfl;refine⟨hR.size,hR.defers,λt=>?_⟩;simp only[eJ];cases hb:Nat.beq d t
     ·exact hR.aE t
     ·have:=aF2 hb;subst this;cases x<;>exact FF
    obtain⟨h1,h2⟩:=h
    cases x
    ·have h2:=h2 rfl
     cases want
     ·exact Or.inl ⟨by simp[Region.wanted,hg,hy],_,h2,aaP false rfl,hB.fC az⟩
     ·exact Or.inr ⟨by simp[Region.wanted,hg,hy],_,h2,aaP false rfl,hB.fC az⟩
    ·have h1:=h1 rfl
     cases want
     ·exact Or.inr ⟨by simp[Region.wanted,hg,hy],_,h1,aaP true rfl,hB.fC az⟩
     ·exact Or.inl ⟨by simp[Region.wanted,hg,hy],_,h1,aaP true rfl,hB.fC az⟩
   ·exact h.elim
theorem aiB(hT:uK P T){fr:Fr}{a:Act}(hR:gW n fr a){m:ah}(hB:Bx n fr m){k:SV->Prop}{o:Oper}(h:rd T fr m k o.op){w:World}(hw:w.heap=m)
 {next:Act->World->Prop}{Q:Exit->Act->World->Prop}(hn:∀x v,k x->x.Is v->next (a.put o.dst v) w):o.wp P a w next Q:=by
 obtain⟨x,v,hk,hx,lF⟩:=JJ (P:=P) hT hR hB o h
 unfold Oper.wp
 rw[lF w (λq _=>by rw[hw])]
 exact hn x v hk hx
theorem sA(hT:uK P T)(hG:Z9 P G)(dK:Array Oper){Q:Exit->Act->World->Prop}{w0:World}{a0:Act}:
 ∀(iE:List Oper)(fr:Fr)(m:ah)(k:Fr->ah->Prop)(a:Act)(w:World),(∀o∈iE,o∈dK.toList)->pR P T G n dK.toList iE fr m k->gW n fr a->Bx n fr m->w.heap=m->mN w0 w->
  jL (xF dK.toList) a0 a->
  (∀fr' a' w',k fr' w'.heap->gW n fr' a'->Bx n fr' w'.heap->mN w0 w'->jL (xF dK.toList) a0 a'->Q .normal a' w')->wpList P dK Q iE a w
 |[],fr,m,k,a,w,_,h,hR,hB,hw,hs,hk,hq=>by
  subst hw;exact hq fr a w h hR hB hs hk
 |o::iE,fr,m,k,a,w,OP,h,hR,hB,hw,hs,hk,hq=>by
  simp only[pR]at h;cases hd:pQ n o.dst
  ·rw[hd]at h;exact h.elim
  ·rw[hd]at h;simp only[aG4]at h;have kU:=Ca hd;have VM:∀d,o.dst=some d->d∈xF dK.toList:=λd Je=>JR Je _ (OP o aF3);have XJ:=λo' Lj=>OP o' (aFT _ Lj);unfold wpList;rcases FU dK hR hB o h with⟨zA,fr',Qu,nI,ov⟩|⟨zA,fr',LO,nI,ov⟩
   ·rw[aFW zA];refine .inl ?_;cases hwr:JP o.op
    ·simp only[hwr,aHd]at Qu;refine aiB hT nI ov Qu hw λx v hx hv=>?_;exact sA hT hG dK iE _ m k _ w XJ hx (nI.put hv kU) (ov.put _ _) hw hs (hk.trans (jL.put VM _ _)) hq
    ·simp only[hwr,aG4]at Qu;refine PH hT hG nI ov o Qu w hw _ _ λfr2 x v w' hx VN hB2 hv uH=>?_;exact sA hT hG dK iE _ _ k _ w' XJ hx (VN.put hv kU) (hB2.put _ _) rfl (hs.trans uH) (hk.trans (jL.put VM _ _)) hq
   ·rw[aFS (by rw[zA];simp)];exact sA hT hG dK iE _ m k _ w XJ LO (nI.put (x:=.un) rfl kU) (ov.put _ _) hw hs (hk.trans (jL.put VM _ _)) hq
end Go.Vc
end
section
namespace Go.Vc
variable{P:Program}{T:TT}{G:List Nat}{n:Nat}
def rO:List Nat->Nat->Nat
 |[],_=>0
 |x::_,0=>x
 |_::r,n+1=>rO r n
def jb:List Edge->Nat
 |[]=>0
 |e::r=>bif Region.binds .any e then 2^e.on|||jb r else jb r
def lH(bm:List Nat):List Edge->Nat
 |[]=>0
 |e::r=>bif Region.binds .any e then(2^e.on|||rO bm e.on)|||lH bm r else lH bm r
def iY(Vg:List Nat):List Oper->List Nat->List Nat->Bool
 |[],[],[]=>true
 |o::ops,p::pm,b::bm=>Nat.beq p (jb o.after.toList)&&Nat.beq b (lH Vg o.after.toList)&&iY Vg ops pm bm
 |_,_,_=>false
def SZ:Op->List Operand
 | .alloc _| .ready _| .waits _=>[]
 | .move x| .assign x| .box _ x| .load _ x| .nilCheck x| .unOp _ _ x| .convert _ _ x| .sliceToArrayPointer _ x| .makeInterface _ x
 | .makeChan _ x| .fieldAddr _ x _| .field _ x _| .range _ x| .next x _| .entry x| .typeAssert x _ _ _| .extract x _| .panic x| .recv _ x _=>[x]
 | .pick c a b=>[c,a,b]
 | .build _ ps| .buildSlice _ _ ps=>ps.toList.map (·.2)
 | .store _ a v| .binOp _ _ a v _| .makeSlice _ a v| .indexAddr _ a v| .index _ a v| .lookup _ a v _| .mapEntry _ a v| .send a v=>[a,v]
 | .makeFunc _ first captured=>first.toList++captured.toList
 | .makeMap _ r=>r.toList
 | .slice _ x l h m=>[x]++l.toList++h.toList++m.toList
 | .mapUpdate _ m k v| .entryStore _ m k v| .insert _ m k v=>[m,k,v]
 | .call ⟨.value f,args,_⟩| .go ⟨.value f,args,_⟩| .defer ⟨.value f,args,_⟩=>f::args.toList
 | .call ⟨.invoke f _,args,_⟩| .go ⟨.invoke f _,args,_⟩| .defer ⟨.invoke f _,args,_⟩=>f::args.toList
 | .call ⟨.builtin _,args,_⟩| .go ⟨.builtin _,args,_⟩| .defer ⟨.builtin _,args,_⟩=>args.toList
 | .select cs _=>(cs.flatMap λc=>#[c.chan]++c.send.toArray).toList
theorem Wl(op:Op):op.operands.toList=SZ op:=by
 cases op<;>try (simp[Op.operands,SZ];done)
 all_goals
  rename_i c
  obtain⟨callee,args,ts⟩:=c
  cases callee<;>simp[Op.operands,SZ,Call.operands]
def HI(d:Nat):List Operand->Bool
 |[]=>false
 | .tmp t::r=>Nat.beq t d||HI d r
 |_::r=>HI d r
def Oc(ops:List Oper)(o:Oper)(d:Nat):Bool:=
 HI d (SZ o.op)||(match o.guard with
  |some (g,_)=>(match JQ ops g with|some t=>Nat.beq t d|none=>false)
  |none=>false)
def Od(ops:List Oper)(x y:Oper):Bool:=
 (match x.dst with
  |some d=>!Oc ops y d&&(match y.dst with|some e=>!Nat.beq d e|none=>true)
  |none=>true)&&
 (match y.dst with
  |some d=>!Oc ops x d
  |none=>true)
def ae3:Op->Bool
 | .select ..=>true
 |_=>false
def xG(vM:List Oper)(i:Nat)(bi:Nat)(o:Oper):Nat->List Oper->List Nat->Bool
 |_,[],_=>true
 |_,_,[]=>true
 |j,x::ops,p::pm=>(Nat.beq j i||Nat.testBit p i||Nat.testBit bi j||Od vM o x)&&xG vM i bi o (j+1) ops pm
def DQ(vM:List Oper)(pm0:List Nat):Nat->List Oper->List Nat->Bool
 |_,[],_=>true
 |_,_,[]=>true
 |i,o::ops,b::bm=>!ae3 o.op&&(JP o.op||xG vM i b o 0 vM pm0)&&DQ vM pm0 (i+1) ops bm
def iF(done p i:Nat):Bool:=!(Nat.testBit done i)&&Nat.beq (p&&&done) p
def uP(done:Nat):Nat->List Oper->List Nat->Option Nat
 |_,[],_=>none
 |_,_,[]=>none
 |i,o::ops,p::pm=>bif iF done p i&&!(JP o.op)then some i else uP done (i+1) ops pm
def mT(done:Nat):Nat->List Oper->List Nat->List Nat
 |_,[],_=>[]
 |_,_,[]=>[]
 |i,_::ops,p::pm=>bif iF done p i then i::mT done (i+1) ops pm else mT done (i+1) ops pm
def JS(m m':ah):List (Nat×Nat)->Prop->Prop
 |[],k=>k
 |(b,o)::r,k=>ad m' b o=ad m b o/\JS m m' r k
def Br(bi:Nat)(m m':ah):List (Nat×List (Nat×Nat))->Prop->Prop
 |[],k=>k
 |(r,As)::L,k=>bif Nat.testBit bi r then Br bi m m' L k else JS m m' As (Br bi m m' L k)
def Oe:List Nat->(Nat->Prop)->Prop
 |[],_=>True
 |[i],f=>f i
 |i::r,f=>f i/\Oe r f
def lT(P:Program)(T:TT)(G:List Nat)(n:Nat)(ops:List Oper)(pm bm:List Nat):Nat->Nat->Fr->ah->List (Nat×List (Nat×Nat))->(Fr->ah->Prop)->Prop
 |0,done,fr,m,_,k=>match mT done 0 ops pm with
  |[]=>k fr m
  |_=>False
 |fO+1,done,fr,m,L,k=>
  match uP done 0 ops pm with
  |some i=>match FL ops i with
   |some o=>bif pQ n o.dst then
    gd ops fr o.guard
     (λfr=>rd T fr m (λx=>lT P T G n ops pm bm fO (done|||2^i) (rL fr o.dst x) m ((i,VI T fr o.op)::L) k) o.op)
     (λfr=>lT P T G n ops pm bm fO (done|||2^i) (rL fr o.dst .un) m L k)
    else False
   |none=>False
  |none=>match mT done 0 ops pm with
   |[]=>k fr m
   |rs=>Oe rs λi=>match FL ops i with
    |some o=>bif pQ n o.dst then
     gd ops fr o.guard
      (λfr=>wr P T G n fr m o.dst o.type (λfr' x m'=>Br (rO bm i) m m' L (lT P T G n ops pm bm fO (done|||2^i) (rL fr' o.dst x) m' L k)) o.op)
      (λfr=>lT P T G n ops pm bm fO (done|||2^i) (rL fr o.dst .un) m L k)
     else False
    |none=>False
theorem kM(r:Nat):∀(es:List Edge),Nat.testBit (jb es) r=true<->∃e∈es,Region.binds .any e=true/\e.on=r
 |[]=>by simp[jb]
 |e::es=>by
  have ih:=kM r es;simp only[jb];cases hb:Region.binds .any e
  ·simp only[aHd,ih,aF0,exists_eq_or_imp,hb];simp
  ·simp only[aG4,aIc,aGe,ih,aF0,exists_eq_or_imp,hb,true_and,aHH,aFP]
theorem vQ(bm:List Nat)(r:Nat):∀(es:List Edge),Nat.testBit (lH bm es) r=true->∃e∈es,Region.binds .any e=true/\(e.on=r\/Nat.testBit (rO bm e.on) r=true)
 |[],h=>by simp[lH]at h
 |e::es,h=>by
  have ih:=vQ bm r es;simp only[lH]at h;cases hb:Region.binds .any e
  ·simp only[hb,aHd]at h;obtain⟨e',MF,h'⟩:=ih h;exact⟨e',aFT _ MF,h'⟩
  ·simp only[hb,aG4,aIc,aGe,aHH,aFP]at h;rcases h with h|h
   ·exact⟨e,aF3,hb,h⟩
   ·obtain⟨e',MF,h'⟩:=ih h;exact⟨e',aFT _ MF,h'⟩
theorem jr(Vg:List Nat):∀{ops:List Oper}{pm bm:List Nat},iY Vg ops pm bm=true->∀(i:Nat)(o:Oper),ops[i]? =some o->
 pm[i]? =some (jb o.after.toList)/\rO bm i=lH Vg o.after.toList/\∃b,bm[i]? =some b
 |[],[],[],_,i,o,h=>by simp at h
 |x::ops,p::pm,b::bm,h,i,o,ho=>by
  simp only[iY,aF6]at h;obtain⟨⟨h1,h2⟩,h3⟩:=h;cases i with
  |zero=>
   simp at ho;subst ho;exact⟨by simp[aF2 h1],by simp[rO,aF2 h2],b,az⟩
  |succ i=>
   have:=jr Vg h3 i o (by simpa using ho);simpa[rO]using this
 |[],[],_::_,h,_,_,_=>by simp[iY]at h
 |[],_::_,_,h,_,_,_=>by simp[iY]at h
 |_::_,[],_,h,_,_,_=>by simp[iY]at h
 |_::_,_::_,[],h,_,_,_=>by simp[iY]at h
theorem HJ(Vg:List Nat):∀{ops:List Oper}{pm bm:List Nat},iY Vg ops pm bm=true->pm.length=ops.length/\bm.length=ops.length
 |[],[],[],_=>⟨rfl,rfl⟩
 |x::ops,p::pm,b::bm,h=>by
  simp only[iY,aF6]at h;have:=HJ Vg h.2;simp[this.1,this.2]
 |[],[],_::_,h=>by simp[iY]at h
 |[],_::_,_,h=>by simp[iY]at h
 |_::_,[],_,h=>by simp[iY]at h
 |_::_,_::_,[],h=>by simp[iY]at h
end Go.Vc
end
section
namespace Go.Vc
variable{P:Program}{T:TT}{G:List Nat}{n:Nat}
theorem qF{d:Nat}:∀{l:List Operand},HI d l=false->d∉(l.filterMap λ| .tmp t=>some t|_=>none)
 |[],_=>az
 |x::r,h=>by
  cases x with
  |tmp t=>
   simp only[HI,aF9]at h;have ih:=qF h.2;have:t≠d:=λe=>by subst e;simp at h
   simp only[List.filterMap_cons,aF0,aHO];exact⟨λe=>this e.symm,ih⟩
  |const v=>simpa using qF (l:=r) (by simpa[HI]using h)
  |global g=>simpa using qF (l:=r) (by simpa[HI]using h)
  |func f=>simpa using qF (l:=r) (by simpa[HI]using h)
theorem Wm(dK:Array Oper)(g:Nat):JQ dK.toList g=(dK[g]?).bind (·.dst):=by
 unfold JQ;rw[mQ];have e:dK.toList[g]? =dK[g]? :=az;rw[e];cases dK[g]? <;>rfl
theorem HK(dK:Array Oper){o:Oper}{d:Nat}(h:Oc dK.toList o d=false):d∉o.looksAt dK:=by
 simp only[Oc,aF9]at h;unfold Oper.looksAt;rw[Wl,List.mem_append,aHO];refine⟨qF h.1,?_⟩;have h2:=h.2;cases hg:o.guard with
 |none=>simp
 |some p=>
  obtain⟨g,b⟩:=p;rw[hg]at h2;simp only at h2⊢;rw[Wm]at h2;cases hd:(dK[g]?).bind (·.dst)with
  |none=>simp
  |some t=>
   rw[hd]at h2;simp only at h2;simp only[Option.toList_some,aG1];intro e;subst e;simp at h2
theorem PJ(dK:Array Oper){x y:Oper}(h:Od dK.toList x y=true):x.apart dK y=true:=by
 simp only[Od,aF6]at h;obtain⟨h1,h2⟩:=h;unfold Oper.apart;simp only[aF6];constructor
 ·cases hx:x.dst with
  |none=>rfl
  |some d=>
   rw[hx]at h1;simp only[aF6,aGQ]at h1⊢;refine⟨?_,?_⟩
   ·have:=HK dK h1.1;simpa using this
   ·have nJ:=h1.2;cases hy:y.dst with
    |none=>simp
    |some e=>
     rw[hy]at nJ;simp only[aGQ]at nJ;simp only[aHG,ne_eq,aHU];intro he;subst he;simp at nJ
 ·cases hy:y.dst with
  |none=>rfl
  |some d=>
   rw[hy]at h2;simp only[aGQ]at h2⊢;have:=HK dK h2;simpa using this
theorem Bt(vM:List Oper)(i bi:Nat)(o:Oper):∀{ops:List Oper}{pm:List Nat}{j0:Nat},xG vM i bi o j0 ops pm=true->∀(j:Nat)(x:Oper)(p:Nat),ops[j]? =some x->pm[j]? =some p->
 j0+j=i\/Nat.testBit p i=true\/Nat.testBit bi (j0+j)=true\/Od vM o x=true
 |[],_,_,_,j,x,p,h,_=>by simp at h
 |_::_,[],_,_,j,x,p,_,h=>by simp at h
 |y::ops,q::pm,j0,h,j,x,p,hx,hp=>by
  simp only[xG,aF6,aGe]at h;obtain⟨h1,h2⟩:=h;cases j with
  |zero=>
   simp at hx hp;subst hx;subst hp;rcases h1 with((h1|h1)|h1)|h1
   ·exact Or.inl (by simpa using aF2 h1)
   ·exact Or.inr (Or.inl h1)
   ·exact Or.inr (Or.inr (Or.inl (by simpa using h1)))
   ·exact Or.inr (Or.inr (Or.inr h1))
  |succ j=>
   have:=Bt vM i bi o h2 j x p (by simpa using hx) (by simpa using hp);have e:j0+1+j=j0+(j+1):=ab;rw[e]at this;exact this
theorem uQ(vM:List Oper)(pm0:List Nat):∀{ops:List Oper}{bm:List Nat}{i0:Nat},DQ vM pm0 i0 ops bm=true->∀(i:Nat)(o:Oper)(b:Nat),ops[i]? =some o->bm[i]? =some b->
 ae3 o.op=false/\(JP o.op=true\/xG vM (i0+i) b o 0 vM pm0=true)
 |[],_,_,_,i,o,b,h,_=>by simp at h
 |_::_,[],_,_,i,o,b,_,h=>by simp at h
 |y::ops,q::bm,i0,h,i,o,b,ho,hb=>by
  simp only[DQ,aF6,aGe,aGQ]at h;obtain⟨⟨h1,h2⟩,h3⟩:=h;cases i with
  |zero=>simp at ho hb;subst ho;subst hb;exact⟨h1,by simpa using h2⟩
  |succ i=>
   have:=uQ vM pm0 h3 i o b (by simpa using ho) (by simpa using hb);have e:i0+1+i=i0+(i+1):=ab;rw[e]at this;exact this
theorem HL(p d:Nat):Nat.beq (p&&&d) p=true<->∀r,Nat.testBit p r=true->Nat.testBit d r=true:=by
 constructor
 ·intro h r hr;have e:=aF2 h;rw[<-e,Nat.testBit_and]at hr;simp only[aF6]at hr;exact hr.2
 ·intro h;have:p&&&d=p:=by
   apply Nat.eq_of_testBit_eq;intro r;rw[Nat.testBit_and];cases hp:Nat.testBit p r
   ·rfl
   ·simp[h r hp]
  rw[this];simp
structure Of(N done:Nat)(bI:Array Bool):Prop where
 size:bI.size=N
 bit:∀i,bI.getD i false=Nat.testBit done i
theorem Of.un{N done:Nat}{bI:Array Bool}(h:Of N done bI){i:Nat}(hi:i<N):bI.getD i true=Nat.testBit done i:=by
 rw[<-h.bit i];have:i<bI.size:=by rw[h.size];exact hi
 simp[this]
theorem Of.set{N done:Nat}{bI:Array Bool}(h:Of N done bI){i:Nat}(hi:i<N):Of N (done|||2^i) (bI.setIfInBounds i true):=by
 refine⟨by simp[h.size],λj=>?_⟩;have cA:i<bI.size:=by rw[h.size];exact hi
 rw[aIc,aHH];by_cases e:i=j
 ·subst e;simp[cA]
 ·rw[getD_set_ne false e,h.bit j];simp[e]
theorem FV(dK:Array Oper){pm Vg bm:List Nat}(hm:iY Vg dK.toList pm bm=true){done:Nat}{bI:Array Bool}(hD:Of dK.size done bI)(i:Nat):
 i∈Region.ready .any dK bI<->∃o p,dK[i]? =some o/\pm[i]? =some p/\iF done p i=true:=by
 rw[mem_ready]
 constructor
 ·rintro⟨h0,o,ho,gZ⟩
  have hi:i<dK.size:=(Array.getElem?_eq_some_iff.1 ho).1
  have hp:=(jr Vg hm i o (by simpa using ho)).1
  refine⟨o,_,ho,hp,?_⟩
  simp only[iF,aF6,aGQ]
  refine⟨by rw[<-hD.un hi];exact h0,(HL _ _).2 λr hr=>?_⟩
  obtain⟨e,he,hb,rfl⟩:=(kM r _).1 hr
  rw[<-hD.bit]
  exact gZ e (Array.mem_toList_iff.1 he) hb
 ·rintro⟨o,p,ho,hp,hr⟩
  have hi:i<dK.size:=(Array.getElem?_eq_some_iff.1 ho).1
  have Ac:=(jr Vg hm i o (by simpa using ho)).1
  rw[hp]at Ac
  simp only[aHU]at Ac
  subst Ac
  simp only[iF,aF6,aGQ]at hr
  refine⟨by rw[hD.un hi];exact hr.1,o,ho,λe he hb=>?_⟩
  rw[hD.bit]
  exact(HL _ _).1 hr.2 e.on ((kM _ _).2 ⟨e,Array.mem_toList_iff.2 he,hb,rfl⟩)
theorem JT(done:Nat):∀{ops:List Oper}{pm:List Nat}{i0 i:Nat},i∈mT done i0 ops pm<->∃j o p,i=i0+j/\ops[j]? =some o/\pm[j]? =some p/\iF done p i=true
 |[],_,_,_=>by simp[mT]
 |_::_,[],_,_=>by simp[mT]
 |x::ops,q::pm,i0,i=>by
  have ih:=JT done (ops:=ops) (pm:=pm) (i0:=i0+1) (i:=i);have key:(∃j o p,i=i0+j/\(x::ops)[j]? =some o/\(q::pm)[j]? =some p/\iF done p i=true)<->
   ((i=i0/\iF done q i0=true)\/∃j o p,i=i0+1+j/\ops[j]? =some o/\pm[j]? =some p/\iF done p i=true):=by
   constructor
   ·rintro⟨j,o,p,rfl,ho,hp,hr⟩
    cases j with
    |zero=>simp at hp;subst hp;exact Or.inl ⟨rfl,by simpa using hr⟩
    |succ j=>exact Or.inr ⟨j,o,p,ab,by simpa using ho,by simpa using hp,by rwa[show i0+(j+1)=i0+(j+1)from rfl]at hr⟩
   ·rintro(⟨rfl,hr⟩|⟨j,o,p,rfl,ho,hp,hr⟩)
    ·exact⟨0,x,q,rfl,az,az,hr⟩
    ·exact⟨j+1,o,p,ab,by simpa using ho,by simpa using hp,hr⟩
  rw[key,<-ih];simp only[mT];cases hb:iF done q i0
  ·simp
  ·simp
theorem HM(done:Nat):∀{ops:List Oper}{pm:List Nat}{i0 i:Nat},uP done i0 ops pm=some i->∃j o p,i=i0+j/\ops[j]? =some o/\pm[j]? =some p/\iF done p i=true/\JP o.op=false
 |[],_,_,_,h=>by simp[uP]at h
 |_::_,[],_,_,h=>by simp[uP]at h
 |x::ops,q::pm,i0,i,h=>by
  simp only[uP]at h;cases hb:(iF done q i0&&!(JP x.op))
  ·rw[hb]at h;obtain⟨j,o,p,rfl,ho,hp,hr,hw⟩:=HM done h;exact⟨j+1,o,p,ab,by simpa using ho,by simpa using hp,hr,hw⟩
  ·rw[hb]at h;simp at h;subst h;simp only[aF6,aGQ]at hb;exact⟨0,x,q,rfl,az,az,hb.1,hb.2⟩
theorem MW:∀{l:List Nat}{f:Nat->Prop},Oe l f->∀i∈l,f i
 |[i],f,h,j,hj=>by simp at hj;subst hj;exact h
 |i::i'::r,f,h,j,hj=>by
  rcases List.mem_cons.1 hj with rfl|hj
  ·exact h.1
  ·exact MW h.2 j hj
theorem JU{m m':ah}:∀{l:List (Nat×Nat)}{k:Prop},JS m m' l k->k/\∀q∈l,ad m' q.1 q.2=ad m q.1 q.2
 |[],k,h=>⟨h,az⟩
 |(b,o)::r,k,h=>by
  obtain⟨h1,h2⟩:=JU h.2;refine⟨h1,λq hq=>?_⟩;rcases List.mem_cons.1 hq with rfl|hq
  ·exact h.1
  ·exact h2 q hq
theorem Cb{bi:Nat}{m m':ah}:∀{L:List (Nat×List (Nat×Nat))}{k:Prop},Br bi m m' L k->k/\∀x∈L,Nat.testBit bi x.1=false->∀q∈x.2,ad m' q.1 q.2=ad m q.1 q.2
 |[],k,h=>⟨h,az⟩
 |(r,As)::L,k,h=>by
  simp only[Br]at h;cases hb:Nat.testBit bi r
  ·rw[hb]at h;obtain⟨h1,h2⟩:=JU h;obtain⟨h3,h4⟩:=Cb h1;refine⟨h3,λx hx hxb=>?_⟩;rcases List.mem_cons.1 hx with rfl|hx
   ·exact h2
   ·exact h4 x hx hxb
  ·rw[hb]at h;obtain⟨h3,h4⟩:=Cb h;refine⟨h3,λx hx hxb=>?_⟩;rcases List.mem_cons.1 hx with rfl|hx
   ·rw[hb]at hxb;cases hxb
   ·exact h4 x hx hxb
def aou(L:List (Nat×List (Nat×Nat)))(Ls:List (Nat×(World->Prop))):Prop:=
 ∀x∈Ls,(∀w,x.2 w)\/∃(As:List (Nat×Nat))(c:Nat×Nat->Option Value),(x.1,As)∈L/\x.2=λw=>∀q∈As,ad w.heap q.1 q.2=c q
end Go.Vc
end
section
namespace Go.Vc
variable{P:Program}{T:TT}{G:List Nat}{n:Nat}
theorem Og(hT:uK P T)(hG:Z9 P G)(dK:Array Oper)(pm bm:List Nat)(hm:iY bm dK.toList pm bm=true)(hap:DQ dK.toList pm 0 dK.toList bm=true)
 {Q:Exit->Act->World->Prop}(hQ:∀c a w,¬Q (.panic c) a w){w0:World}{a0:Act}:
 ∀(fO done:Nat)(fr:Fr)(m:ah)(L:List (Nat×List (Nat×Nat)))(k:Fr->ah->Prop)(Ls:List (Nat×(World->Prop)))(bI:Array Bool)(a:Act)(w:World),
  lT P T G n dK.toList pm bm fO done fr m L k->aou L Ls->Of dK.size done bI->FT (λi r=>Nat.testBit (rO bm i) r) bI->gW n fr a->Bx n fr m->w.heap=m->mN w0 w->
  jL (xF dK.toList) a0 a->
  (∀fr' a' w',k fr' w'.heap->gW n fr' a'->Bx n fr' w'.heap->mN w0 w'->jL (xF dK.toList) a0 a'->Q .normal a' w')->
  td P .any dK Q (λi r=>Nat.testBit (rO bm i) r) Ls fO bI a w:=by
 have mF:aab .any dK (λi r=>Nat.testBit (rO bm i) r):=by
  intro i r o ho hr;have h1:=(jr bm hm i o (by simpa using ho)).2.1;simp only[h1]at hr;obtain⟨e,he,hb,h⟩:=vQ bm r _ hr;exact⟨e,Array.mem_toList_iff.1 he,hb,h⟩
 have hlen:=HJ bm hm
 have XH:∀(j:Nat)(o:Oper) cs b,dK[j]? =some o->o.op≠.select cs b:=by
  intro j o cs b ho e;obtain⟨_,_,bj,hbj⟩:=jr bm hm j o (by simpa using ho);have:=(uQ _ _ hap j o bj (by simpa using ho) hbj).1;rw[e]at this;simp[ae3]at this
 have OQ:∀{done:Nat}{bI:Array Bool},Of dK.size done bI->∀i,i∈Region.ready .any dK bI<->i∈mT done 0 dK.toList pm:=by
  intro done bI hD i;rw[FV dK hm hD i,JT];constructor
  ·rintro⟨o,p,ho,hp,hr⟩;exact⟨i,o,p,ab,by simpa using ho,hp,hr⟩
  ·rintro⟨j,o,p,e,ho,hp,hr⟩;have:i=j:=ab;subst this;exact⟨o,p,by simpa using ho,hp,hr⟩
 have aaQ:∀{done:Nat}{bI:Array Bool},Of dK.size done bI->mT done 0 dK.toList pm=[]->Region.ready .any dK bI=[]:=by
  intro done bI hD h;apply List.eq_nil_iff_forall_not_mem.2;intro i hi;rw[OQ hD i,h]at hi;cases hi
 intro fO
 induction fO with
 |zero=>
  intro done fr m L k Ls bI a w h hL hD hC hR hB hw hs hk hq
  subst hw
  simp only[lT]at h
  split at h
  ·rename_i h0
   exact⟨aaQ hD h0,hq fr a w h hR hB hs hk⟩
  ·exact h.elim
 |succ fO ih=>
  intro done fr m L k Ls bI a w h hL hD hC hR hB hw hs hk hq
  subst hw
  simp only[lT]at h
  split at h
  · -- a reading is taken first
   rename_i i hi
   obtain⟨j,o,p,e,ho,hp,hr,hwr⟩:=HM done hi
   have:i=j:=ab
   subst this
   rw[mQ,ho]at h
   simp only at h
   have hoA:dK[i]? =some o:=by simpa using ho
   have hiN:i<dK.size:=(Array.getElem?_eq_some_iff.1 hoA).1
   have XK:i∈Region.ready .any dK bI:=(FV dK hm hD i).2 ⟨o,p,hoA,hp,hr⟩
   cases hd:pQ n o.dst
   ·rw[hd]at h;exact h.elim
   ·rw[hd]at h
    simp only[aG4]at h
    have kU:=Ca hd
    have VM:∀d,o.dst=some d->d∈xF dK.toList:=λd Je=>JR Je _ (aGW ho)
    have Qt:∀j oj,dK[j]? =some oj->j≠i->bI.getD j true=false->(∀e∈oj.after,Region.binds .any e=true->e.on≠i)->o.apart dK oj=true:=by
     intro j oj hoj ZE XI XE;have hjN:j<dK.size:=(Array.getElem?_eq_some_iff.1 hoj).1;obtain⟨_,hbi,bi,ajX⟩:=jr bm hm i o ho;rcases(uQ _ _ hap i o bi ho ajX).2 with h'|h'
     ·rw[hwr]at h';cases h'
     ·have hpj:=(jr bm hm j oj (by simpa using hoj)).1;have XN:rO bm i=bi:=by
       have:∀(l:List Nat)(i b:Nat),l[i]? =some b->rO l i=b:=by
        intro l;induction l with
        |nil=>intro i b h;simp at h
        |cons x l ih=>intro i b h;cases i with
         |zero=>simpa[rO]using h
         |succ i=>simpa[rO]using ih i b (by simpa using h)
       exact this bm i bi ajX
      rcases Bt _ _ _ _ h' j oj _ (by simpa using hoj) hpj with e|e|e|e
      ·exact absurd ab ZE
      ·rw[aGa]at e;obtain⟨ed,hed,hb,heq⟩:=(kM i _).1 e;exact absurd heq (XE ed (Array.mem_toList_iff.1 hed) hb)
      ·rw[aGa,<-XN]at e;have:=uO mF hC XK e;rw[hD.bit]at this;rw[hD.un hjN,this]at XI;cases XI
      ·exact PJ dK e
    rcases FU dK hR hB o h with⟨zA,fr',Qu,nI,ov⟩|⟨zA,fr',LO,nI,ov⟩
    ·obtain⟨x,v,hx,hv,lF⟩:=JJ (P:=P) hT nI ov o Qu
     let S:World->Prop:=λw'=>∀q∈VI T fr' o.op,ad w'.heap q.1 q.2=ad w.heap q.1 q.2
     refine DP (S:=S) mF hoA XH (λc a w hc=>absurd hc (hQ _ _ _)) fO bI a w hC Qt XK (v:=v) (Or.inl ⟨zA,λw' rJ=>lF w' rJ⟩) (λq _=>rfl) ?_
     refine ih _ _ _ _ k _ _ _ w hx ?_ (hD.set hiN) (hC.set mF XK) (nI.put hv kU) (ov.put _ _) rfl hs (hk.trans (jL.put VM _ _)) hq
     intro y hy
     rcases List.mem_cons.1 hy with rfl|hy
     ·exact Or.inr ⟨_,λq=>ad w.heap q.1 q.2,aF3,rfl⟩
     ·rcases hL y hy with h'|⟨As,c,h1,h2⟩
      ·exact Or.inl h'
      ·exact Or.inr ⟨As,c,aFT _ h1,h2⟩
    ·refine DP (S:=λ_=>True) mF hoA XH (λc a w hc=>absurd hc (hQ _ _ _)) fO bI a w hC Qt XK (v:=undef) (Or.inr ⟨zA,rfl⟩) trivial ?_
     refine ih _ _ _ _ k _ _ _ w LO ?_ (hD.set hiN) (hC.set mF XK) (nI.put (x:=.un) rfl kU) (ov.put _ _) rfl hs (hk.trans (jL.put VM _ _)) hq
     intro y hy
     rcases List.mem_cons.1 hy with rfl|hy
     ·exact Or.inl λ_=>trivial
     ·exact hL y hy
  ·split at h
   ·rename_i h0
    exact PI (aaQ hD h0) (hq fr a w h hR hB hs hk) _
   ·rename_i rs cx
    have gZ:=MW h
    refine Rt ?_ ?_
    ·intro e
     apply cx
     cases Qv:mT done 0 dK.toList pm with
     |nil=>rfl
     |cons x xs=>
      have:x∈Region.ready .any dK bI:=(OQ hD x).2 (by rw[Qv];exact aF3)
      rw[e]at this
      cases this
    ·intro i hi
     have iy:=gZ i ((OQ hD i).1 hi)
     obtain⟨o,p,hoA,hp,hr⟩:=(FV dK hm hD i).1 hi
     have ho:dK.toList[i]? =some o:=by simpa using hoA
     have hiN:i<dK.size:=(Array.getElem?_eq_some_iff.1 hoA).1
     rw[mQ,ho]at iy
     simp only at iy
     cases hd:pQ n o.dst
     ·rw[hd]at iy;exact iy.elim
     ·rw[hd]at iy
      simp only[aG4]at iy
      have kU:=Ca hd
      have VM:∀d,o.dst=some d->d∈xF dK.toList:=λd Je=>JR Je _ (aGW ho)
      unfold wpOp
      simp only[hoA]
      rcases FU dK hR hB o iy with⟨zA,fr',Qu,nI,ov⟩|⟨zA,fr',LO,nI,ov⟩
      ·rw[aFW zA]
       refine .inl (PH hT hG nI ov o Qu w rfl _ _ λfr2 x v w' hx VN hB2 hv uH=>?_)
       obtain⟨dF,dA⟩:=Cb hx
       refine⟨λy hy hyb hyw=>?_,ih _ _ _ L k Ls _ _ w' dF hL (hD.set hiN) (hC.set mF hi) (VN.put hv kU) (hB2.put _ _) rfl (hs.trans uH) (hk.trans (jL.put VM _ _)) hq⟩
       rcases hL y hy with h'|⟨As,c,h1,h2⟩
       ·exact h' w'
       ·rw[h2]at hyw⊢
        intro q zB
        rw[dA _ h1 hyb q zB,hyw q zB]
      ·rw[aFS (by rw[zA];simp)]
       exact⟨λy hy _ hyw=>hyw,ih _ _ _ L k Ls _ _ w LO hL (hD.set hiN) (hC.set mF hi) (nI.put (x:=.un) rfl kU) (ov.put _ _) rfl hs (hk.trans (jL.put VM _ _)) hq⟩
end Go.Vc
end
section
namespace Go.Vc
variable{P:Program}{T:TT}{G:List Nat}{n:Nat}
structure PK where
 Wn:List (Nat×List (Nat×Sh))
 aac:List (Nat×List (Nat×Sh))
 eg:List (Nat×List Nat)
def lk{α:Type}:List (Nat×α)->Nat->Option α
 |[],_=>none
 |(u,x)::r,t=>bif Nat.beq u t then some x else lk r t
def Bu:Code->Option Nat
 | .region id _ _=>some id
 | .seq a b=>match Bu a with
  |some i=>some i
  |none=>Bu b
 | .cond _ a b=>match Bu a with
  |some i=>some i
  |none=>Bu b
 | .block _ c=>Bu c
 | .loop c=>Bu c
 | .scope c=>Bu c
 |_=>none
def lkH{α:Type}(l:List (Nat×α))(c:Code):Option α:=
 match Bu c with
 |some i=>lk l i
 |none=>none
def FW:List (Nat×Sh)->Type
 |[]=>ah->Prop
 |(_,s)::r=>s.ty->FW r
def Oh:List (Nat×Sh)->Type
 |[]=>ah->Nat
 |(_,s)::r=>s.ty->Oh r
def Ru:(s:Sh)->SV->Option s.ty
 | .I,.c (.i n)=>some n
 | .U k,.c (.u k' n)=>if k=k' then some n else none
 | .T,.c (.t b)=>some b
 | .T,.tt=>some true
 | .T,.ff=>some false
 | .S,.c (.s x)=>some x
 | .P,.c (.p b o)=>some (b,o)
 | .P,.c (.bp _ b o)=>some (b,o)
 | .F,.c (.fn f a c)=>some (f,a,c)
 | .F,.c (.fv q)=>some q
 | .M,.c (.mp b)=>some b
 |_,_=>none
def FX:(l:List (Nat×Sh))->FW l->Fr->ah->Prop
 |[],I,_,m=>I m
 |(t,s)::r,I,fr,m=>match Ru s (eJ fr t)with
  |some x=>FX r (I x) fr m
  |none=>False
def Oi:(l:List (Nat×Sh))->FW l->Oh l->Fr->ah->Nat->Prop
 |[],I,μ,_,m,N=>I m/\μ m<N
 |(t,s)::r,I,μ,fr,m,N=>match Ru s (eJ fr t)with
  |some x=>Oi r (I x) (μ x) fr m N
  |none=>False
def PL:(l:List (Nat×Sh))->FW l->Fr->(Fr->(ah->Prop)->Prop)->Prop
 |[],I,fr,k=>k fr I
 |(t,s)::r,I,fr,k=>∀x:s.ty,PL r (I x) ((t,.c (s.mk x))::fr) k
def PM:(l:List (Nat×Sh))->FW l->Oh l->Fr->(Fr->(ah->Prop)->(ah->Nat)->Prop)->Prop
 |[],I,μ,fr,k=>k fr I μ
 |(t,s)::r,I,μ,fr,k=>∀x:s.ty,PM r (I x) (μ x) ((t,.c (s.mk x))::fr) k
def kY:List Nat->Fr->Fr
 |[],fr=>fr
 |t::r,fr=>(t,.fC)::kY r fr
def lU:Code->List Nat
 | .region _ ops _=>xF ops.toList
 | .seq a b=>lU a++lU b
 | .cond _ a b=>lU a++lU b
 | .block _ c=>lU c
 | .loop c=>lU c
 |_=>[]
def mU(M:List Nat):List (Nat×Sh)->Bool
 |[]=>true
 |(t,_)::r=>tc t M&&mU M r
def eqS(x y:SV)(k:Prop):Prop:=x=y/\k
theorem ax(x:SV)(k:Prop):eqS x x k=k:=by simp[eqS]
def ic(A:PK)(c:Code):List Nat:=
 match lkH A.eg c with
 |some K=>K
 |none=>[]
def Bv(n:Nat)(K:List Nat):Fr->List Nat
 |[]=>[]
 |(q,_)::r=>bif Nat.ble n q&&!tc q K then q::Bv n K r else Bv n K r
def sB(n:Nat)(K:List Nat)(fr:Fr):Fr:=kY (Bv n K fr) fr
def Zy(fr fr':Fr):List Nat->Prop->Prop
 |[],k=>k
 |q::K,k=>eqS (eJ fr' q) (eJ fr q) (Zy fr fr' K k)
def JV(fr:Fr):Op->Option SV
 | .move x| .assign x=>match ev fr x with
  | .fC=>none
  |y=>some y
 | .binOp op _ x y _=>match ev fr x,ev fr y with
  | .c (.i a),.c (.i b)=>match op with
   | .eql=>some (.c (.t (a==b)))
   | .neq=>some (.c (.t (a !=b)))
   | .lss=>some (.c (.t (decide (a<b))))
   | .leq=>some (.c (.t (decide (a<=b))))
   | .gtr=>some (.c (.t (decide (a>b))))
   | .geq=>some (.c (.t (decide (a>=b))))
   |_=>none
  |_,_=>none
 |_=>none
def oF(n:Nat):List Oper->Fr->Option Fr
 |[],fr=>some fr
 |o::r,fr=>bif pQ n o.dst then
  match o.guard with
  |none=>match JV fr o.op with
   |some x=>oF n r (rL fr o.dst x)
   |none=>none
  |some _=>none
  else none
def orB(A:PK)(n t:Nat):Code->Fr->Option Bool
 | .region _ ops false,fr=>match oF n ops.toList fr with
  |some fr'=>iZ (eJ fr' t)
  |none=>none
 | .seq (.region _ ops false) (.cond (.tmp u) .skip c),fr=>
  match lkH A.aac (.cond (.tmp u) .skip c)with
  |some _=>none
  |none=>bif Nat.beq u t&&tc t (lU c)then
   match oF n ops.toList fr with
   |some fr'=>match iZ (eJ fr' t),orB A n t c fr' with
    |some x,some y=>some (x||y)
    |_,_=>none
   |none=>none
   else none
 |_,_=>none
def orT(A:PK)(n:Nat)(c:Operand)(a b:Code)(fr:Fr):Option (Nat×Bool):=
 match c,a with
 | .tmp t,.skip=>bif tc t (lU b)then
  match orB A n t b fr with
  |some y=>some (t,y)
  |none=>none
  else none
 |_,_=>none
def sC(fr:Fr)(c:Operand)(v:SV):Fr:=
 match c with
 | .tmp t=>(t,v)::fr
 |_=>fr
def pmG:List Oper->List Nat
 |[]=>[]
 |o::r=>jb o.after.toList::pmG r
def Wo:List Nat->List Oper->List Nat
 |a,[]=>a
 |a,o::r=>Wo (a++[lH a o.after.toList]) r
def nP:Code->Bool
 | .region _ ops draw=>!draw||(iY (Wo [] ops.toList) ops.toList (pmG ops.toList) (Wo [] ops.toList)&&DQ ops.toList (pmG ops.toList) 0 ops.toList (Wo [] ops.toList))
 | .seq a b=>nP a&&nP b
 | .cond _ a b=>nP a&&nP b
 | .block _ c=>nP c
 | .loop c=>nP c
 |_=>true
def vc(P:Program)(T:TT)(G:List Nat)(n:Nat)(A:PK):Code->Fr->ah->(Exit->Fr->ah->Prop)->Prop
 | .skip,fr,m,Q=>Q .normal fr m
 | .region id ops draw,fr,m,Q=>
  bif draw then lT P T G n ops.toList (pmG ops.toList) (Wo [] ops.toList) ops.toList.length 0 fr m [] (λfr m=>Q .normal fr m)
  else pR P T G n ops.toList ops.toList fr m (λfr m=>Q .normal fr m)
 | .seq a b,fr,m,Q=>match lkH A.aac b with
  |none=>vc P T G n A a fr m λ
   | .normal,fr',m'=>vc P T G n A b fr' m' Q
   |e,fr',m'=>Q e fr' m'
  |some l=>bif mU (lU a) l then∃K:FW l,(vc P T G n A a fr m λ
   | .normal,fr',m'=>Zy fr fr' (ic A b) (FX l K fr' m')
   |e,fr',m'=>Q e fr' m')/\
   (PL l K (kY (lU a) (sB n (ic A b) fr)) λfr' K'=>∀m',K' m'->vc P T G n A b fr' m' Q)else False
 | .cond c a b,fr,m,Q=>match ev fr c with
  | .tt=>vc P T G n A a fr m Q
  | .ff=>vc P T G n A b fr m Q
  | .c (.t x)=>match orT A n c a b fr with
   |some (t,y)=>Q .normal ((t,.c (.t (x||y)))::kY (lU b) fr) m
   |none=>(x=true->vc P T G n A a (sC fr c .tt) m Q)/\(x=false->vc P T G n A b (sC fr c .ff) m Q)
  |_=>False
 | .block id c,fr,m,Q=>vc P T G n A c fr m λ
  | .exit i,fr',m'=>bif Nat.beq i id then Q .normal fr' m' else Q (.exit i) fr' m'
  |e,fr',m'=>Q e fr' m'
 | .loop c,fr,m,Q=>match lkH A.Wn c with
  |none=>False
  |some l=>bif mU (lU c) l then∃(I:FW l)(μ:Oh l),FX l I fr m/\
   (PM l I μ (kY (lU c) (sB n (ic A c) fr)) λfr' I' μ'=>∀m',I' m'->vc P T G n A c fr' m' λ
    | .normal,se,m''=>Zy fr se (ic A c) (Oi l I μ se m'' (μ' m'))
    |e,se,m''=>Q e se m'')else False
 | .exit id,fr,m,Q=>Q (.exit id) fr m
 | .ret,fr,m,Q=>Q .ret fr m
 |_,_,_,_=>False
theorem jL.mono{M M':List Nat}{a b:Act}(h:jL M a b)(hm:∀t∈M,t∈M'):jL M' a b:=λt ht=>h t λh'=>ht (hm t h')
theorem zP:∀(M:List Nat)(fr:Fr)(t:Nat),(t∈M/\eJ (kY M fr) t=.fC)\/(t∉M/\eJ (kY M fr) t=eJ fr t)
 |[],_,_=>Or.inr ⟨az,rfl⟩
 |u::M,fr,t=>by
  simp only[kY,eJ];cases hb:Nat.beq u t
  ·have cx:u≠t:=λe=>by subst e;simp at hb
   rcases zP M fr t with⟨h1,h2⟩|⟨h1,h2⟩
   ·exact Or.inl ⟨aFT _ h1,h2⟩
   ·exact Or.inr ⟨by simp only[aF0,aHO];exact⟨λe=>cx e.symm,h1⟩,h2⟩
  ·have:=aF2 hb;subst this;exact Or.inl ⟨aF3,rfl⟩
theorem xH{M:List Nat}{fr:Fr}{a a':Act}(hR:gW n fr a)(hn:a'.tmps.size=n)(hd:a'.defers=[])(hk:jL M a a'):gW n (kY M fr) a':=by
 refine⟨hn,hd,λt=>?_⟩;rcases zP M fr t with⟨_,h⟩|⟨h1,h2⟩
 ·rw[h];trivial
 ·rw[h2,hk t h1];exact hR.aE t
theorem gW.kY{fr:Fr}{a:Act}(hR:gW n fr a):∀(M:List Nat),gW n (kY M fr) a
 |[]=>hR
 |t::M=>(gW.kY hR M).fC t
theorem Bx.kY{fr:Fr}{m:ah}(h:Bx n fr m):∀(M:List Nat),Bx n (kY M fr) m
 |[]=>h
 |t::M=>(Bx.kY h M).fC az
theorem MX{K:List Nat}{q:Nat}(hq:n<=q)(hK:q∉K):∀{fr:Fr},q∈Bv n K fr\/eJ fr q=.fC
 |[]=>Or.inr rfl
 |(u,x)::r=>by
  simp only[Bv,eJ];cases hu:Nat.beq u q
  ·rcases MX hq hK (fr:=r)with h|h
   ·left;cases(Nat.ble n u&&!tc u K)
    ·exact h
    ·exact aFT _ h
   ·exact Or.inr h
  ·have:=aF2 hu;subst this;have hm:tc u K=false:=by
    cases hmm:tc u K
    ·rfl
    ·exact absurd (FO hmm) hK
   have hb:Nat.ble n u=true:=aH1 hq;simp[hm,hb]
theorem JW{fr fr':Fr}:∀{K:List Nat}{k:Prop},Zy fr fr' K k->(∀q∈K,eJ fr' q=eJ fr q)/\k
 |[],k,h=>⟨az,h⟩
 |q::K,k,h=>by
  obtain⟨h1,h2⟩:=JW h.2;refine⟨λu hu=>?_,h2⟩;rcases List.mem_cons.1 hu with rfl|hu
  ·exact h.1
  ·exact h1 u hu
theorem Bx.ic{K M:List Nat}{fr fr':Fr}{m m':ah}(h:Bx n fr m)(h':Bx n fr' m')(hK:∀q∈K,eJ fr' q=eJ fr q):Bx n (Vc.kY M (sB n K fr)) m':=by
 have key:∀{q b e l},jo (Vc.kY M (sB n K fr)) q b e l->jo fr q b e l/\jo fr' q b e l:=by
  intro q b e l hb;have e1:eJ (Vc.kY M (sB n K fr)) q=eJ (sB n K fr) q\/eJ (Vc.kY M (sB n K fr)) q=.fC:=by
   rcases zP M (sB n K fr) q with⟨_,h⟩|⟨_,h⟩
   ·exact Or.inr h
   ·exact Or.inl h
  unfold jo at hb;rcases e1 with e1|e1
  ·rw[e1]at hb;unfold sB at hb;rcases zP (Bv n K fr) fr q with⟨_,h2⟩|⟨h1,h2⟩
   ·rw[h2]at hb;simp at hb
   ·rw[h2]at hb;have hq:n<=q:=h.key q b e l hb;by_cases hqK:q∈K
    ·refine⟨hb,?_⟩;unfold jo;rw[hK q hqK];exact hb
    ·rcases MX (n:=n) hq hqK (fr:=fr)with h3|h3
     ·exact absurd h3 h1
     ·rw[h3]at hb;simp at hb
  ·rw[e1]at hb;simp at hb
 exact⟨λq b e l hb=>h'.ao q b e l (key hb).2,λq q' b e l b' e' l' cx h1 h2=>h.NZ q q' b e l b' e' l' cx (key h1).1 (key h2).1,λq b e l hb=>h.key q b e l (key hb).1⟩
theorem UH{s:Sh}{x:SV}{y:s.ty}(h:Ru s x=some y):x.fX=true/\x.v=(s.mk y).v:=by
 unfold Ru at h;split at h<;>first|(simp at h;subst h;exact⟨rfl,rfl⟩)|skip
 ·split at h
  ·rename_i hk;subst hk;simp at h;subst h;exact⟨rfl,rfl⟩
  ·simp at h
 ·simp at h
theorem JX{fr bN:Fr}{a:Act}{t:Nat}{s:Sh}{y:s.ty}(hR:gW n fr a)(hb:gW n bN a)(h:Ru s (eJ fr t)=some y):gW n ((t,.c (s.mk y))::bN) a:=by
 refine⟨hb.size,hb.defers,λu=>?_⟩;simp only[eJ];cases hbe:Nat.beq t u
 ·exact hb.aE u
 ·have:=aF2 hbe;subst this;have h1:=hR.aE t;obtain⟨hk,hv⟩:=UH h;have h2:=h1.eq hk;show _=_;rw[h2,hv];rfl
def Wp:(l:List (Nat×Sh))->FW l->Oh l->Fr->Fr->(ah->Prop)->(ah->Nat)->Prop
 |[],I,μ,fr,fr',I',μ'=>fr'=fr/\I'=I/\μ'=μ
 |(t,s)::r,I,μ,fr,fr',I',μ'=>∃x:s.ty,Wp r (I x) (μ x) ((t,.c (s.mk x))::fr) fr' I' μ'
theorem MY:∀{l:List (Nat×Sh)}{I:FW l}{μ:Oh l}{fr:Fr}{k:Fr->(ah->Prop)->(ah->Nat)->Prop},PM l I μ fr k->∀{fr' I' μ'},Wp l I μ fr fr' I' μ'->k fr' I' μ'
 |[],_,_,_,_,h,_,_,_,hi=>by obtain⟨rfl,rfl,rfl⟩:=hi;exact h
 |(t,s)::r,_,_,_,_,h,_,_,_,hi=>by obtain⟨x,hi⟩:=hi;exact MY (h x) hi
theorem Sh.Wq(s:Sh)(x:s.ty)(b e:Nat)(l:List Ce):SV.c (s.mk x)≠.box b e l/\SV.c (s.mk x)≠.xB b e l:=⟨az,az⟩
theorem MZ{a:Act}{se:Fr}(hR:gW n se a):∀{l:List (Nat×Sh)}{I:FW l}{μ:Oh l}{bN:Fr}{m:ah}{N:Nat},gW n bN a->Bx n bN m->Oi l I μ se m N->
 ∃fr' I' μ',Wp l I μ bN fr' I' μ'/\gW n fr' a/\Bx n fr' m/\I' m/\μ' m<N
 |[],I,μ,bN,_,_,hb,hB,h=>⟨bN,I,μ,⟨rfl,rfl,rfl⟩,hb,hB,h.1,h.2⟩
 |(t,s)::r,I,μ,bN,m,N,hb,hB,h=>by
  simp only[Oi]at h;split at h
  ·rename_i x hx;obtain⟨fr',I',μ',h1,h2,h3,h4⟩:=MZ hR (JX hR hb hx) (hB.fC (s.Wq x)) h;exact⟨fr',I',μ',⟨x,h1⟩,h2,h3,h4⟩
  ·exact h.elim
theorem Na{a:Act}{se:Fr}(hR:gW n se a):∀{l:List (Nat×Sh)}{I:FW l}{μ:Oh l}{bN:Fr}{m:ah},gW n bN a->Bx n bN m->FX l I se m->
 ∃fr' I' μ',Wp l I μ bN fr' I' μ'/\gW n fr' a/\Bx n fr' m/\I' m
 |[],I,μ,bN,_,hb,hB,h=>⟨bN,I,μ,⟨rfl,rfl,rfl⟩,hb,hB,h⟩
 |(t,s)::r,I,μ,bN,m,hb,hB,h=>by
  simp only[FX]at h;split at h
  ·rename_i x hx;obtain⟨fr',I',μ',h1,h2,h3⟩:=Na hR (JX hR hb hx) (hB.fC (s.Wq x)) h;exact⟨fr',I',μ',⟨x,h1⟩,h2,h3⟩
  ·exact h.elim
theorem PN{a:Act}{se:Fr}(hR:gW n se a):∀{l:List (Nat×Sh)}{I:FW l}{bN:Fr}{m:ah}{k:Fr->(ah->Prop)->Prop},gW n bN a->Bx n bN m->FX l I se m->PL l I bN k->
 ∃fr' I',k fr' I'/\gW n fr' a/\Bx n fr' m/\I' m
 |[],I,bN,_,_,hb,hB,h,hk=>⟨bN,I,hk,hb,hB,h⟩
 |(t,s)::r,I,bN,m,k,hb,hB,h,hk=>by
  simp only[FX]at h;split at h
  ·rename_i x hx;exact PN hR (JX hR hb hx) (hB.fC (s.Wq x)) h (hk x)
  ·exact h.elim
theorem UJ{c:Code}{Q:Exit->Act->World->Prop}(Inv:Nat->Act->World->Prop)
 (round:∀N a w,Inv N a w->c.wp P (Exit.then (λa' w'=>∃N',N'<N/\Inv N' a' w') Q) a w):∀N a w,Inv N a w->(Code.loop c).wp P Q a w:=by
 have XG:∀N a w,Inv N a w->∃M,Inv M a w/\∀M',M'<M->¬Inv M' a w:=by
  intro N;induction N using Nat.strongRecOn with
  |_ N ih=>
   intro a w h;by_cases hx:∃M',M'<N/\Inv M' a w
   ·obtain⟨M',h1,h2⟩:=hx;exact ih M' h1 a w h2
   ·exact⟨N,h,λM' hM' hi=>hx ⟨M',hM',hi⟩⟩
 intro N a w hN
 classical
 let μ:Act->World->Nat:=λa w=>if h:∃M,Inv M a w/\∀M',M'<M->¬Inv M' a w then Classical.choose h else 0
 have hμ:∀a w N,Inv N a w->Inv (μ a w) a w/\μ a w<=N:=by
  intro a w N h;have hex:=XG N a w h;have e:μ a w=Classical.choose hex:=aIF hex;have hs:=aGt hex;rw[e];refine⟨hs.1,?_⟩;rcases aF1 N (Classical.choose hex)with cA|FG
  ·exact absurd h (hs.2 N cA)
  ·exact FG
 refine wp_loop (λa w=>∃N,Inv N a w) μ ⟨N,hN⟩ ?_
 rintro a w ⟨N,h⟩
 refine Code.wp_mono ?_ (round (μ a w) a w (hμ a w N h).1)
 intro e a' w' hq
 cases e with
 |normal=>
  obtain⟨N',cA,hi⟩:=hq
  exact⟨⟨N',hi⟩,aG9 (hμ a' w' N' hi).2 cA⟩
 |_=>exact hq
end Go.Vc
end
section
namespace Go.Vc
variable{P:Program}{T:TT}{G:List Nat}{n:Nat}{A:PK}
def ig(n:Nat)(w0:World)(M:List Nat)(a0:Act)(Q:Exit->Fr->ah->Prop):Exit->Act->World->Prop
 | .panic _,_,_=>False
 | .outgrown,_,_=>False
 |e,a,w=>∃fr',gW n fr' a/\Bx n fr' w.heap/\mN w0 w/\jL M a0 a/\Q e fr' w.heap
theorem ig.mk{w0:World}{M:List Nat}{a0:Act}{fr':Fr}{Q:Exit->Fr->ah->Prop}{e:Exit}{a:Act}{w:World}(he:(∀c,e≠.panic c)/\e≠.outgrown)
 (hR:gW n fr' a)(hB:Bx n fr' w.heap)(hs:mN w0 w)(hk:jL M a0 a)(hq:Q e fr' w.heap):ig n w0 M a0 Q e a w:=by
 cases e with
 |panic c=>exact absurd rfl (he.1 c)
 |outgrown=>exact absurd rfl he.2
 |_=>exact⟨fr',hR,hB,hs,hk,hq⟩
theorem ig.aT{w0:World}{M:List Nat}{a0:Act}{Q:Exit->Fr->ah->Prop}{e:Exit}{a:Act}{w:World}(h:ig n w0 M a0 Q e a w):
 ((∀c,e≠.panic c)/\e≠.outgrown)/\∃fr',gW n fr' a/\Bx n fr' w.heap/\mN w0 w/\jL M a0 a/\Q e fr' w.heap:=by
 cases e with
 |panic c=>exact h.elim
 |outgrown=>exact h.elim
 |_=>exact⟨⟨az,az⟩,h⟩
theorem ig.left{w0:World}{M M':List Nat}{a0:Act}{Q:Exit->Fr->ah->Prop}{e:Exit}{a:Act}{w:World}(h:ig n w0 M a0 Q e a w):ig n w0 (M++M') a0 Q e a w:=by
 obtain⟨he,fr',nI,ov,uH,sa,hq⟩:=h.aT;exact ig.mk he nI ov uH (sa.mono (λt ht=>aF7 _ ht)) hq
theorem ig.right{w0:World}{M M':List Nat}{a0:Act}{Q:Exit->Fr->ah->Prop}{e:Exit}{a:Act}{w:World}(h:ig n w0 M a0 Q e a w):ig n w0 (M'++M) a0 Q e a w:=by
 obtain⟨he,fr',nI,ov,uH,sa,hq⟩:=h.aT;exact ig.mk he nI ov uH (sa.mono (λt ht=>aGu _ ht)) hq
theorem UK{fr:Fr}{m:ah}{op:Op}{x:SV}{k:SV->Prop}(h:JV fr op=some x)(hk:k x):JP op=false/\rd T fr m k op:=by
 unfold JV at h;split at h
 ·split at h
  ·simp at h
  ·simp at h;subst h;exact⟨rfl,hk⟩
 ·split at h
  ·simp at h
  ·simp at h;subst h;exact⟨rfl,hk⟩
 ·rename_i o t y z ty;split at h
  ·rename_i a b ha hb;refine⟨rfl,?_⟩;simp only[rd,ha,hb];split at h<;>simp at h<;>subst h<;>exact hk
  ·simp at h
 ·simp at h
theorem Cc(vM:List Oper){m:ah}{k:Fr->ah->Prop}:∀{ops:List Oper}{fr fr':Fr},oF n ops fr=some fr'->k fr' m->pR P T G n vM ops fr m k
 |[],fr,fr',h,hk=>by simp[oF]at h;subst h;exact hk
 |o::r,fr,fr',h,hk=>by
  simp only[oF]at h;simp only[pR];cases hd:pQ n o.dst
  ·rw[hd]at h;simp at h
  ·rw[hd]at h;simp only[aG4]at h⊢;cases hg:o.guard with
   |some g=>rw[hg]at h;simp at h
   |none=>
    rw[hg]at h;simp only[gd]at h⊢;split at h
    ·rename_i x hx;obtain⟨h1,h2⟩:=UK (T:=T) (m:=m) (k:=λx=>pR P T G n vM r (rL fr o.dst x) m k) hx (Cc vM h hk);rw[h1];exact h2
    ·simp at h
theorem Wr(t:Nat){m:ah}{Q:Exit->Fr->ah->Prop}:∀(c:Code)(fr:Fr)(y:Bool),orB A n t c fr=some y->(∀fr',iZ (eJ fr' t)=some y->Q .normal fr' m)->vc P T G n A c fr m Q
 | .region id ops draw,fr,y,h,hq=>by
  cases draw
  ·simp only[orB]at h;simp only[vc,aHd];split at h
   ·rename_i fr' OR;exact Cc _ OR (hq fr' h)
   ·simp at h
  ·simp[orB]at h
 | .seq (.region id ops false) (.cond (.tmp u) .skip c),fr,y,h,hq=>by
  simp only[orB]at h;split at h
  ·simp at h
  ·rename_i Jf;cases hb:(Nat.beq u t&&tc t (lU c))
   ·rw[hb]at h;simp at h
   ·rw[hb]at h;simp only[aG4]at h;simp only[aF6]at hb;have hut:=aF2 hb.1;subst hut;split at h
    ·rename_i fr' OR;split at h
     ·rename_i x y' hx lj;simp at h;subst h;rw[vc,Jf];simp only;rw[vc];simp only[aHd];refine Cc _ OR ?_;rw[vc];have hev:ev fr' (.tmp u)=(eJ fr' u).nb:=rfl;rw[hev];cases hf:eJ fr' u with
      |tt=>
       rw[hf]at hx;simp[iZ]at hx;subst hx;simp only[SV.nb,vc];exact hq fr' (by rw[hf];simp[iZ])
      |ff=>
       rw[hf]at hx;simp[iZ]at hx;subst hx;simp only[SV.nb];exact Wr u c fr' y' lj (λse h''=>hq se (by simpa using h''))
      |c z=>
       cases z with
       |t b=>
        rw[hf]at hx;simp[iZ]at hx;subst hx;simp only[SV.nb,orT,hb.2,aG4,lj];exact hq _ (by simp[eJ,iZ])
       |_=>rw[hf]at hx;simp[iZ]at hx
      |_=>rw[hf]at hx;simp[iZ]at hx
     ·simp at h
    ·simp at h
theorem Ws(hT:uK P T)(hG:Z9 P G)(afz:P.follows .mixedOrders=true)(w0:World):∀(c:Code),nP c=true->∀(fr:Fr)(m:ah)(Q:Exit->Fr->ah->Prop)(a:Act)(w:World),
 vc P T G n A c fr m Q->gW n fr a->Bx n fr m->w.heap=m->mN w0 w->c.wp P (ig n w0 (lU c) a Q) a w:=by
 intro c
 induction c with
 |skip=>
  intro hd fr m Q a w h hR hB hw hs
  subst hw
  exact wp_skip ⟨fr,hR,hB,hs,jL.av _ _,h⟩
 |region id ops draw=>
  intro hd fr m Q a w h hR hB hw hs
  simp only[vc]at h
  cases draw
  ·simp only[aHd]at h
   refine wp_region_list ?_
   exact sA hT hG ops ops.toList fr m (Q .normal) a w (λ_ h=>h) h hR hB hw hs (jL.av _ _) λfr' a' w' hq nI ov uH hk=>⟨fr',nI,ov,uH,hk,hq⟩
  ·simp only[aG4]at h
   simp only[nP,aIk,aIl,aF6]at hd
   refine wp_region_any afz (JO (bf:=λi r=>Nat.testBit (rO (Wo [] ops.toList) i) r) (L:=[]) _ _ _ _ ?_)
   have vK:ops.toList.length=ops.size:=az
   rw[vK]at h
   refine Og hT hG ops _ _ hd.1 hd.2 (λc a w hx=>hx) (w0:=w0) (a0:=a) ops.size 0 fr m [] (Q .normal) [] _ a _ h (λx hx=>by cases hx) ⟨az,λi=>by simp[aHV];split<;>rfl⟩ (λi hi=>by simp[aHV]at hi;split at hi<;>simp at hi) hR hB hw ⟨hs.os,hs.tape,hs.output⟩ (jL.av _ _) λfr' a' w' hq nI ov uH hk=>⟨fr',nI,ov,uH,hk,hq⟩
 |seq x y ihx ihy=>
  intro hd fr m Q a w h hR hB hw hs
  simp only[vc]at h
  simp only[nP,aF6]at hd
  refine wp_seq ?_
  split at h
  ·refine Code.wp_mono ?_ (ihx hd.1 fr m _ a w h hR hB hw hs)
   intro e a' w' hq
   obtain⟨he,fr',nI,ov,uH,sa,hq⟩:=hq.aT
   cases e with
   |normal=>
    refine Code.wp_mono ?_ (ihy hd.2 fr' _ Q a' w' hq nI ov rfl uH)
    intro e a'' w'' hq
    obtain⟨he,se,afA,afB,afC,afD,hq⟩:=hq.aT
    exact ig.mk he afA afB afC ((sa.mono (λt ht=>aF7 _ ht)).trans (afD.mono (λt ht=>aGu _ ht))) hq
   |panic c=>exact absurd rfl (he.1 c)
   |outgrown=>exact absurd rfl he.2
   |exit i=>exact ig.mk (e:=.exit i) he nI ov uH (sa.mono (λt ht=>aF7 _ ht)) hq
   |goto i=>exact ig.mk (e:=.goto i) he nI ov uH (sa.mono (λt ht=>aF7 _ ht)) hq
   |ret=>exact ig.mk (e:=.ret) he nI ov uH (sa.mono (λt ht=>aF7 _ ht)) hq
  ·rename_i l hl
   cases kQ:mU (lU x) l
   ·rw[kQ]at h;exact h.elim
   rw[kQ]at h
   obtain⟨K,h1,h2⟩:=h
   refine Code.wp_mono ?_ (ihx hd.1 fr m _ a w h1 hR hB hw hs)
   intro e a' w' hq
   obtain⟨he,fr',nI,ov,uH,sa,hq⟩:=hq.aT
   cases e with
   |normal=>
    obtain⟨hKe,hq⟩:=JW hq
    obtain⟨fr2,K',h3,h4,h4B,h5⟩:=PN nI (xH (hR.kY _) nI.size nI.defers sa) (Bx.ic hB ov hKe) hq h2
    refine Code.wp_mono ?_ (ihy hd.2 fr2 _ Q a' w' (h3 _ h5) h4 h4B rfl uH)
    intro e a'' w'' hq
    obtain⟨he,se,afA,afB,afC,afD,hq⟩:=hq.aT
    exact ig.mk he afA afB afC ((sa.mono (λt ht=>aF7 _ ht)).trans (afD.mono (λt ht=>aGu _ ht))) hq
   |panic c=>exact absurd rfl (he.1 c)
   |outgrown=>exact absurd rfl he.2
   |exit i=>exact ig.mk (e:=.exit i) he nI ov uH (sa.mono (λt ht=>aF7 _ ht)) hq
   |goto i=>exact ig.mk (e:=.goto i) he nI ov uH (sa.mono (λt ht=>aF7 _ ht)) hq
   |ret=>exact ig.mk (e:=.ret) he nI ov uH (sa.mono (λt ht=>aF7 _ ht)) hq
 |cond o x y ihx ihy=>
  intro hd fr m Q a w h hR hB hw hs
  simp only[vc]at h
  simp only[nP,aF6]at hd
  have aj0:∀{b:Bool},a.eval o=.bool b->gW n (sC fr o (if b then .tt else .ff)) a:=by
   intro b hb;unfold sC;split
   ·rename_i t;refine⟨hR.size,hR.defers,λu=>?_⟩;simp only[eJ];cases hbe:Nat.beq t u
    ·exact hR.aE u
    ·have:=aF2 hbe;subst this;cases b<;>exact hb
   ·exact hR
  have acM:∀{x:SV},(∀b e l,x≠.box b e l/\x≠.xB b e l)->Bx n (sC fr o x) m:=by
   intro x hx;unfold sC;split
   ·exact hB.fC hx
   ·exact hB
  split at h
  ·rename_i hc
   exact wp_cond_true (hR.eq hc rfl) (Code.wp_mono (λ_ _ _ h=>h.left) (ihx hd.1 fr m Q a w h hR hB hw hs))
  ·rename_i hc
   exact wp_cond_false (hR.eq hc rfl) (Code.wp_mono (λ_ _ _ h=>h.right) (ihy hd.2 fr m Q a w h hR hB hw hs))
  ·rename_i b hc
   have hcv:a.eval o=.bool b:=hR.eq hc rfl
   split at h
   ·rename_i t y' Vf
    unfold orT at Vf
    split at Vf
    ·rename_i t0
     cases hmm:tc t0 (lU y)
     ·rw[hmm]at Vf;simp at Vf
     ·rw[hmm]at Vf
      simp only[aG4]at Vf
      split at Vf
      ·rename_i y0 hy0
       simp at Vf
       obtain⟨rfl,rfl⟩:=Vf
       have apy:a.tmps.getD t0 undef=.bool b:=hcv
       refine wp_cond_split hcv (λht=>?_) (λht=>?_)
       ·subst hw
        subst ht
        refine wp_skip (ig.mk (e:=.normal) (fr':=(t0,.c (.t (true||y0)))::kY (lU y) fr) ⟨az,az⟩ ?_ ((hB.kY _).fC az) hs (jL.av _ _) h)
        have hb:=xH (M:=lU y) hR hR.size hR.defers (jL.av _ a)
        refine⟨hb.size,hb.defers,λu=>?_⟩
        simp only[eJ]
        cases hbe:Nat.beq t0 u
        ·exact hb.aE u
        ·have:=aF2 hbe
         subst this
         simpa[SV.Is,SV.v,Ce.v]using apy
       ·subst ht
        have hv:=Wr (P:=P) (T:=T) (G:=G) (A:=A) (n:=n) t0 (m:=m) (Q:=λe fr' m'=>e=.normal/\m'=m/\iZ (eJ fr' t0)=some y0) y fr y0 hy0 (λfr' h'=>⟨rfl,rfl,h'⟩)
        refine Code.wp_mono ?_ (ihy hd.2 fr m _ a w hv hR hB hw hs)
        intro e a' w' hq
        obtain⟨he,fr',nI,ov,uH,sa,rfl,hm',hbo⟩:=hq.aT
        refine ig.mk (e:=.normal) (fr':=(t0,.c (.t (false||y0)))::kY (lU y) fr) he ?_ (by rw[hm'];exact(hB.kY _).fC az) uH (sa.mono (λt ht=>aGu _ ht)) (by rw[hm'];exact h)
        have hb:=xH (M:=lU y) hR nI.size nI.defers sa
        refine⟨hb.size,hb.defers,λu=>?_⟩
        simp only[eJ]
        cases hbe:Nat.beq t0 u
        ·exact hb.aE u
        ·have:=aF2 hbe
         subst this
         obtain⟨Bj,XO⟩:=uL hbo
         have h3:=(nI.aE t0).eq Bj
         rw[XO]at h3
         simpa[SV.Is,SV.v,Ce.v]using h3
      ·simp at Vf
    ·simp at Vf
   ·refine wp_cond_split hcv (λht=>?_) (λht=>?_)
    ·subst ht
     exact Code.wp_mono (λ_ _ _ h=>h.left) (ihx hd.1 _ m Q a w (h.1 rfl) (aj0 hcv) (acM az) hw hs)
    ·subst ht
     exact Code.wp_mono (λ_ _ _ h=>h.right) (ihy hd.2 _ m Q a w (h.2 rfl) (aj0 hcv) (acM az) hw hs)
  ·exact h.elim
 |block id x ih=>
  intro hd fr m Q a w h hR hB hw hs
  simp only[vc]at h
  refine wp_block (Code.wp_mono ?_ (ih hd fr m _ a w h hR hB hw hs))
  intro e a' w' hq
  obtain⟨he,fr',nI,ov,uH,sa,hq⟩:=hq.aT
  cases e with
  |exit i=>
   simp only[Exit.inBlock]
   simp only at hq
   cases hb:Nat.beq i id
   ·rw[hb]at hq
    have cx:i≠id:=λe=>by subst e;simp at hb
    rw[aFS cx]
    exact ig.mk (e:=.exit i) he nI ov uH sa hq
   ·rw[hb]at hq
    rw[aFW (aF2 hb)]
    exact ig.mk (e:=.normal) ⟨az,az⟩ nI ov uH sa hq
  |normal=>exact ig.mk (e:=.normal) he nI ov uH sa hq
  |panic c=>exact absurd rfl (he.1 c)
  |outgrown=>exact absurd rfl he.2
  |goto i=>exact ig.mk (e:=.goto i) he nI ov uH sa hq
  |ret=>exact ig.mk (e:=.ret) he nI ov uH sa hq
 |loop x ih=>
  intro hd fr m Q a w h hR hB hw hs
  subst hw
  simp only[vc]at h
  split at h
  ·exact h.elim
  ·rename_i l hl
   cases kQ:mU (lU x) l
   ·rw[kQ]at h;exact h.elim
   rw[kQ]at h
   obtain⟨I,μ,h0,h1⟩:=h
   let Inv:Nat->Act->World->Prop:=λN a' w=>∃fr' I' μ',Wp l I μ (kY (lU x) (sB n (ic A x) fr)) fr' I' μ'/\gW n fr' a'/\Bx n fr' w.heap/\I' w.heap/\μ' w.heap=N/\mN w0 w/\jL (lU x) a a'
   obtain⟨fr1,I1,μ1,So,TX,ON,hI1⟩:=Na (μ:=μ) hR (xH (hR.kY _) hR.size hR.defers (jL.av (lU x) a)) (Bx.ic hB hB (λ_ _=>rfl)) h0
   refine UJ Inv ?_ (μ1 w.heap) a w ⟨fr1,I1,μ1,So,TX,ON,hI1,rfl,hs,jL.av _ _⟩
   rintro N a1 w ⟨fr',I',μ',hi,nI,ov,hI',rfl,uH,Bj⟩
   have XD:=MY h1 hi w.heap hI'
   refine Code.wp_mono ?_ (ih hd fr' w.heap _ a1 w XD nI ov rfl uH)
   intro e a' w' hq
   obtain⟨he,fr2,VN,hB2,ZG,XO,hq⟩:=hq.aT
   cases e with
   |normal=>
    obtain⟨hKe,hq⟩:=JW hq
    obtain⟨Q2,I3,μ3,ZH,hR3,hB3,hI3,cA⟩:=MZ VN (xH (hR.kY _) VN.size VN.defers (Bj.trans XO)) (Bx.ic hB hB2 hKe) hq
    exact⟨_,cA,Q2,I3,μ3,ZH,hR3,hB3,hI3,rfl,ZG,Bj.trans XO⟩
   |panic c=>exact absurd rfl (he.1 c)
   |outgrown=>exact absurd rfl he.2
   |exit i=>exact ig.mk (e:=.exit i) he VN hB2 ZG (Bj.trans XO) hq
   |goto i=>exact ig.mk (e:=.goto i) he VN hB2 ZG (Bj.trans XO) hq
   |ret=>exact ig.mk (e:=.ret) he VN hB2 ZG (Bj.trans XO) hq
 |exit id=>
  intro hd fr m Q a w h hR hB hw hs
  subst hw
  exact wp_exit ⟨fr,hR,hB,hs,jL.av _ _,h⟩
 |ret=>
  intro hd fr m Q a w h hR hB hw hs
  subst hw
  exact wp_ret ⟨fr,hR,hB,hs,jL.av _ _,h⟩
 |rangeFunc f ps x y _ _=>intro _ fr m Q a w h;exact h.elim
 |scope x _=>intro _ fr m Q a w h;exact h.elim
 |label l=>intro _ fr m Q a w h;exact h.elim
 |goto l=>intro _ fr m Q a w h;exact h.elim
 |refuse s=>intro _ fr m Q a w h;exact h.elim
def sD:Nat->List SV->Fr
 |_,[]=>[]
 |i,x::r=>(i,x)::sD (i+1) r
def DR(T:TT)(fr:Fr)(m:ah):List ResultVar->(List SV->Prop)->Prop
 |[],k=>k []
 | .tmp t::r,k=>bif (eJ fr t).fX then DR T fr m r λl=>k (eJ fr t::l)else False
 | .cell p t::r,k=>rd T fr m (λx=>bif x.fX then DR T fr m r λl=>k (x::l)else False) (.load t (.tmp p))
def ae4(T:TT)(rs:List ResultVar)(fr:Fr)(m:ah)(R:Value->ah->Prop):Prop:=
 DR T fr m rs λ
  |[x]=>R x.v m
  |l=>R (.tuple (l.map SV.v).toArray) m
def UL(P:Program)(T:TT)(G:List Nat)(A:PK)(n:Nat)(rs:List ResultVar)(c:Code)(args:List SV)(m:ah)(R:Value->ah->Prop):Prop:=
 vc P T G n A c (sD 0 args) m λ
  | .normal,fr,m=>ae4 T rs fr m R
  | .ret,fr,m=>ae4 T rs fr m R
  |_,_,_=>False
theorem FY:∀(args:List SV)(i t:Nat),(t<i/\eJ (sD i args) t=.fC)\/(i<=t/\eJ (sD i args) t=args.getD (t -i) .fC)
 |[],i,t=>by
  rcases aF1 t i with h|h
  ·exact Or.inl ⟨h,rfl⟩
  ·exact Or.inr ⟨h,by simp[sD,eJ]⟩
 |x::r,i,t=>by
  simp only[sD,eJ];cases hb:Nat.beq i t
  ·have cx:i≠t:=λe=>by subst e;simp at hb
   rcases FY r (i+1) t with⟨h1,h2⟩|⟨h1,h2⟩
   ·exact Or.inl ⟨ab,h2⟩
   ·refine Or.inr ⟨ab,?_⟩;have e:t -i=(t -(i+1))+1:=ab;rw[e,List.getD_cons_succ];exact h2
  ·have:=aF2 hb;subst this;exact Or.inr ⟨aFR _,az⟩
def JY(tmps:Array Value):ResultVar->Sem Value
 | .tmp t=>pure (tmps.getD t undef)
 | .cell p t=>do loadVar t (<-asAddr (tmps.getD p undef))
theorem Rv(fn:Func)(tmps:Array Value):results fn tmps=(do
 let vs<-fn.results.mapM (JY tmps)
 pure (if h:vs.size=1 then vs[0]else .tuple vs)):=by
 unfold results
 congr 2
theorem FZ{fr:Fr}{a:Act}(hT:uK P T)(hR:gW n fr a):∀(rs:List ResultVar)(k:List SV->Prop)(w:World),Bx n fr w.heap->DR T fr w.heap rs k->
 ∃l,k l/\(rs.mapM (JY a.tmps)).run P w=.ok (l.map SV.v) w
 |[],k,w,_,h=>⟨[],h,az⟩
 | .tmp t::r,k,w,hB,h=>by
  simp only[DR]at h;cases hk:(eJ fr t).fX
  ·rw[hk]at h;exact h.elim
  ·rw[hk]at h;obtain⟨l,h1,h2⟩:=FZ hT hR r _ w hB h;refine⟨_,h1,?_⟩;have hv:=(hR.aE t).eq hk;have e1:JY a.tmps (.tmp t)=pure (a.tmps.getD t undef):=rfl;simp only[aIb,Sem.run_bind,Sem.run_pure,Result.andThen_ok,h2,aGf,hv,e1]
 | .cell p t::r,k,w,hB,hrd=>by
  obtain⟨x,v,hx,hv,lF⟩:=JJ (P:=P) hT hR hB ⟨none,.load t (.tmp p),0,"",#[],none⟩ hrd;have lF:=lF w (λq _=>rfl);cases hkx:x.fX
  ·rw[hkx]at hx;exact hx.elim
  rw[hkx]at hx;obtain⟨l,h1,h2⟩:=FZ hT hR r _ w hB hx;refine⟨_,h1,?_⟩;have hpp:∃b o,a.tmps.getD p undef=.pointer (some ⟨b,o,none⟩):=by
   have FF:=SV.Wb (hR.aE p);simp only[DR,rd,ev]at hrd;split at hrd
   ·rename_i b o hp;rw[hp]at FF;exact⟨b,o,FF⟩
   ·rename_i q b o hp;rw[hp]at FF;exact⟨b,o,FF⟩
   ·exact hrd.elim
  obtain⟨b,o,hpv⟩:=hpp;simp only[execOp,Instr.loadAt,Act.eval,hpv,Instr.sureAddr,Sem.run_bind,Sem.run_pure,Result.andThen_ok]at lF;have hl:(loadVar t ⟨b,o,none⟩).run P w=.ok v w:=by
   cases hr:(loadVar t ⟨b,o,none⟩).run P w with
   |ok u w'=>
    rw[hr]at lF;simp at lF;rw[lF.1,lF.2]
   |halt e w'=>rw[hr]at lF;simp at lF
  have hxk:v=x.v:=hv.eq hkx;have e1:(JY a.tmps (.cell p t)).run P w=.ok v w:=by
   simp only[JY,hpv,Sem.run_bind,asAddr,Sem.run_pure,Result.andThen_ok,hl]
  simp only[aIb,Sem.run_bind,Sem.run_pure,Result.andThen_ok,e1,h2,aGf,hxk]
theorem Cd(hT:uK P T)(hG:Z9 P G)(afz:P.follows .mixedOrders=true){f:FuncId}{fn:Func}{c:Code}{rs:List ResultVar}{args:List SV}{m:ah}{R:Value->ah->Prop}
 (hf:P.funcs[f]? =some fn)(hb:fn.body=some c)(hn:fn.ntmps=n)(Qv:fn.results=rs.toArray)(fV:args.all SV.fX=true)(hle:args.length<=n)(hd:nP c=true)
 (h:UL P T G A n rs c args m R):aD P f (args.map SV.v) m R:=by
 intro w hw
 refine calls_of_wp hf hb ?_
 have hR:gW n (sD 0 args) {tmps:=(args.map SV.v).toArray++Array.replicate (fn.ntmps -(args.map SV.v).toArray.size) undef,defers:=[]}:=by
  refine⟨by simp[hn];omega,rfl,λt=>?_⟩;rcases FY args 0 t with⟨h1,_⟩|⟨_,h2⟩
  ·omega
  ·rw[h2,aIp];rcases aF1 t args.length with cA|FG
   ·have hk:(args[t]).fX=true:=List.all_eq_true.1 fV _ (List.getElem_mem cA);have e1:args.getD t .fC=args[t]:=by simp[cA]
    rw[e1];have e2:((args.map SV.v).toArray++Array.replicate (fn.ntmps -(args.map SV.v).toArray.size) undef).getD t undef=(args[t]).v:=by
     simp[Array.getElem?_append,cA]
    rw[e2];exact lS _
   ·have e1:args.getD t .fC=.fC:=by simp[aGc FG]
    rw[e1];trivial
 have XQ:∀{q b e l},¬jo (sD 0 args) q b e l:=by
  intro q b e l hx;rcases FY args 0 q with⟨h1,_⟩|⟨_,h2⟩
  ·omega
  ·unfold jo at hx;rw[h2,aIp]at hx;rcases aF1 q args.length with cA|FG
   ·have hk:(args[q]).fX=true:=List.all_eq_true.1 fV _ (List.getElem_mem cA);have e1:args.getD q .fC=args[q]:=by simp[cA]
    rw[e1]at hx;rcases hx with hx|hx<;>rw[hx]at hk<;>simp[SV.fX]at hk
   ·have e1:args.getD q .fC=.fC:=by simp[aGc FG]
    rw[e1]at hx;simp at hx
 have hB:Bx n (sD 0 args) m:=⟨λ_ _ _ _ h=>absurd h XQ,λ_ _ _ _ _ _ _ _ _ h=>absurd h XQ,λ_ _ _ _ h=>absurd h XQ⟩
 refine Code.wp_mono ?_ (Ws hT hG afz w c hd _ m _ _ w h hR hB hw (mN.av w))
 intro e a' w' hq
 obtain⟨he,fr',nI,ov,uH,sa,hq⟩:=hq.aT
 have Vh:∀(hq:ae4 T rs fr' w'.heap R),a'.defers=[]/\∃v,(results fn a'.tmps).run P w'=.ok v w'/\∃v',Ending.returned v=.returned v'/\mN w w'/\R v' w'.heap:=by
  intro hq;refine⟨nI.defers,?_⟩;obtain⟨l,h1,h2⟩:=FZ hT nI rs _ w' ov hq;have Ht:(results fn a'.tmps).run P w'=.ok (if h:(l.map SV.v).toArray.size=1 then(l.map SV.v).toArray[0]else .tuple (l.map SV.v).toArray) w':=by
   rw[Rv,Qv,aHR];simp only[Sem.run_bind,Sem.run_map];rw[h2];rfl
  refine⟨_,Ht,_,rfl,uH,?_⟩;cases l with
  |nil=>exact h1
  |cons x l=>cases l with
   |nil=>exact h1
   |cons y l=>exact h1
 cases e with
 |normal=>exact Vh hq
 |ret=>exact Vh hq
 |exit i=>exact hq.elim
 |goto i=>exact hq.elim
 |panic c=>exact absurd rfl (he.1 c)
 |outgrown=>exact absurd rfl he.2
end Go.Vc
end
section
namespace Go.Vc
abbrev vi(n:Int):Value:=.int .i64 n
abbrev vb(b:Bool):Value:=.bool b
abbrev vp(b o:Nat):Value:=.pointer (some ⟨b,o,none⟩)
def Rw(f:Func):Code:=
 match f.body with
 |some c=>c
 |none=>.skip
end Go.Vc
end
section
namespace Go.Vc
structure af(m m':ah):Prop where
 size:m.size<=m'.size
 same:∀b,b<m.size->m'[b]? =m[b]?
theorem af.av(m:ah):af m m:=⟨aFR _,λ_ _=>rfl⟩
theorem af.trans{a b c:ah}(h:af a b)(k:af b c):af a c:=
 ⟨aF8 h.size k.size,λi hi=>(k.same i (aFY hi h.size)).trans (h.same i hi)⟩
theorem af.push(m:ah)(o:Obj):af m (m.push o):=
 ⟨az,λb hb=>by rw[aHq,aFS ab]⟩
theorem af.aC{a m:ah}(h:af a m)(o:Obj):af a (m.push o):=h.trans (af.push m o)
theorem af.ag{a m:ah}(h:af a m){b:Nat}(hb:a.size<=b)(o:Nat)(l:List Ce):af a (ag m b o l):=
 ⟨by rw[aq];exact h.size,λj hj=>by rw[aP l m b o ab];exact h.same j hj⟩
theorem af.ad{m m':ah}(h:af m m'){b o:Nat}{v:Value}(hg:ad m b o=some v):ad m' b o=some v:=by
 rw[aA (h.same b (tH hg))];exact hg
theorem af.iu{m m':ah}(h:af m m'){b o:Nat}{l:List Ce}(hr:eK m b o l):eK m' b o l:=λi c hc=>h.ad (hr i c hc)
theorem bK.ext{m m':ah}(h:af m m'){b e:Nat}{l:List Ce}(hb:bK m b e l):bK m' b e l:=by
 unfold bK at*;rw[h.same b (Array.getElem?_eq_some_iff.1 hb).1];exact hb
structure cY{α:Type}(m:ah)(sz:Nat)(R:List Ce->α->Prop)(s:Sl)(l:List α):Prop where
 len:s.len=l.length
 cap:s.len<=s.cap
 eP:s.len<=9223372036854775807
 iu:∀(k:Nat)(x:α),l[k]? =some x->∃cs,R cs x/\eK m s.ao (s.off+k*sz) cs
theorem cY.mono{α:Type}{m m':ah}{sz:Nat}{R R':List Ce->α->Prop}{s:Sl}{l:List α}(h:cY m sz R s l)(hm:af m m')(hR:∀cs x,R cs x->R' cs x):cY m' sz R' s l:=
 ⟨h.len,h.cap,h.eP,λk x hk=>let⟨cs,h1,h2⟩:=h.iu k x hk;⟨cs,hR _ _ h1,hm.iu h2⟩⟩
def aae(cs:List Ce)(n:Int):Prop:=cs=[.i n]
abbrev aj(m:ah)(s:Sl)(l:List Int):Prop:=cY m 1 aae s l
theorem aj.aE{m:ah}{s:Sl}{l:List Int}(h:aj m s l){k:Nat}{x:Int}(hk:l[k]? =some x):ad m s.ao (s.off+k*1)=some (vi x):=by
 obtain⟨cs,rfl,hr⟩:=h.iu k x hk;exact hr 0 (.i x) rfl
theorem aj.ext{m m':ah}(hm:af m m'){s:Sl}{l:List Int}(h:aj m s l):aj m' s l:=h.mono hm λ_ _ h=>h
theorem ae{α:Type}{l:List α}{k:Nat}(h:k<l.length):∃x,l[k]? =some x:=⟨l[k],by simp[h]⟩
theorem ap{α:Type}{l:List α}{k:Nat}{x:α}(h:l[k]? =some x):k<l.length:=(List.getElem?_eq_some_iff.1 h).1
theorem bn{α:Type}{l:List α}{k:Nat}{x:α}(h:l[k]? =some x):l.take (k+1)=l.take k++[x]:=by
 rw[List.take_add_one,h];rfl
theorem bL{α:Type}{l:List α}{k:Nat}(h:l.length<=k):l.take k=l:=aG6 h
def Mc(P:Program)(f:Nat)(args:List Value)(m:ah)(v:Value):Prop:=aD P f args m λv' m'=>v'=v/\af m m'
theorem aD.post{P:Program}{f:Nat}{args:List Value}{m:ah}{K K':Value->ah->Prop}(h:aD P f args m K)(hk:∀v m',K v m'->K' v m'):aD P f args m K':=h.mono hk
theorem Mc.then{P:Program}{f:Nat}{args:List Value}{m:ah}{v:Value}{K:Value->ah->Prop}(h:Mc P f args m v)(hk:∀m',af m m'->K v m'):aD P f args m K:=
 h.mono λ_ _⟨he,hx⟩=>he▸hk _ hx
theorem Sl.HN{s t:Sl}:s.v=t.v<->s=t:=by
 refine⟨λh=>?_,λh=>h▸rfl⟩;cases s<;>cases t<;>simp_all [Sl.v]
theorem af.cg{m m':ah}(h:af m m'){l:List Nat}(hl:∀b∈l,b<m.size):da l m m':=λb hb=>h.same b (hl b hb)
theorem af.lt{m m':ah}(h:af m m'){b:Nat}(hb:b<m.size):b<m'.size:=aFY hb h.size
theorem af.cr{m m':ah}(h:af m m'){b o:Nat}{v:Value}(hg:Vc.ad m b o=some v):Vc.ad m' b o=Vc.ad m b o:=by rw[h.ad hg,hg]
theorem iG{k n:Nat}(h:k<n)(hn:n<=9223372036854775807):bS ((k:Int)+1)=((k+1:Nat):Int):=by rw[aF ab ab];rfl
theorem Bw{n k:Nat}(h:k<n):((n:Int) -((k+1:Nat):Int)).toNat<((n:Int) -(k:Int)).toNat:=ab
theorem dg{n:Nat}(hn:n<=9223372036854775807){m:ah}{Body:(Int->ah->Prop)->(Int->ah->Nat)->Int->ah->Prop}(Q:Nat->ah->Prop)(h0:Q 0 m)
 (h:∀(k:Nat)(m1:ah)(I:Int->ah->Prop)(μ:Int->ah->Nat),k<=n->Q k m1->
  (k<n->∀m',Q (k+1) m'->I (bS ((k:Int)+1)) m'/\μ (bS ((k:Int)+1)) m'<μ k m1)->Body I μ k m1):
 ∃(I:Int->ah->Prop)(μ:Int->ah->Nat),I 0 m/\∀i m1,I i m1->Body I μ i m1:=by
 refine⟨λi m'=>∃k:Nat,i=k/\k<=n/\Q k m',λi _=>(n -i).toNat,⟨0,rfl,aGq _,h0⟩,?_⟩
 rintro i m1 ⟨k,rfl,hk,hq⟩
 refine h k m1 _ _ hk hq λcA m' zB=>?_
 rw[iG cA hn]
 exact⟨⟨k+1,rfl,cA,zB⟩,Bw cA⟩
theorem cN{σ:Type}{n:Nat}(hn:n<=9223372036854775807){m:ah}{s0:σ}{Body:(σ->Int->ah->Prop)->(σ->Int->ah->Nat)->σ->Int->ah->Prop}(Q:Nat->σ->ah->Prop)(h0:Q 0 s0 m)
 (h:∀(k:Nat)(s:σ)(m1:ah)(I:σ->Int->ah->Prop)(μ:σ->Int->ah->Nat),k<=n->Q k s m1->
  (k<n->∀s' m',Q (k+1) s' m'->I s' (bS ((k:Int)+1)) m'/\μ s' (bS ((k:Int)+1)) m'<μ s k m1)->Body I μ s k m1):
 ∃(I:σ->Int->ah->Prop)(μ:σ->Int->ah->Nat),I s0 0 m/\∀s i m1,I s i m1->Body I μ s i m1:=by
 refine⟨λs i m'=>∃k:Nat,i=k/\k<=n/\Q k s m',λ_ i _=>(n -i).toNat,⟨0,rfl,aGq _,h0⟩,?_⟩
 rintro s i m1 ⟨k,rfl,hk,hq⟩
 refine h k s m1 _ _ hk hq λcA s' m' zB=>?_
 rw[iG cA hn]
 exact⟨⟨k+1,rfl,cA,zB⟩,Bw cA⟩
def cB(P:Program)(f:Nat)(args:List Value)(m:ah)(p:Prop):Prop:=aD P f args m λv m'=>∃b:Bool,v=.bool b/\(b=true<->p)/\af m m'
theorem cB.then{P:Program}{f:Nat}{args:List Value}{m:ah}{p:Prop}{K:Value->ah->Prop}(h:cB P f args m p)(hk:∀(b:Bool) m',(b=true<->p)->af m m'->K (.bool b) m'):aD P f args m K:=
 h.mono λ_ _⟨b,he,hb,hx⟩=>he▸hk b _ hb hx
theorem cB.ay{P:Program}{f:Nat}{args:List Value}{m m0:ah}{p:Prop}{K:Value->ah->Prop}{l:List Nat}(h:cB P f args m p)(hx:af m0 m)(hl:∀b∈l,b<m0.size)
 (hk:∀(b:Bool) m',(b=true<->p)->af m m'->af m0 m'->K (.bool b) m'):aD P f args m λv m'=>da l m m'/\K v m':=
 h.mono λ_ _⟨b,he,hb,h2⟩=>⟨h2.cg λc hc=>hx.lt (hl c hc),he▸hk b _ hb h2 (hx.trans h2)⟩
theorem Mc.ay{P:Program}{f:Nat}{args:List Value}{m m0:ah}{v:Value}{K:Value->ah->Prop}{l:List Nat}(h:Mc P f args m v)(hx:af m0 m)(hl:∀b∈l,b<m0.size)
 (hk:∀m',af m m'->af m0 m'->K v m'):aD P f args m λv m'=>da l m m'/\K v m':=
 h.mono λ_ _⟨he,h2⟩=>⟨h2.cg λc hc=>hx.lt (hl c hc),he▸hk _ h2 (hx.trans h2)⟩
theorem aD.ay{P:Program}{f:Nat}{args:List Value}{m m0:ah}{K K':Value->ah->Prop}{l:List Nat}(h:aD P f args m K)(hx:af m0 m)(hl:∀b∈l,b<m0.size)
 (hk:∀v m',K v m'->af m m'/\K' v m'):aD P f args m λv m'=>da l m m'/\K' v m':=
 h.mono λv m' hv=>⟨(hk v m' hv).1.cg λc hc=>hx.lt (hl c hc),(hk v m' hv).2⟩
theorem ez{m m':ah}{p:Prop}{b:Bool}(h:b=true<->p)(hx:af m m'):∃b':Bool,Value.bool b=.bool b'/\(b'=true<->p)/\af m m':=⟨b,rfl,h,hx⟩
theorem bC{m m':ah}{p:Prop}(h:¬p)(hx:af m m'):∃b':Bool,Value.bool false=.bool b'/\(b'=true<->p)/\af m m':=⟨false,rfl,by simp[h],hx⟩
theorem gP{m m':ah}{p:Prop}(h:p)(hx:af m m'):∃b':Bool,Value.bool true=.bool b'/\(b'=true<->p)/\af m m':=⟨true,rfl,by simp[h],hx⟩
theorem nb{b:Bool}{p:Prop}(hb:b=true<->p)(h:(!b)=true):¬p:=λhp=>by simp[hb.2 hp]at h
theorem yb{b:Bool}{p:Prop}(hb:b=true<->p)(h:(!b)=false):p:=hb.1 (by simpa using h)
theorem fb{b:Bool}{p:Prop}(hb:b=true<->p)(h:b=false):¬p:=λhp=>by simp[hb.2 hp]at h
theorem aZ{α:Type}{l:List α}{k:Nat}{x:α}{p:α->Prop}(hx:l[k]? =some x)(h:∀y∈l.take k,p y)(hp:p x):∀y∈l.take (k+1),p y:=by
 rw[bn hx];intro y hy;rcases List.mem_append.1 hy with hy|hy
 ·exact h y hy
 ·simp at hy;subst hy;exact hp
theorem bM{α:Type}{l:List α}{k:Nat}{p:α->Prop}(hk:l.length<=k)(h:∀y∈l.take k,p y):∀y∈l,p y:=by rw[<-bL hk];exact h
theorem ak{α:Type}{l:List α}{k:Nat}{x:α}(h:l[k]? =some x):x∈l:=aGW h
end Go.Vc
end
section
namespace Go.Vc
structure aS where
 rH:Int
 to:Int
 cons:List (List Int)
structure Instr where
 op:Int
 dst:Int
 bh:Int
 bA:Int
 args:List Int
 cW:List Int
structure bY where
 params:List Int
 bX:List Int
 aH:Int
 an:Int
 bP:List Instr
structure bq where
 aI:List aS
 bJ:List bY
def ka(m:ah)(cs:List Ce)(c:List Int):Prop:=∃f,cs=[.s f]/\aj m f c
def eX(m:ah)(cs:List Ce)(d:aS):Prop:=∃f,cs=[.i d.rH,.i d.to,.s f]/\cY m 1 (ka m) f d.cons
def cD(m:ah)(cs:List Ce)(x:Instr):Prop:=∃a j,cs=[.i x.op,.i x.dst,.i x.bh,.i x.bA,.s a,.s j]/\aj m a x.args/\aj m j x.cW
def jc(m:ah)(cs:List Ce)(p:bY):Prop:=
 ∃a l c,cs=[.s a,.s l,.i p.aH,.i p.an,.s c]/\aj m a p.params/\aj m l p.bX/\cY m 6 (cD m) c p.bP
abbrev mV(m:ah)(s:Sl)(l:List (List Int)):Prop:=cY m 1 (ka m) s l
abbrev br(m:ah)(s:Sl)(l:List aS):Prop:=cY m 3 (eX m) s l
abbrev dq(m:ah)(s:Sl)(l:List Instr):Prop:=cY m 6 (cD m) s l
abbrev eV(m:ah)(s:Sl)(l:List bY):Prop:=cY m 5 (jc m) s l
structure dU(m:ah)(d p:Sl)(im:bq):Prop where
 aI:br m d im.aI
 bJ:eV m p im.bJ
theorem ka.ext{m m':ah}(hm:af m m')(cs:List Ce)(c:List Int):ka m cs c->ka m' cs c:=λ⟨f,h1,h2⟩=>⟨f,h1,h2.ext hm⟩
theorem mV.ext{m m':ah}(hm:af m m'){s:Sl}{l:List (List Int)}(h:mV m s l):mV m' s l:=h.mono hm (ka.ext hm)
theorem eX.ext{m m':ah}(hm:af m m')(cs:List Ce)(c:aS):eX m cs c->eX m' cs c:=λ⟨f,h1,h2⟩=>⟨f,h1,mV.ext hm h2⟩
theorem br.ext{m m':ah}(hm:af m m'){s:Sl}{l:List aS}(h:br m s l):br m' s l:=h.mono hm (eX.ext hm)
theorem cD.ext{m m':ah}(hm:af m m')(cs:List Ce)(c:Instr):cD m cs c->cD m' cs c:=λ⟨a,j,h1,h2,h3⟩=>⟨a,j,h1,h2.ext hm,h3.ext hm⟩
theorem dq.ext{m m':ah}(hm:af m m'){s:Sl}{l:List Instr}(h:dq m s l):dq m' s l:=h.mono hm (cD.ext hm)
theorem jc.ext{m m':ah}(hm:af m m')(cs:List Ce)(c:bY):jc m cs c->jc m' cs c:=λ⟨a,l,c,h1,h2,h3,h4⟩=>⟨a,l,c,h1,h2.ext hm,h3.ext hm,dq.ext hm h4⟩
theorem eV.ext{m m':ah}(hm:af m m'){s:Sl}{l:List bY}(h:eV m s l):eV m' s l:=h.mono hm (jc.ext hm)
theorem dU.ext{m m':ah}(hm:af m m'){d p:Sl}{im:bq}(h:dU m d p im):dU m' d p im:=⟨br.ext hm h.aI,eV.ext hm h.bJ⟩
theorem mV.aE{m:ah}{s:Sl}{l:List (List Int)}(h:mV m s l){k:Nat}{x:List Int}(hk:l[k]? =some x):
 ∃f,aj m f x/\ad m s.ao (s.off+k*1)=some (Sl.v f):=by
 obtain⟨cs,⟨f,rfl,hf⟩,hr⟩:=h.iu k x hk
 exact⟨f,hf,hr 0 (.s f) rfl⟩
theorem br.aE{m:ah}{s:Sl}{l:List aS}(h:br m s l){k:Nat}{x:aS}(hk:l[k]? =some x):
 ∃f,mV m f x.cons/\ad m s.ao (s.off+k*3)=some (vi x.rH)/\ad m s.ao (s.off+k*3+1)=some (vi x.to)/\ad m s.ao (s.off+k*3+2)=some (Sl.v f):=by
 obtain⟨cs,⟨f,rfl,hf⟩,hr⟩:=h.iu k x hk
 exact⟨f,hf,hr 0 (.i x.rH) rfl,hr 1 (.i x.to) rfl,hr 2 (.s f) rfl⟩
theorem dq.aE{m:ah}{s:Sl}{l:List Instr}(h:dq m s l){k:Nat}{x:Instr}(hk:l[k]? =some x):
 ∃a j,aj m a x.args/\aj m j x.cW/\ad m s.ao (s.off+k*6)=some (vi x.op)/\ad m s.ao (s.off+k*6+1)=some (vi x.dst)/\ad m s.ao (s.off+k*6+2)=some (vi x.bh)/\
  ad m s.ao (s.off+k*6+3)=some (vi x.bA)/\ad m s.ao (s.off+k*6+4)=some (Sl.v a)/\ad m s.ao (s.off+k*6+5)=some (Sl.v j):=by
 obtain⟨cs,⟨a,j,rfl,ha,hj⟩,hr⟩:=h.iu k x hk
 exact⟨a,j,ha,hj,hr 0 (.i x.op) rfl,hr 1 (.i x.dst) rfl,hr 2 (.i x.bh) rfl,hr 3 (.i x.bA) rfl,hr 4 (.s a) rfl,hr 5 (.s j) rfl⟩
theorem eV.aE{m:ah}{s:Sl}{l:List bY}(h:eV m s l){k:Nat}{x:bY}(hk:l[k]? =some x):
 ∃a b c,aj m a x.params/\aj m b x.bX/\dq m c x.bP/\ad m s.ao (s.off+k*5)=some (Sl.v a)/\ad m s.ao (s.off+k*5+1)=some (Sl.v b)/\ad m s.ao (s.off+k*5+2)=some (vi x.aH)/\
  ad m s.ao (s.off+k*5+3)=some (vi x.an)/\ad m s.ao (s.off+k*5+4)=some (Sl.v c):=by
 obtain⟨cs,⟨a,b,c,rfl,ha,hb,hc⟩,hr⟩:=h.iu k x hk
 exact⟨a,b,c,ha,hb,hc,hr 0 (.s a) rfl,hr 1 (.s b) rfl,hr 2 (.i x.aH) rfl,hr 3 (.i x.an) rfl,hr 4 (.s c) rfl⟩
end Go.Vc
end
section
namespace Go.Vc
structure gQ(m0 m:ah)(e sz:Nat)(s:Sl)(l:List Ce):Prop where
 len:l.length=s.len*sz
 aE:s=.nil\/∃b c tail,s=.mk b 0 s.len c/\m0.size<=b/\bK m b e (l++tail)/\(l++tail).length=c*sz/\s.len<=c
theorem gQ.nil(m0 m:ah)(e sz:Nat):gQ m0 m e sz .nil []:=⟨az,Or.inl rfl⟩
theorem gQ.new{m0 m:ah}(h:af m0 m)(e sz:Nat)(l:List Ce)(k:Nat)(hk:l.length=k*sz):gQ m0 (m.push (.cells (aU l) e)) e sz (.mk m.size 0 k k) l:=
 ⟨hk,Or.inr ⟨m.size,k,[],rfl,h.size,by rw[aGP];exact bK.push _ _ _,by simpa using hk,aFR _⟩⟩
theorem gQ.congr{m0 m m':ah}{e sz:Nat}{s:Sl}{l:List Ce}(h:gQ m0 m e sz s l)(hb:m'[s.ao]? =m[s.ao]?):gQ m0 m' e sz s l:=by
 refine⟨h.len,?_⟩;rcases h.aE with h1|⟨b,c,tail,h1,h2,h3,h4,h5⟩
 ·exact Or.inl h1
 ·refine Or.inr ⟨b,c,tail,h1,h2,h3.congr ?_,h4,h5⟩;rw[h1]at hb;exact hb
theorem gQ.lt{m0 m:ah}{e sz:Nat}{s:Sl}{l:List Ce}(h:gQ m0 m e sz s l):s=.nil\/s.ao<m.size:=by
 rcases h.aE with h1|⟨b,c,tail,h1,h2,h3,h4,h5⟩
 ·exact Or.inl h1
 ·rw[h1];exact Or.inr h3.lt
theorem gQ.ext{m0 m m':ah}{e sz:Nat}{s:Sl}{l:List Ce}(h:gQ m0 m e sz s l)(hx:af m m'):gQ m0 m' e sz s l:=by
 rcases h.lt with h1|h1
 ·subst h1;exact⟨h.len,Or.inl rfl⟩
 ·exact h.congr (hx.same _ h1)
theorem gQ.bN{m0 m1 m:ah}{e sz:Nat}{s:Sl}{l:List Ce}(h:gQ m1 m e sz s l)(hs:m0.size<=m1.size):gQ m0 m e sz s l:=by
 refine⟨h.len,?_⟩;rcases h.aE with h1|⟨b,c,tail,h1,h2,h3,h4,h5⟩
 ·exact Or.inl h1
 ·exact Or.inr ⟨b,c,tail,h1,aF8 hs h2,h3,h4,h5⟩
theorem gQ.ao{m0 m:ah}{e sz:Nat}{s:Sl}{l:List Ce}(h:gQ m0 m e sz s l):s=.nil\/m0.size<=s.ao:=by
 rcases h.aE with h1|⟨b,c,tail,h1,h2,h3,h4,h5⟩
 ·exact Or.inl h1
 ·rw[h1];exact Or.inr h2
theorem eK.Pb{m:ah}{b o:Nat}{l r:List Ce}(h:eK m b o (l++r)):eK m b o l:=λi c hc=>h i c (by rw[aFV (ap hc)];exact hc)
theorem gQ.iu{m0 m:ah}{e sz:Nat}{s:Sl}{l:List Ce}(h:gQ m0 m e sz s l):eK m s.ao s.off l:=by
 rcases h.aE with h1|⟨b,c,tail,h1,h2,h3,h4,h5⟩
 ·have:l=[]:=List.length_eq_zero_iff.1 (by rw[h.len,h1];simp);subst this;intro i c hc;simp at hc
 ·rw[h1];exact h3.iu.Pb
theorem zQ(l new tail:List Ce)(h:new.length<=tail.length):fP (l++tail) l.length new=l++new++tail.drop new.length:=by
 apply aGC;intro i;rw[tI];simp only[aF4];by_cases h1:l.length<=i/\i<l.length+new.length/\i<l.length+tail.length
 ·rw[aFW h1,aGs,aFX h1.1,aFV ab]
 ·rw[aFS h1];by_cases h2:i<l.length
  ·rw[aFV h2,aGs,aFV h2]
  ·rw[aFX ab,aGs,aFX ab,aFX ab,aHk];congr 1;omega
theorem gQ.append{m0 m:ah}{e:Nat}{zs:List Ce}{bytes:Nat}{s x:Sl}{l new:List Ce}{K:Sl->ah->Prop}(h:gQ m0 m e zs.length s l)(hm:af m0 m)
 (hn:new.length=x.len*zs.length)(hr:eK m x.ao x.off new)(hb:(s.len+x.len)*bytes<=140737488355328)
 (hk:∀r m',gQ m0 m' e zs.length r (l++new)->af m0 m'->r.len=s.len+x.len->m.size<=m'.size->(∀b,b<m.size->(s≠.nil->b≠s.ao)->m'[b]? =m[b]?)->((s=.nil/\r=.nil)\/(s≠.nil/\r.ao=s.ao/\r≠.nil)\/r.ao=m.size)->K r m'):
 gA m e zs bytes s x K:=by
 refine⟨new,hn,hr,λhle=>?_,λhgt=>⟨hb,l,h.len,h.iu,λc hc=>?_⟩⟩
 ·rcases h.aE with h1|⟨b,c,tail,h1,h2,h3,h4,h5⟩
  ·subst h1
   have lM:x.len=0:=by simpa using hle
   have OS:new=[]:=List.length_eq_zero_iff.1 (by rw[hn,lM];simp)
   subst OS
   refine⟨λj hj=>by simp at hj,?_⟩
   exact hk .nil _ ⟨by rw[aGP];exact h.len,Or.inl rfl⟩ (by simpa[ag]using hm) (by simp[lM]) (aHD (aq _ _ _ _).symm) (λb hb _=>by simp[ag]) (Or.inl ⟨rfl,rfl⟩)
  ·have hlen:=h.len
   have Vi:s.cap=c:=by rw[h1];rfl
   rw[h1]
   simp only[Sl.gN,Sl.lQ,Sl.eO,aGa]
   simp only[aF4]at h4
   have dp:new.length<=tail.length:=by
    have h6:(s.len+x.len)*zs.length<=c*zs.length:=aGh _ ab;rw[aGE]at h6;omega
   refine⟨h3.dW (by simp only[aF4];omega),?_⟩
   have hB:=bK.ag (m:=m) (b:=b) (e:=e) (r:=new) (o:=s.len*zs.length) h3
   rw[<-hlen,zQ l new tail dp]at hB
   refine hk _ _ ⟨?_,Or.inr ⟨b,c,tail.drop new.length,rfl,h2,?_,?_,?_⟩⟩ (hm.ag h2 _ _) az (aHD (aq _ _ _ _).symm) (λb' _ cx=>aP _ _ _ _ ?_) (Or.inr (Or.inl ⟨by rw[h1];simp,by rw[h1];rfl,az⟩))
   ·simp only[aF4,Sl.eO,aGE];omega
   ·rw[<-hlen];exact hB
   ·simp only[aF4,List.length_drop];omega
   ·simp only[Sl.eO];omega
   ·have:=cx (by rw[h1];simp)
    rw[h1]at this;exact this
 ·refine hk _ _ ⟨?_,Or.inr ⟨m.size,c,kL zs (c -(s.len+x.len)),rfl,hm.size,bK.push _ _ _,?_,by simpa using hc⟩⟩ (hm.aC _) az az (λb hb _=>by rw[aHq,aFS ab]) (Or.inr (Or.inr rfl))
  ·simp only[aF4,Sl.eO,aGE,h.len,hn]
  ·simp only[aF4,oP,h.len,hn]
   rw[Nat.sub_mul,<-aGE]
   have:(s.len+x.len)*zs.length<=c*zs.length:=aGh _ hc
   omega
theorem aj.fQ{m0 m:ah}{e:Nat}{s:Sl}{l:List Int}(h:gQ m0 m e 1 s (l.map Ce.i))(hl:l.length<=9223372036854775807):aj m s l:=by
 have hlen:s.len=l.length:=by have:=h.len;simp at this;omega
 refine⟨hlen,?_,ab,λk x hk=>⟨[.i x],rfl,λi c hc=>?_⟩⟩
 ·rcases h.aE with h1|⟨b,c,tail,h1,h2,h3,h4,h5⟩
  ·rw[h1];exact aFR _
  ·rw[h1];exact h5
 ·have hi:i=0:=by have:=ap hc;simp at this;omega
  subst hi;simp at hc;subst hc;have:=h.iu k (.i x) (by simp[hk]);simpa using this
theorem fy{sz:Nat}:∀{css:List (List Ce)}(_:∀cs∈css,cs.length=sz){j:Nat}{cs:List Ce}(_:css[j]? =some cs){i:Nat}{c:Ce}(_:cs[i]? =some c),css.flatten[j*sz+i]? =some c
 |[],_,j,cs,h,_,_,_=>by simp at h
 |x::css,hl,0,cs,h,i,c,hc=>by
  simp at h;subst h;rw[aGS,aH3,aGa,aFV (ap hc)];exact hc
 |x::css,hl,j+1,cs,h,i,c,hc=>by
  have hx:x.length=sz:=hl x aF3;rw[aGS,aFX (by rw[hx,aGE];omega)];have:=fy (css:=css) (λy hy=>hl y (aFT _ hy)) (j:=j) (by simpa using h) hc;rw[<-this];congr 1;rw[hx,aGE];omega
theorem bZ{sz:Nat}:∀{css:List (List Ce)},(∀cs∈css,cs.length=sz)->css.flatten.length=css.length*sz
 |[],_=>az
 |x::css,hl=>by
  rw[aGS,aF4,bZ (λy hy=>hl y (aFT _ hy)),hl x aF3,aF5,aGE];omega
structure eQ{α:Type}(sz:Nat)(R:List Ce->α->Prop)(css:List (List Ce))(l:List α):Prop where
 len:css.length=l.length
 size:∀cs∈css,cs.length=sz
 cq:∀(j:Nat)(cs:List Ce)(x:α),css[j]? =some cs->l[j]? =some x->R cs x
theorem eQ.nil{α:Type}(sz:Nat)(R:List Ce->α->Prop):eQ sz R [] []:=⟨rfl,az,az⟩
theorem eQ.xI{α:Type}{sz:Nat}{R:List Ce->α->Prop}{css:List (List Ce)}{l:List α}(h:eQ sz R css l){cs:List Ce}{x:α}(hs:cs.length=sz)(hx:R cs x):eQ sz R (css++[cs]) (l++[x]):=by
 refine⟨by simp[h.len],λc hc=>?_,λj c y hc hy=>?_⟩
 ·rcases List.mem_append.1 hc with hc|hc
  ·exact h.size c hc
  ·simp at hc;subst hc;exact hs
 ·rcases aF1 j css.length with hj|hj
  ·rw[aFV hj]at hc;rw[aFV (h.len▸hj)]at hy;exact h.cq j c y hc hy
  ·rw[aFX hj]at hc;rw[aFX (by rw[<-h.len];exact hj),<-h.len]at hy;have TZ:j -css.length=0:=by have:=ap hc;simp at this;omega
   rw[TZ]at hc hy;simp at hc hy;subst hc;subst hy;exact hx
theorem eQ.mono{α:Type}{sz:Nat}{R R':List Ce->α->Prop}{css:List (List Ce)}{l:List α}(h:eQ sz R css l)(hR:∀cs x,R cs x->R' cs x):eQ sz R' css l:=
 ⟨h.len,h.size,λj cs x h1 h2=>hR _ _ (h.cq j cs x h1 h2)⟩
theorem cY.fQ{α:Type}{m0 m:ah}{e sz:Nat}{R:List Ce->α->Prop}{s:Sl}{css:List (List Ce)}{l:List α}(h:gQ m0 m e sz s css.flatten)(hr:eQ sz R css l)(hz:0<sz)(hl:l.length<=9223372036854775807):cY m sz R s l:=by
 have hlen:s.len=l.length:=by
  have h1:=h.len;rw[bZ hr.size]at h1;have:=aHN hz h1;rw[<-this,hr.len]
 refine⟨hlen,?_,ab,λk x hk=>?_⟩
 ·rcases h.aE with h1|⟨b,c,tail,h1,h2,h3,h4,h5⟩
  ·rw[h1];exact aFR _
  ·rw[h1];exact h5
 ·obtain⟨cs,kJ⟩:=ae (l:=css) (k:=k) (by rw[hr.len];exact ap hk);refine⟨cs,hr.cq k cs x kJ hk,λi c hc=>?_⟩;have:=h.iu (k*sz+i) c (fy hr.size kJ hc);rwa[<-aGm]at this
end Go.Vc
end
section
namespace Go.Vc
def aY(S:List Nat)(m:ah):ah:=m.mapIdx λb o=>if b∈S then .cells #[] 0 else o
def Le(M M':ah):Prop:=∀b o v,ad M b o=some v->ad M' b o=some v
theorem cT{S:List Nat}{m:ah}{b o:Nat}{v:Value}:ad (aY S m) b o=some v<->b∉S/\ad m b o=some v:=by
 unfold ad aY;rw[aH4];cases h:m[b]? with
 |none=>simp
 |some x=>by_cases hb:b∈S<;>simp[hb]
theorem Le.av(m:ah):Le m m:=λ_ _ _ h=>h
theorem Le.trans{a b c:ah}(h:Le a b)(k:Le b c):Le a c:=λx o v hv=>k x o v (h x o v hv)
theorem af.le{m m':ah}(h:af m m'):Le m m':=λ_ _ _ hv=>h.ad hv
theorem aV(S:List Nat)(m:ah):Le (aY S m) m:=λ_ _ _ h=>(cT.1 h).2
theorem mW{S S':List Nat}{m m':ah}(h:∀b,b<m.size->b∉S->b∉S'/\m'[b]? =m[b]?):Le (aY S m) (aY S' m'):=λb o v hv=>by
 obtain⟨h1,h2⟩:=cT.1 hv;obtain⟨h3,h4⟩:=h b (tH h2) h1;exact cT.2 ⟨h3,by rw[aA h4];exact h2⟩
theorem af.aY{m m':ah}(h:af m m'){S S':List Nat}(hS:∀b∈S',b∈S\/m.size<=b):Le (aY S m) (aY S' m'):=
 mW λb hb hn=>⟨λjx=>(hS b jx).elim hn λh=>ab,h.same b hb⟩
theorem af.bO{m m':ah}(h:af m m')(S:List Nat):Le (Vc.aY S m) (Vc.aY S m'):=h.aY λ_ hb=>Or.inl hb
theorem eY{S S':List Nat}(m:ah)(hS:∀b∈S',b∈S):Le (aY S m) (aY S' m):=(af.av m).aY λb hb=>Or.inl (hS b hb)
theorem Le.iu{M M':ah}(h:Le M M'){b o:Nat}{l:List Ce}(hr:eK M b o l):eK M' b o l:=λi c hc=>h _ _ _ (hr i c hc)
theorem cY.le{α:Type}{m m':ah}{sz:Nat}{R R':List Ce->α->Prop}{s:Sl}{l:List α}(h:cY m sz R s l)(hm:Le m m')(hR:∀cs x,R cs x->R' cs x):cY m' sz R' s l:=
 ⟨h.len,h.cap,h.eP,λk x hk=>let⟨cs,h1,h2⟩:=h.iu k x hk;⟨cs,hR _ _ h1,hm.iu h2⟩⟩
theorem aj.le{m m':ah}(hm:Le m m'){s:Sl}{l:List Int}(h:aj m s l):aj m' s l:=cY.le h hm λ_ _ h=>h
theorem ka.le{m m':ah}(hm:Le m m')(cs:List Ce)(c:List Int):ka m cs c->ka m' cs c:=λ⟨f,h1,h2⟩=>⟨f,h1,h2.le hm⟩
theorem eX.le{m m':ah}(hm:Le m m')(cs:List Ce)(c:aS):eX m cs c->eX m' cs c:=λ⟨f,h1,h2⟩=>⟨f,h1,cY.le h2 hm (ka.le hm)⟩
theorem br.le{m m':ah}(hm:Le m m'){s:Sl}{l:List aS}(h:br m s l):br m' s l:=cY.le h hm (eX.le hm)
theorem Jo{S:List Nat}{m:ah}{b o:Nat}{l:List Ce}(hb:b∉S)(h:eK m b o l):eK (aY S m) b o l:=λi c hc=>cT.2 ⟨hb,h i c hc⟩
theorem cY.Rx{α:Type}{m0 m:ah}{e sz:Nat}{R:List Ce->α->Prop}{s:Sl}{css:List (List Ce)}{l:List α}{S:List Nat}(hS:∀b∈S,b<m0.size)(h:gQ m0 m e sz s css.flatten)(hr:eQ sz R css l)(hz:0<sz)(hl:l.length<=9223372036854775807):cY (aY S m) sz R s l:=by
 have H:=cY.fQ h hr hz hl;refine⟨H.len,H.cap,H.eP,λk x hk=>?_⟩;obtain⟨cs,h1,h2⟩:=H.iu k x hk;rcases h.ao with h3|h3
 ·have h4:=H.len;have:=ap hk;rw[h3]at h4;simp at h4;omega
 ·exact⟨cs,h1,Jo (λhb=>by have:=hS _ hb;omega) h2⟩
theorem aj.Rx{m0 m:ah}{e:Nat}{s:Sl}{l:List Int}{S:List Nat}(hS:∀b∈S,b<m0.size)(h:gQ m0 m e 1 s (l.map Ce.i))(hl:l.length<=9223372036854775807):aj (aY S m) s l:=by
 have H:=aj.fQ h hl;refine⟨H.len,H.cap,H.eP,λk x hk=>?_⟩;obtain⟨cs,h1,h2⟩:=H.iu k x hk;rcases h.ao with h3|h3
 ·have h4:=H.len;have:=ap hk;rw[h3]at h4;simp at h4;omega
 ·exact⟨cs,h1,Jo (λhb=>by have:=hS _ hb;omega) h2⟩
end Go.Vc
end
section
namespace Go.Vc
structure Fz(X:List Nat)(m m':ah):Prop where
 size:m.size<=m'.size
 same:∀b,b<m.size->b∉X->m'[b]? =m[b]?
theorem Fz.av(X:List Nat)(m:ah):Fz X m m:=⟨aFR _,λ_ _ _=>rfl⟩
theorem Fz.pA{X Y:List Nat}{a b c:ah}(h:Fz X a b)(k:Fz Y b c)(hy:∀y∈Y,y∈X\/a.size<=y):Fz X a c:=
 ⟨aF8 h.size k.size,λi hi hx=>(k.same i (aFY hi h.size) λhm=>(hy i hm).elim hx λh=>ab).trans (h.same i hi hx)⟩
theorem Fz.trans{X:List Nat}{a b c:ah}(h:Fz X a b)(k:Fz X b c):Fz X a c:=h.pA k λ_ hy=>Or.inl hy
theorem af.fz{m m':ah}(h:af m m')(X:List Nat):Fz X m m':=⟨h.size,λb hb _=>h.same b hb⟩
theorem Fz.then{X:List Nat}{a b c:ah}(h:Fz X a b)(k:af b c):Fz X a c:=h.trans (k.fz X)
theorem Fz.push{X:List Nat}{a m:ah}(h:Fz X a m)(o:Obj):Fz X a (m.push o):=h.then (af.push m o)
theorem Fz.ext{m m':ah}(h:Fz [] m m'):af m m':=⟨h.size,λb hb=>h.same b hb az⟩
theorem Fz.By{X Y:List Nat}{m m':ah}(h:Fz X m m')(hx:∀b∈X,b∈Y\/m.size<=b):Fz Y m m':=⟨h.size,λb hb hn=>h.same b hb λhm=>(hx b hm).elim hn λh=>ab⟩
theorem Fz.ag{X:List Nat}{a m:ah}(h:Fz X a m){b:Nat}(hb:b∈X\/a.size<=b)(o:Nat)(l:List Ce):Fz X a (ag m b o l):=
 ⟨by rw[aq];exact h.size,λj hj hx=>by
  have e:j≠b:=λe=>by subst e;exact hb.elim hx λhb=>ab
  rw[aP l m b o e];exact h.same j hj hx⟩
theorem Fz.aY{X:List Nat}{m m':ah}(h:Fz X m m'){S S':List Nat}(hX:∀b∈X,b∈S)(hS:∀b∈S',b∈S\/m.size<=b):Le (aY S m) (aY S' m'):=
 mW λb hb hn=>⟨λjx=>(hS b jx).elim hn λh=>ab,h.same b hb λhx=>hn (hX b hx)⟩
theorem Fz.bO{X:List Nat}{m m':ah}(h:Fz X m m'){S:List Nat}(hX:∀b∈X,b∈S):Le (Vc.aY S m) (Vc.aY S m'):=h.aY hX λ_ h=>Or.inl h
theorem Fz.cg{X:List Nat}{m m':ah}(h:Fz X m m'){l:List Nat}(hl:∀b∈l,b<m.size/\b∉X):da l m m':=λb hb=>h.same b (hl b hb).1 (hl b hb).2
inductive Ex where
 |mk (op bh:Int) (aW:List Ex)
def Ex.op:Ex->Int| .mk o _ _=>o
def Ex.bh:Ex->Int| .mk _ n _=>n
def Ex.aW:Ex->List Ex| .mk _ _ k=>k
structure Md(β:Type)where
 op:Int
 bh:Int
 bA:Int
 args:List Int
 aW:List β
inductive Bk where
 |mk (ar:List (Md Bk)) (aH:Int)
abbrev bu:=Md Bk
def Bk.ar:Bk->List bu| .mk s _=>s
def Bk.aH:Bk->Int| .mk _ r=>r
@[simp] theorem Ex.abO (o n:Int) (k:List Ex):(Ex.mk o n k).op=o:=rfl
@[simp] theorem Ex.Wt (o n:Int) (k:List Ex):(Ex.mk o n k).bh=n:=rfl
@[simp] theorem Ex.S0 (o n:Int) (k:List Ex):(Ex.mk o n k).aW=k:=rfl
@[simp] theorem Bk.gH (s:List bu) (r:Int):(Bk.mk s r).ar=s:=rfl
@[simp] theorem Bk.fH (s:List bu) (r:Int):(Bk.mk s r).aH=r:=rfl
inductive zR(m:ah):List Ce->Ex->Prop
 |mk (op bh:Int) (aW:List Ex) (s:Sl) (css:Nat->List Ce) (hl:s.len=aW.length) (hc:s.len<=s.cap) (hm:s.len<=9223372036854775807)
  (hr:∀(k:Nat)(x:Ex),aW[k]? =some x->eK m s.ao (s.off+k*3) (css k)) (hk:∀(k:Nat)(x:Ex),aW[k]? =some x->zR m (css k) x):zR m [.i op,.i bh,.s s] (.mk op bh aW)
inductive pv(m:ah):List Ce->Bk->Prop
 |mk (ar:List (Md Bk)) (r:Int) (s:Sl) (hl:s.len=ar.length) (hc:s.len<=s.cap) (hm:s.len<=9223372036854775807) (aa ks:Nat->Sl) (kcs:Nat->Nat->List Ce)
  (hr:∀(k:Nat)(x:Md Bk),ar[k]? =some x->eK m s.ao (s.off+k*5) [.i x.op,.i x.bh,.i x.bA,.s (aa k),.s (ks k)]/\aj m (aa k) x.args/\(ks k).len=x.aW.length/\(ks k).len<=(ks k).cap/\(ks k).len<=9223372036854775807)
  (hb:∀(k:Nat)(x:Md Bk)(j:Nat)(b:Bk),ar[k]? =some x->x.aW[j]? =some b->eK m (ks k).ao ((ks k).off+j*2) (kcs k j))
  (hk:∀(k:Nat)(x:Md Bk)(j:Nat)(b:Bk),ar[k]? =some x->x.aW[j]? =some b->pv m (kcs k j) b):pv m [.s s,.i r] (.mk ar r)
def eu(m:ah)(cs:List Ce)(x:bu):Prop:=∃a k,cs=[.i x.op,.i x.bh,.i x.bA,.s a,.s k]/\aj m a x.args/\cY m 2 (pv m) k x.aW
abbrev dC(m:ah)(s:Sl)(l:List Ex):Prop:=cY m 3 (zR m) s l
abbrev cU(m:ah)(s:Sl)(l:List bu):Prop:=cY m 5 (eu m) s l
abbrev lA(m:ah)(s:Sl)(l:List Bk):Prop:=cY m 2 (pv m) s l
theorem zR.le{m m':ah}(h:Le m m'){cs:List Ce}{e:Ex}(hr:zR m cs e):zR m' cs e:=by
 induction hr with
 |mk op bh aW s css hl hc hm hr hk ih=>exact .mk op bh aW s css hl hc hm (λk x hx=>h.iu (hr k x hx)) ih
theorem pv.le{m m':ah}(h:Le m m'){cs:List Ce}{b:Bk}(hr:pv m cs b):pv m' cs b:=by
 induction hr with
 |mk ar r s hl hc hm aa ks kcs hr hb hk ih=>
  exact .mk ar r s hl hc hm aa ks kcs (λk x hx=>let⟨h1,h2,h3⟩:=hr k x hx;⟨h.iu h1,h2.le h,h3⟩) (λk x j b hx jx=>h.iu (hb k x j b hx jx)) ih
theorem cY.choose{α:Type}{m:ah}{sz:Nat}{R:List Ce->α->Prop}{s:Sl}{l:List α}(h:cY m sz R s l):
 ∃css:Nat->List Ce,∀(k:Nat)(x:α),l[k]? =some x->R (css k) x/\eK m s.ao (s.off+k*sz) (css k):=by
 have:∀k:Nat,∃cs:List Ce,∀x:α,l[k]? =some x->R cs x/\eK m s.ao (s.off+k*sz) cs:=λk=>by
  cases hk:l[k]? with
  |none=>exact⟨[],λx hx=>by simp at hx⟩
  |some x=>obtain⟨cs,h1⟩:=h.iu k x hk;exact⟨cs,λy hy=>by simp at hy;exact hy▸h1⟩
 exact⟨λk=>Classical.choose (this k),λk=>aGt (this k)⟩
theorem zR.aT{m:ah}{cs:List Ce}{e:Ex}(h:zR m cs e):∃s,cs=[.i e.op,.i e.bh,.s s]/\dC m s e.aW:=by
 cases h with
 |mk op bh aW s css hl hc hm hr hk=>exact⟨s,rfl,hl,hc,hm,λk x hx=>⟨css k,hk k x hx,hr k x hx⟩⟩
theorem zR.of{m:ah}{op bh:Int}{aW:List Ex}{s:Sl}(h:dC m s aW):zR m [.i op,.i bh,.s s] (.mk op bh aW):=by
 obtain⟨css,hc⟩:=h.choose;exact .mk op bh aW s css h.len h.cap h.eP (λk x hx=>(hc k x hx).2) λk x hx=>(hc k x hx).1
theorem pv.aT{m:ah}{cs:List Ce}{b:Bk}(h:pv m cs b):∃s,cs=[.s s,.i b.aH]/\cU m s b.ar:=by
 cases h with
 |mk ar r s hl hc hm aa ks kcs hr hb hk=>
  exact⟨s,rfl,hl,hc,hm,λk x hx=>let⟨h1,h2,h3,h4,h5⟩:=hr k x hx;⟨_,⟨aa k,ks k,rfl,h2,h3,h4,h5,λj b hj=>⟨kcs k j,hk k x j b hx hj,hb k x j b hx hj⟩⟩,h1⟩⟩
theorem pv.of{m:ah}{r:Int}{ar:List bu}{s:Sl}(h:cU m s ar):pv m [.s s,.i r] (.mk ar r):=by
 obtain⟨css,hc⟩:=h.choose;have:∀k:Nat,∃(a kk:Sl)(kc:Nat->List Ce),∀x:bu,ar[k]? =some x->css k=[.i x.op,.i x.bh,.i x.bA,.s a,.s kk]/\aj m a x.args/\(kk.len=x.aW.length/\kk.len<=kk.cap/\kk.len<=9223372036854775807)/\
  ∀(j:Nat)(b:Bk),x.aW[j]? =some b->pv m (kc j) b/\eK m kk.ao (kk.off+j*2) (kc j):=λk=>by
  cases hk:ar[k]? with
  |none=>exact⟨.nil,.nil,λ_=>[],λx hx=>by simp at hx⟩
  |some x=>
   obtain⟨⟨a,kk,h1,h2,h3⟩,_⟩:=hc k x hk
   obtain⟨kc,hkc⟩:=h3.choose
   exact⟨a,kk,kc,λy hy=>by simp at hy;subst hy;exact⟨h1,h2,⟨h3.len,h3.cap,h3.eP⟩,hkc⟩⟩
 have H:=λk=>aGt (aGt (aGt (this k)));refine .mk ar r s h.len h.cap h.eP (λk=>Classical.choose (this k)) (λk=>Classical.choose (aGt (this k))) (λk=>Classical.choose (aGt (aGt (this k)))) (λk x hx=>?_) (λk x j b hx hj=>?_) λk x j b hx hj=>?_
 ·obtain⟨h1,h2,h3,_⟩:=H k x hx;exact⟨by rw[<-h1];exact(hc k x hx).2,h2,h3⟩
 ·exact((H k x hx).2.2.2 j b hj).2
 ·exact((H k x hx).2.2.2 j b hj).1
theorem eu.le{m m':ah}(h:Le m m'){cs:List Ce}{x:bu}:eu m cs x->eu m' cs x:=λ⟨a,k,h1,h2,h3⟩=>⟨a,k,h1,h2.le h,cY.le h3 h λ_ _=>pv.le h⟩
theorem dC.le{m m':ah}(hm:Le m m'){s:Sl}{l:List Ex}(h:dC m s l):dC m' s l:=cY.le h hm λ_ _=>zR.le hm
theorem cU.le{m m':ah}(hm:Le m m'){s:Sl}{l:List bu}(h:cU m s l):cU m' s l:=cY.le h hm λ_ _=>eu.le hm
theorem lA.le{m m':ah}(hm:Le m m'){s:Sl}{l:List Bk}(h:lA m s l):lA m' s l:=cY.le h hm λ_ _=>pv.le hm
theorem dC.aE{m:ah}{s:Sl}{l:List Ex}(h:dC m s l){k:Nat}{x:Ex}(hk:l[k]? =some x):
 ∃t,dC m t x.aW/\ad m s.ao (s.off+k*3)=some (vi x.op)/\ad m s.ao (s.off+k*3+1)=some (vi x.bh)/\ad m s.ao (s.off+k*3+2)=some (Sl.v t):=by
 obtain⟨cs,hx,hr⟩:=h.iu k x hk
 obtain⟨t,rfl,ht⟩:=hx.aT
 exact⟨t,ht,hr 0 _ rfl,hr 1 _ rfl,hr 2 _ rfl⟩
theorem cU.aE{m:ah}{s:Sl}{l:List bu}(h:cU m s l){k:Nat}{x:bu}(hk:l[k]? =some x):
 ∃a t,aj m a x.args/\lA m t x.aW/\ad m s.ao (s.off+k*5)=some (vi x.op)/\ad m s.ao (s.off+k*5+1)=some (vi x.bh)/\ad m s.ao (s.off+k*5+2)=some (vi x.bA)/\ad m s.ao (s.off+k*5+3)=some (Sl.v a)/\ad m s.ao (s.off+k*5+4)=some (Sl.v t):=by
 obtain⟨cs,⟨a,t,rfl,h1,h2⟩,hr⟩:=h.iu k x hk
 exact⟨a,t,h1,h2,hr 0 _ rfl,hr 1 _ rfl,hr 2 _ rfl,hr 3 _ rfl,hr 4 _ rfl⟩
theorem lA.aE{m:ah}{s:Sl}{l:List Bk}(h:lA m s l){k:Nat}{x:Bk}(hk:l[k]? =some x):
 ∃t,cU m t x.ar/\ad m s.ao (s.off+k*2)=some (Sl.v t)/\ad m s.ao (s.off+k*2+1)=some (vi x.aH):=by
 obtain⟨cs,hx,hr⟩:=h.iu k x hk
 obtain⟨t,rfl,ht⟩:=hx.aT
 exact⟨t,ht,hr 0 _ rfl,hr 1 _ rfl⟩
def Bk.w:Bk->Nat
 | .mk ar _=>1+(ar.map λs=>1+s.args.length+(s.aW.map Bk.w).sum).sum
decreasing_by
 rename_i s h1 _ _
 have h2:=aHa h1
 have h3:=aHa (by assumption:_∈s.aW)
 have h4:SizeOf.sizeOf s.aW<SizeOf.sizeOf s:=by cases s;simp;omega
 simp;omega
def Md.w(s:Md Bk):Nat:=1+s.args.length+(s.aW.map Bk.w).sum
theorem Bk.aiF(b:Bk):b.w=1+(b.ar.map Md.w).sum:=by
 cases b;rw[Bk.w];rfl
def Ex.n:Ex->Nat
 | .mk _ _ aW=>1+(aW.map Ex.n).sum
end Go.Vc
end
section
namespace Go.Vc
structure lV{α:Type}(sz:Nat)(R:ah->List Ce->α->Prop):Prop where
 le:∀{M M':ah}{cs:List Ce}{x:α},Le M M'->R M cs x->R M' cs x
 len:∀{M:ah}{cs:List Ce}{x:α},R M cs x->cs.length=sz
def rP(_:ah)(cs:List Ce)(n:Int):Prop:=aae cs n
theorem rP.mono:lV 1 rP:=⟨λ_ h=>h,λh=>by rw[h];rfl⟩
theorem zR.mono:lV 3 zR:=⟨λh=>zR.le h,λh=>by obtain⟨s,rfl,_⟩:=h.aT;rfl⟩
theorem pv.mono:lV 2 pv:=⟨λh=>pv.le h,λh=>by obtain⟨s,rfl,_⟩:=h.aT;rfl⟩
theorem eu.mono:lV 5 eu:=⟨λh=>eu.le h,λh=>by obtain⟨_,_,rfl,_⟩:=h;rfl⟩
structure Gr{α:Type}(S:List Nat)(m0 m:ah)(e sz:Nat)(R:ah->List Ce->α->Prop)(s:Sl)(l:List α):Prop where
 eZ:s≠.nil
 aL:∃css,gQ m0 m e sz s css.flatten/\eQ sz (R (aY (s.ao::S) m)) css l
theorem Gr.len{α:Type}{S:List Nat}{m0 m:ah}{e sz:Nat}{R:ah->List Ce->α->Prop}{s:Sl}{l:List α}(h:Gr S m0 m e sz R s l)(hz:0<sz):s.len=l.length:=by
 obtain⟨_,css,h1,h2⟩:=h;have:=h1.len;rw[bZ h2.size]at this;rw[<-h2.len,aHN hz this]
theorem Gr.aN{α:Type}{S:List Nat}{m0 m:ah}{e sz:Nat}{R:ah->List Ce->α->Prop}{s:Sl}{l:List α}(h:Gr S m0 m e sz R s l):m0.size<=s.ao/\s.ao<m.size:=by
 obtain⟨h0,css,h1,h2⟩:=h;exact⟨h1.ao.resolve_left h0,h1.lt.resolve_left h0⟩
theorem Gr.new{α:Type}(S:List Nat){m0 m:ah}(h:m0.size<=m.size)(e sz:Nat)(R:ah->List Ce->α->Prop):Gr S m0 (m.push (.cells (aU []) e)) e sz R (.mk m.size 0 0 0) []:=
 ⟨az,[],(gQ.new (af.av m) e sz [] 0 az).bN h,eQ.nil _ _⟩
theorem Gr.eg{α:Type}{S Y:List Nat}{m0 m m':ah}{e sz:Nat}{R:ah->List Ce->α->Prop}{s:Sl}{l:List α}(hR:lV sz R)(h:Gr S m0 m e sz R s l)(hf:Fz Y m m')(hY:∀b∈Y,b∈S/\b<m0.size):Gr S m0 m' e sz R s l:=by
 have hy:=h.aN;obtain⟨h0,css,h1,h2⟩:=h;refine⟨h0,css,h1.congr (hf.same _ hy.2 λhm=>by have:=(hY _ hm).2;omega),h2.mono λcs x=>hR.le ?_⟩;exact hf.bO λb hb=>aFT _ (hY b hb).1
theorem Gr.Nb{α:Type}{S Y:List Nat}{m0 m m':ah}{e sz:Nat}{R:ah->List Ce->α->Prop}{s:Sl}{l:List α}(hR:lV sz R)(h:Gr S m0 m e sz R s l)(hf:Fz Y m m')(hY:∀b∈Y,b∈S)(hs:s.ao∉Y):Gr S m0 m' e sz R s l:=by
 have hy:=h.aN;obtain⟨h0,css,h1,h2⟩:=h;exact⟨h0,css,h1.congr (hf.same _ hy.2 hs),h2.mono λcs x=>hR.le (hf.bO λb hb=>aFT _ (hY b hb))⟩
theorem Gr.re{α:Type}{S S' Y:List Nat}{m0 m m':ah}{e sz:Nat}{R:ah->List Ce->α->Prop}{s:Sl}{l:List α}(hR:lV sz R)(h:Gr S m0 m e sz R s l)(hf:Fz Y m m')(hY:∀b∈Y,b∈S)(hs:s.ao∉Y)(hS:∀b∈S',b∈S\/m.size<=b):Gr S' m0 m' e sz R s l:=by
 have hy:=h.aN;obtain⟨h0,css,h1,h2⟩:=h;refine⟨h0,css,h1.congr (hf.same _ hy.2 hs),h2.mono λcs x=>hR.le (hf.aY (λb hb=>aFT _ (hY b hb)) λb hb=>?_)⟩;rcases List.mem_cons.1 hb with hb|hb
 ·exact Or.inl (by rw[hb];exact aF3)
 ·exact(hS b hb).imp (aFT _) id
theorem Gr.ext{α:Type}{S:List Nat}{m0 m m':ah}{e sz:Nat}{R:ah->List Ce->α->Prop}{s:Sl}{l:List α}(hR:lV sz R)(h:Gr S m0 m e sz R s l)(hf:af m m'):Gr S m0 m' e sz R s l:=
 h.eg hR (hf.fz []) az
theorem Gr.done{α:Type}{S:List Nat}{m0 m:ah}{e sz:Nat}{R:ah->List Ce->α->Prop}{s:Sl}{l:List α}(hR:lV sz R)(h:Gr S m0 m e sz R s l)(hS:∀b∈S,b<m0.size)(hz:0<sz)(hl:l.length<=9223372036854775807):cY (aY S m) sz (R (aY S m)) s l:=by
 obtain⟨_,css,h1,h2⟩:=h;exact cY.Rx hS h1 (h2.mono λcs x=>hR.le (eY m λb hb=>aFT _ hb)) hz hl
theorem af.Pb{m:ah}{k:Nat}(h:k<=m.size):af (m.extract 0 k) m:=by
 refine⟨bg,λb hb=>?_⟩;have jx:b<k:=by simp at hb;omega
 rw[Array.getElem?_extract];simp;omega
theorem jz{m:ah}{k:Nat}(h:k<=m.size):(m.extract 0 k).size=k:=bg
theorem Gr.next{α:Type}{S X:List Nat}{m0 m:ah}{e:Nat}{zs:List Ce}{bytes:Nat}{R:ah->List Ce->α->Prop}{s x:Sl}{l l':List α}{css:List (List Ce)}{K:Sl->ah->Prop}(hR:lV zs.length R)(hz:0<zs.length)
 (h:Gr S m0 m e zs.length R s l)(hf:Fz X m0 m)(hx:x.len=css.length)(hr:eK m x.ao x.off css.flatten)(hc:eQ zs.length (R (aY (s.ao::S) m)) css l')(hb:(l.length+l'.length)*bytes<=140737488355328)
 (hk:∀r m',Gr S m0 m' e zs.length R r (l++l')->Fz X m0 m'->(m.size<=m'.size/\(r.ao=s.ao\/m.size<=r.ao))->(∀b,b<m.size->b≠s.ao->m'[b]? =m[b]?)->K r m'):gA m e zs bytes s x K:=by
 have hlen:=h.len hz
 have hy:=h.aN
 obtain⟨h0,cs0,h1,h2⟩:=h
 have hms:m0.size<=m.size:=hf.size
 refine gQ.append (m0:=m.extract 0 m0.size) (zs:=zs) (new:=css.flatten) (l:=cs0.flatten) (h1.bN (by rw[jz hms];exact aFR _)) (af.Pb hms) ?_ hr (by rw[hlen,hx,hc.len];exact hb) λr m' k1 k2 k3 k4 k5 k6=>?_
 ·rw[bZ hc.size,hx]
 have k5':∀b,b<m.size->b≠s.ao->m'[b]? =m[b]? :=λb hb hn=>k5 b hb λ_=>hn
 have VO:r≠.nil:=by
  rcases k6 with⟨h3,_⟩|⟨_,_,h3⟩|h3
  ·exact absurd h3 h0
  ·exact h3
  ·intro e;rw[e]at h3;simp at h3;omega
 have QZ:m.size<=m'.size:=k4
 have hle:Le (aY (s.ao::S) m) (aY (r.ao::S) m'):=mW λb hb hn=>by
  simp only[aF0,aHO]at hn;refine⟨?_,k5' b hb hn.1⟩;simp only[aF0,aHO];refine⟨?_,hn.2⟩;rcases k6 with⟨h3,_⟩|⟨_,h3,_⟩|h3
  ·exact absurd h3 h0
  ·rw[h3];exact hn.1
  ·omega
 refine hk r m' ⟨VO,cs0++css,?_,?_⟩ ⟨aF8 hms QZ,λb hb hx=>?_⟩ ⟨QZ,?_⟩ k5'
 ·rw[aHr]
  exact k1.bN (by rw[jz hms];exact aFR _)
 ·refine⟨by simp[h2.len,hc.len],λc uI=>?_,λj c y hj lj=>?_⟩
  ·rcases List.mem_append.1 uI with uI|uI
   ·exact h2.size c uI
   ·exact hc.size c uI
  ·rcases aF1 j cs0.length with NB|NB
   ·rw[aFV NB]at hj
    rw[aFV (h2.len▸NB)]at lj
    exact hR.le hle (h2.cq j c y hj lj)
   ·rw[aFX NB]at hj
    rw[aFX (by rw[<-h2.len];exact NB),<-h2.len]at lj
    exact hR.le hle (hc.cq _ c y hj lj)
 ·rw[k5' b (aFY hb hms) ab];exact hf.same b hb hx
 ·rcases k6 with⟨h3,_⟩|⟨_,h3,_⟩|h3
  ·exact absurd h3 h0
  ·exact Or.inl h3
  ·exact Or.inr ab
theorem Gr.iN{α:Type}{S X:List Nat}{m0 m:ah}{e:Nat}{zs cs:List Ce}{bytes:Nat}{R:ah->List Ce->α->Prop}{s:Sl}{l:List α}{a:α}{K:Sl->ah->Prop}(hR:lV zs.length R)(hz:0<zs.length)
 (h:Gr S m0 m e zs.length R s l)(hf:Fz X m0 m)(ha:R (aY (s.ao::S) m) cs a)(hb:(l.length+1)*bytes<=140737488355328)
 (hk:∀r m',Gr S m0 m' e zs.length R r (l++[a])->Fz X m0 m'->(m.size<=m'.size/\(r.ao=s.ao\/m.size<=r.ao))->(∀b,b<m.size->b≠s.ao->m'[b]? =m[b]?)->K r m'):gA (m.push (.cells (aU cs) e)) e zs bytes s (.mk m.size 0 1 1) K:=by
 have hx:=af.push m (.cells (aU cs) e)
 refine Gr.next (css:=[cs]) (l':=[a]) hR hz (h.ext hR hx) (hf.then hx) rfl ?_ ?_ hb λr m' h1 h2 h3 h4=>hk r m' h1 h2 ⟨aF8 hx.size h3.1,h3.2.imp id (aF8 hx.size)⟩ λb hb hn=>(h4 b (aFY hb hx.size) hn).trans (hx.same b hb)
 ·have:=(bK.push m (e:=e) (l:=cs)).iu
  simpa using this
 ·have:=eQ.xI (eQ.nil zs.length (R (aY (s.ao::S) (m.push (.cells (aU cs) e))))) (hR.len ha) (hR.le (hx.bO _) ha)
  simpa using this
theorem cY.abP{α:Type}{m:ah}{sz:Nat}{R:List Ce->α->Prop}{s:Sl}{l:List α}(hl:∀cs x,R cs x->cs.length=sz)(h:cY m sz R s l):
 ∃css,s.len=css.length/\eK m s.ao s.off css.flatten/\eQ sz R css l:=by
 obtain⟨f,hf⟩:=h.choose
 have kJ:∀(j:Nat)(cs:List Ce),((List.range l.length).map f)[j]? =some cs->j<l.length/\cs=f j:=λj cs hj=>by
  simp only[aGb,aGN]at hj;obtain⟨a,h1,h2⟩:=hj;obtain⟨h3,h4⟩:=List.getElem?_eq_some_iff.1 h1;simp at h3 h4;subst h4;exact⟨h3,h2.symm⟩
 have vK:∀cs∈(List.range l.length).map f,cs.length=sz:=λcs hc=>by
  obtain⟨j,hj⟩:=List.mem_iff_getElem?.1 hc;obtain⟨h1,rfl⟩:=kJ j cs hj;obtain⟨x,hx⟩:=ae h1;exact hl _ _ (hf j x hx).1
 refine⟨(List.range l.length).map f,by simp[h.len],λi c hi=>?_,az,vK,λj cs x hj hx=>?_⟩
 ·rcases aGT sz with h0|h0
  ·have cA:=ap hi
   rw[bZ vK,h0]at cA;simp at cA
  have cA:=ap hi
  rw[bZ vK]at cA
  simp at cA
  have hj:i/sz<l.length:=Nat.div_lt_of_lt_mul (by rw[Nat.mul_comm];exact cA)
  obtain⟨x,hx⟩:=ae hj
  have hi2:i=i/sz*sz+i%sz:=by rw[Nat.mul_comm];exact(Nat.div_add_mod i sz).symm
  have hm:=Nat.mod_lt i h0
  have gL:(f (i/sz)).length=sz:=hl _ _ (hf _ x hx).1
  obtain⟨c',uI⟩:=ae (l:=f (i/sz)) (k:=i%sz) ab
  have h5:=fy (css:=(List.range l.length).map f) vK (j:=i/sz) (cs:=f (i/sz)) (by simp[hj]) uI
  rw[<-hi2,hi]at h5
  simp at h5;subst h5
  have h6:=(hf _ x hx).2 _ c uI
  rw[hi2,<-aGm];exact h6
 ·obtain⟨_,rfl⟩:=kJ j cs hj
  exact(hf j x hx).1
theorem Gr.all{α:Type}{S X:List Nat}{m0 m:ah}{e:Nat}{zs:List Ce}{bytes:Nat}{R:ah->List Ce->α->Prop}{s x:Sl}{l l':List α}{K:Sl->ah->Prop}(hR:lV zs.length R)(hz:0<zs.length)
 (h:Gr S m0 m e zs.length R s l)(hf:Fz X m0 m)(ha:cY (aY (s.ao::S) m) zs.length (R (aY (s.ao::S) m)) x l')(hb:(l.length+l'.length)*bytes<=140737488355328)
 (hk:∀r m',Gr S m0 m' e zs.length R r (l++l')->Fz X m0 m'->(m.size<=m'.size/\(r.ao=s.ao\/m.size<=r.ao))->(∀b,b<m.size->b≠s.ao->m'[b]? =m[b]?)->K r m'):gA m e zs bytes s x K:=by
 obtain⟨css,h1,h2,h3⟩:=ha.abP λ_ _ h=>hR.len h
 exact Gr.next hR hz h hf h1 ((aV _ _).iu h2) h3 hb hk
theorem Gr.lit{α:Type}{S:List Nat}{m0 m:ah}{e sz:Nat}{R:ah->List Ce->α->Prop}{cs:List Ce}{css:List (List Ce)}{l:List α}{n:Nat}(hR:lV sz R)(h:m0.size<=m.size)(hS:∀b∈S,b<m0.size)(kJ:cs=css.flatten)(hn:n=css.length)(hc:eQ sz (R (aY S m)) css l):
 Gr S m0 (m.push (.cells (aU cs) e)) e sz R (.mk m.size 0 n n) l:=by
 subst kJ hn
 refine⟨az,css,(gQ.new (af.av m) e sz css.flatten css.length (bZ hc.size)).bN h,hc.mono λc x=>hR.le ?_⟩
 exact(af.push m _).aY λb hb=>by
  rcases List.mem_cons.1 hb with hb|hb
  ·exact Or.inr (by simp[hb])
  ·exact Or.inl hb
theorem Gr.lB{α:Type}{S:List Nat}{m0 m:ah}{e sz:Nat}{R:ah->List Ce->α->Prop}{s:Sl}{l:List α}(hR:lV sz R)(h:Gr S m0 m e sz R s l)(hS:s.ao∉S)(hz:0<sz)(hl:l.length<=9223372036854775807):cY (aY S m) sz (R (aY S m)) s l:=by
 obtain⟨_,css,h1,h2⟩:=h;have H:=cY.fQ h1 (h2.mono λcs x=>hR.le (eY m λb hb=>aFT s.ao hb)) hz hl;exact⟨H.len,H.cap,H.eP,λk x hk=>let⟨cs,h3,h4⟩:=H.iu k x hk;⟨cs,h3,Jo hS h4⟩⟩
theorem Gr.ne{α:Type}{S:List Nat}{m0 m:ah}{e sz:Nat}{R:ah->List Ce->α->Prop}{s:Sl}{l:List α}(h:Gr S m0 m e sz R s l){bx tb:Nat}{bc:List Ce}(hB:bK m bx tb bc)(ht:tb≠e):s.ao≠bx:=by
 obtain⟨h0,css,h1,h2⟩:=h;obtain⟨b,c,tail,e1,e2,e3,e4,e5⟩:=h1.aE.resolve_left h0;intro hb;rw[e1]at hb;simp only[Sl.gN]at hb;subst hb;unfold bK at hB e3;rw[hB]at e3;simp at e3;exact ht e3.2
theorem Gr.JZ{α β:Type}{S S':List Nat}{m0 m1 m:ah}{e sz e' sz':Nat}{R:ah->List Ce->α->Prop}{R':ah->List Ce->β->Prop}{s s':Sl}{l:List α}{l':List β}(h:Gr S m0 m e sz R s l)(h':Gr S' m1 m e' sz' R' s' l')(ht:e'≠e):s.ao≠s'.ao:=by
 obtain⟨h0,css,h1,h2⟩:=h';obtain⟨b,c,tail,e1,e2,e3,e4,e5⟩:=h1.aE.resolve_left h0;have:=h.ne e3 ht;rw[e1];exact this
theorem Gr.box{α:Type}{S X L:List Nat}{m0 m:ah}{e bx tb i bytes:Nat}{zs cs bc:List Ce}{R:ah->List Ce->α->Prop}{s:Sl}{l:List α}{a:α}{K:ah->Prop}(hR:lV zs.length R)(hz:0<zs.length)
 (h:Gr S m0 m e zs.length R s l)(hf:Fz X m0 m)(ha:R (aY (s.ao::S) m) cs a)(hb:(l.length+1)*bytes<=140737488355328)
 (hB:bK m bx tb bc)(hi:i<bc.length)(ht:tb≠e)(BQ:m0.size<=bx/\bx∈S)(hL:∀b∈L,b<m.size/\b≠bx/\b≠s.ao)
 (hk:∀r m',Gr S m0 m' e zs.length R r (l++[a])->bK m' bx tb (fP bc i [.s r])->Fz X m0 m'->m.size<=m'.size->(∀b,b<m.size->b≠s.ao->b≠bx->m'[b]? =m[b]?)->K m'):
 ad (m.push (.cells (aU cs) e)) bx i=ad m bx i/\
 gA (m.push (.cells (aU cs) e)) e zs bytes s (.mk m.size 0 1 1) λr m'=>da L (m.push (.cells (aU cs) e)) m'/\dW m' bx i 1/\(da L m' (ag m' bx i [.s r])/\K (ag m' bx i [.s r])):=by
 have cA:=hB.lt
 have cx:=h.ne hB ht
 have hx:=af.push m (.cells (aU cs) e)
 have hy:=h.aN
 refine⟨aA (hx.same bx cA) i,Gr.iN hR hz h hf ha hb λr m' g f z q=>?_⟩
 have ov:bK m' bx tb bc:=hB.congr (q bx cA (aHh cx))
 have apC:=g.ne ov ht
 have q2:∀b,b≠bx->(ag m' bx i [.s r])[b]? =m'[b]? :=λb hb=>aP _ _ _ _ hb
 have Vj:=hf.size
 have zy:=BQ.1
 refine⟨λb hb=>?_,ov.dW ab,λb hb=>q2 b (hL b hb).2.1,hk r _ ?_ (bK.ag (m:=m') ov) (f.ag (Or.inr BQ.1) _ _) (by rw[aq];exact z.1) λb h1 h2 h3=>(q2 b h3).trans (q b h1 h2)⟩
 ·have h1:=hL b hb
  rw[q b h1.1 h1.2.2,hx.same b h1.1]
 ·obtain⟨g0,css,g1,g2⟩:=g
  refine⟨g0,css,g1.congr (q2 _ apC),g2.mono λcs x=>hR.le ?_⟩
  exact mW λb hb hn=>⟨hn,q2 b λe=>hn (by rw[e];exact aFT _ BQ.2)⟩
theorem aj.lit{S:List Nat}{m:ah}(e:Nat)(l:List Int){cs:List Ce}{n:Nat}(hS:∀b∈S,b<m.size)(kJ:cs=l.map Ce.i)(hn:n=l.length)(hl:l.length<=9223372036854775807):aj (aY S (m.push (.cells (aU cs) e))) (.mk m.size 0 n n) l:=by
 subst kJ hn;have h:=gQ.new (af.av m) e 1 (l.map Ce.i) l.length az;exact aj.Rx hS h hl
end Go.Vc
end
