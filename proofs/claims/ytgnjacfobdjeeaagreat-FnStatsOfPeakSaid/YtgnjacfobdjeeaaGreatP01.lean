/- Part of a proof, joined by a program. -/
import Derived.Test.YtgnjacfobdjeeaaGreatP00
set_option linter.unusedVariables false
set_option linter.unusedSimpArgs false
set_option linter.defProp false
set_option linter.constructorNameAsVariable false
set_option maxHeartbeats 8000000
set_option maxRecDepth 100000
section
namespace Go.Vc
variable{o:Oper}{a:Act}{m:J}
variable{b:Program}{T:TT}{G:List Nat}{n:Nat}
def JA:Op->Bool
 | .alloc _| .box ..| .buildSlice ..| .store ..| .makeSlice ..| .makeMap ..| .lookup ..| .mapUpdate ..| .makeFunc ..=>true
 | .call ⟨.builtin .append,_,_⟩| .call ⟨.builtin .copy,_,_⟩=>true
 | .call ⟨.builtin _,_,_⟩=>false
 | .call _=>true
 |_=>false
def rp(n:Nat):Option Nat->Bool
 |none=>true
 |some d=>Nat.blt d n
def Jx(a:List Oper)(j:Nat):Option Nat:=
 match Gb a j with
 |some o=>o.dst
 |none=>none
def gd(e:List Oper)(a:Fr)(g:Option (Nat×Bool))(Nt b:Fr->Prop):Prop:=
 match g with
 |none=>Nt a
 |some (j,c)=>match Jx e j with
  |none=>False
  |some d=>match gJ a d with
   | .tt=>bif c then Nt a else b a
   | .ff=>bif c then b a else Nt a
   | .un=>b a
   | .c (.t x)=>(x=true->bif c then Nt ((d,.tt)::a)else b ((d,.tt)::a))/\(x=false->bif c then b ((d,.ff)::a)else Nt ((d,.ff)::a))
   |_=>False
def rD(b:Program)(T:TT)(G:List Nat)(n:Nat)(c:List Oper):List Oper->Fr->J->(Fr->J->Prop)->Prop
 |[],a,m,k=>k a m
 |o::mo,a,m,k=>
  bif rp n o.dst then
   gd c a o.guard
    (λa=>bif JA o.op then wr b T G n a m o.dst o.type (λd x e=>rD b T G n c mo (tr d o.dst x) e k) o.op
     else rd T a m (λx=>rD b T G n c mo (tr a o.dst x) m k) o.op)
    (λa=>rD b T G n c mo (tr a o.dst .un) m k)
  else False
def yP:List Oper->List Nat
 |[]=>[]
 |o::r=>match o.dst with
  |some d=>d::yP r
  |none=>yP r
def lV(M:List Nat)(a b:Act):Prop:=∀t,t∉M->b.tmps.getD t undef=a.tmps.getD t undef
def lV.az(M:List Nat)(a:Act):lV M a a:=λ_ _=>rfl
def lV.trans{M:List Nat}{a b c:Act}(h:lV M a b)(k:lV M b c):lV M a c:=λt d=>(k t d).trans (h t d)
def lV.put{M:List Nat}{d:Option Nat}(hd:∀t,d=some t->t∈M)(v:Value)(a:Act):lV M a (a.put d v):=by
 cases d with
 |none=>exact lV.az M a
 |some d=>
  intro t c;have b:d≠t:=λe=>c (e▸hd d rfl);simp[Act.put,jg b]
def JH{d:Nat}(hd:o.dst=some d):∀(a:List Oper),o∈a->d∈yP a:=by
 intro a;induction a with
 |nil=>intro h;cases h
 |cons x r c=>
  intro h;rcases List.mem_cons.1 h with b|b
  ·subst b;simp only[yP,hd];exact aX
  ·have:=c b;unfold yP;cases x.dst with
   |none=>exact this
   |some e=>exact ai _ this
def CM{d:Option Nat}(h:rp n d=true):∀t,d=some t->t<n:=by
 rintro t rfl;have:Nat.blt t n=true:=h;simpa[Nat.blt,Nat.succ_le_iff]using this
def He(k:Array Oper){d:Fr}(f:jz n d a)(e:Bx n d m)(o:Oper){Nt z:Fr->Prop}(h:gd k.toList d o.guard Nt z):
 (Region.wanted o (yielded k a.tmps)=true/\∃b,Nt b/\jz n b a/\Bx n b m)\/
 (Region.wanted o (yielded k a.tmps)=false/\∃b,z b/\jz n b a/\Bx n b m):=by
 unfold gd at h
 cases b:o.guard with
 |none=>
  rw[b]at h
  exact Or.inl ⟨by simp[Region.wanted,b],d,h,f,e⟩
 |some C=>
  obtain⟨r,v⟩:=C
  rw[b]at h
  simp only at h
  split at h
  ·exact h.elim
  ·rename_i g hd
   have y:(k[r]?).bind (·.dst)=some g:=by
    unfold Jx at hd;rw[oY]at hd;have B:k.toList[r]? =k[r]? :=aJ;rw[B]at hd;split at hd
    ·rename_i i c;rw[c];exact hd
    ·simp at hd
   have i:=f.D g
   have w:∀j:Bool,a.tmps.getD g undef=.bool j->yielded k a.tmps r=some j:=by
    intro j l;have:a.tmps[g]? =some (.bool j):=by
     cases q:a.tmps[g]? with
     |none=>rw[yA,q]at l;simp[undef]at l
     |some t=>rw[yA,q]at l;simp at l;rw[l]
    simp[yielded,y,this]
   split at h
   ·rename_i p
    rw[p]at i
    have c:=w true i
    cases v
    ·exact Or.inr ⟨by simp[Region.wanted,b,c],d,h,f,e⟩
    ·exact Or.inl ⟨by simp[Region.wanted,b,c],d,h,f,e⟩
   ·rename_i p
    rw[p]at i
    have c:=w false i
    cases v
    ·exact Or.inl ⟨by simp[Region.wanted,b,c],d,h,f,e⟩
    ·exact Or.inr ⟨by simp[Region.wanted,b,c],d,h,f,e⟩
   ·rename_i p
    rw[p]at i
    have c:yielded k a.tmps r=none:=by
     have s:a.tmps.getD g undef=undef:=i;rw[yA]at s;unfold yielded;rw[y];cases q:a.tmps[g]? with
     |none=>simp[q]
     |some t=>rw[q]at s;simp at s;subst s;simp[q,undef]
    exact Or.inr ⟨by simp[Region.wanted,b,c],d,h,f,e⟩
   ·rename_i x p
    rw[p]at i
    have c:=w x i
    have u:∀j:Bool,x=j->jz n ((g,if j then SV.tt else SV.ff)::d) a:=by
     rintro j rfl;refine⟨f.size,f.defers,λA=>?_⟩;simp only[gJ];cases l:Nat.beq g A
     ·exact f.D A
     ·have:=bo l;subst this;cases x<;>exact i
    obtain⟨s,t⟩:=h
    cases x
    ·have t:=t rfl
     cases v
     ·exact Or.inl ⟨by simp[Region.wanted,b,c],_,t,u false rfl,e.fI aJ⟩
     ·exact Or.inr ⟨by simp[Region.wanted,b,c],_,t,u false rfl,e.fI aJ⟩
    ·have s:=s rfl
     cases v
     ·exact Or.inr ⟨by simp[Region.wanted,b,c],_,s,u true rfl,e.fI aJ⟩
     ·exact Or.inl ⟨by simp[Region.wanted,b,c],_,s,u true rfl,e.fI aJ⟩
   ·exact h.elim
def WK(g:tp b T){c:Fr}(f:jz n c a)(e:Bx n c m){k:SV->Prop}(h:rd T c m k o.op){w:World}(p:w.heap=m)
 {d:Act->World->Prop}{Q:Exit->Act->World->Prop}(j:∀x v,k x->x.Is v->d (a.put o.dst v) w):o.wp b a w d Q:=by
 obtain⟨x,v,i,q,l⟩:=JO (P:=b) g f e o h
 unfold Oper.wp
 rw[l w (λr _=>by rw[p])]
 exact j x v i q
def ud(l:tp b T)(s:SK b G)(c:Array Oper){Q:Exit->Act->World->Prop}{K:World}{F:Act}:
 ∀(mo:List Oper)(d:Fr)(m:J)(k:Fr->J->Prop)(a:Act)(w:World),(∀o∈mo,o∈c.toList)->rD b T G n c.toList mo d m k->jz n d a->Bx n d m->w.heap=m->oL K w->
  lV (yP c.toList) F a->
  (∀g e f,k g f.heap->jz n g e->Bx n g f.heap->oL K f->lV (yP c.toList) F e->Q .normal e f)->wpList b c Q mo a w
 |[],d,m,k,a,w,_,h,y,v,e,r,p,q=>by
  subst e;exact q d a w h y v r p
 |o::mo,d,m,k,a,w,H,h,y,v,e,r,p,q=>by
  simp only[rD]at h;cases hd:rp n o.dst
  ·rw[hd]at h;exact h.elim
  ·rw[hd]at h;simp only[iX]at h;have z:=CM hd;have A:∀u,o.dst=some u->u∈yP c.toList:=λu N=>JH N _ (H o aX);have B:=λS P=>H S (ai _ P);unfold wpList;rcases He c y v o h with⟨D,g,t,j,i⟩|⟨D,g,O,j,i⟩
   ·rw[an D];refine .inl ?_;cases I:JA o.op
    ·simp only[I,me]at t;refine WK l j i t e λV U E C=>?_;exact ud l s c mo _ m k _ w B E (j.put C z) (i.put _ _) e r (p.trans (lV.put A _ _)) q
    ·simp only[I,iX]at t;refine OS l s j i o t w e _ _ λW V U f E M L C R=>?_;exact ud l s c mo _ _ k _ f B E (M.put C z) (L.put _ _) rfl (r.trans R) (p.trans (lV.put A _ _)) q
   ·rw[ae (by rw[D];simp)];exact ud l s c mo _ m k _ w B O (j.put (x:=.un) rfl z) (i.put _ _) e r (p.trans (lV.put A _ _)) q
end Go.Vc
end
section
namespace Go.Vc
variable{P:Program}{T:TT}{G:List Nat}{n:Nat}
def tw:List Nat->Nat->Nat
 |[],_=>0
 |x::_,0=>x
 |_::r,n+1=>tw r n
def kO:List Edge->Nat
 |[]=>0
 |e::r=>bif Region.binds .any e then 2^e.on|||kO r else kO r
def nH(a:List Nat):List Edge->Nat
 |[]=>0
 |e::r=>bif Region.binds .any e then(2^e.on|||tw a e.on)|||nH a r else nH a r
def kE(a:List Nat):List Oper->List Nat->List Nat->Bool
 |[],[],[]=>true
 |o::d,p::e,b::c=>Nat.beq p (kO o.after.toList)&&Nat.beq b (nH a o.after.toList)&&kE a d e c
 |_,_,_=>false
def Qp:Op->List Operand
 | .alloc _| .ready _| .waits _=>[]
 | .move x| .assign x| .box _ x| .load _ x| .nilCheck x| .unOp _ _ x| .convert _ _ x| .sliceToArrayPointer _ x| .makeInterface _ x
 | .makeChan _ x| .fieldAddr _ x _| .field _ x _| .range _ x| .next x _| .entry x| .typeAssert x _ _ _| .extract x _| .panic x| .recv _ x _=>[x]
 | .pick c a b=>[c,a,b]
 | .build _ b| .buildSlice _ _ b=>b.toList.map (·.2)
 | .store _ a v| .binOp _ _ a v _| .makeSlice _ a v| .indexAddr _ a v| .index _ a v| .lookup _ a v _| .mapEntry _ a v| .send a v=>[a,v]
 | .makeFunc _ first a=>first.toList++a.toList
 | .makeMap _ r=>r.toList
 | .slice _ x l h m=>[x]++l.toList++h.toList++m.toList
 | .mapUpdate _ m k v| .entryStore _ m k v| .insert _ m k v=>[m,k,v]
 | .call ⟨.value f,a,_⟩| .go ⟨.value f,a,_⟩| .defer ⟨.value f,a,_⟩=>f::a.toList
 | .call ⟨.invoke f _,a,_⟩| .go ⟨.invoke f _,a,_⟩| .defer ⟨.invoke f _,a,_⟩=>f::a.toList
 | .call ⟨.builtin _,a,_⟩| .go ⟨.builtin _,a,_⟩| .defer ⟨.builtin _,a,_⟩=>a.toList
 | .select a _=>(a.flatMap λc=>#[c.chan]++c.send.toArray).toList
def R8(a:Op):a.operands.toList=Qp a:=by
 cases a<;>try (simp[Op.operands,Qp];done)
 all_goals
  rename_i c
  obtain⟨b,d,e⟩:=c
  cases b<;>simp[Op.operands,Qp,Call.operands]
def HH(d:Nat):List Operand->Bool
 |[]=>false
 | .tmp t::r=>Nat.beq t d||HH d r
 |_::r=>HH d r
def MF(a:List Oper)(o:Oper)(d:Nat):Bool:=
 HH d (Qp o.op)||(match o.guard with
  |some (g,_)=>(match Jx a g with|some t=>Nat.beq t d|none=>false)
  |none=>false)
def Mi(a:List Oper)(x y:Oper):Bool:=
 (match x.dst with
  |some d=>!MF a y d&&(match y.dst with|some e=>!Nat.beq d e|none=>true)
  |none=>true)&&
 (match y.dst with
  |some d=>!MF a x d
  |none=>true)
def VA:Op->Bool
 | .select ..=>true
 |_=>false
def yK(b:List Oper)(i:Nat)(a:Nat)(o:Oper):Nat->List Oper->List Nat->Bool
 |_,[],_=>true
 |_,_,[]=>true
 |j,x::c,p::d=>(Nat.beq j i||Nat.testBit p i||Nat.testBit a j||Mi b o x)&&yK b i a o (j+1) c d
def Eb(a:List Oper)(b:List Nat):Nat->List Oper->List Nat->Bool
 |_,[],_=>true
 |_,_,[]=>true
 |i,o::e,c::d=>!VA o.op&&(JA o.op||yK a i c o 0 a b)&&Eb a b (i+1) e d
def jS(done p i:Nat):Bool:=!(Nat.testBit done i)&&Nat.beq (p&&&done) p
def wh(done:Nat):Nat->List Oper->List Nat->Option Nat
 |_,[],_=>none
 |_,_,[]=>none
 |i,o::a,p::b=>bif jS done p i&&!(JA o.op)then some i else wh done (i+1) a b
def pb(done:Nat):Nat->List Oper->List Nat->List Nat
 |_,[],_=>[]
 |_,_,[]=>[]
 |i,_::a,p::b=>bif jS done p i then i::pb done (i+1) a b else pb done (i+1) a b
def JW(m a:J):List (Nat×Nat)->Prop->Prop
 |[],k=>k
 |(b,o)::r,k=>af a b o=af m b o/\JW m a r k
def CA(a:Nat)(m b:J):List (Nat×List (Nat×Nat))->Prop->Prop
 |[],k=>k
 |(r,c)::L,k=>bif Nat.testBit a r then CA a m b L k else JW m b c (CA a m b L k)
def Mh:List Nat->(Nat->Prop)->Prop
 |[],_=>True
 |[i],f=>f i
 |i::r,f=>f i/\Mh r f
def nY(P:Program)(T:TT)(G:List Nat)(n:Nat)(b:List Oper)(c d:List Nat):Nat->Nat->Fr->J->List (Nat×List (Nat×Nat))->(Fr->J->Prop)->Prop
 |0,done,a,m,_,k=>match pb done 0 b c with
  |[]=>k a m
  |_=>False
 |e+1,done,a,m,L,k=>
  match wh done 0 b c with
  |some i=>match Gb b i with
   |some o=>bif rp n o.dst then
    gd b a o.guard
     (λa=>rd T a m (λx=>nY P T G n b c d e (done|||2^i) (tr a o.dst x) m ((i,Q4 T a o.op)::L) k) o.op)
     (λa=>nY P T G n b c d e (done|||2^i) (tr a o.dst .un) m L k)
    else False
   |none=>False
  |none=>match pb done 0 b c with
   |[]=>k a m
   |h=>Mh h λi=>match Gb b i with
    |some o=>bif rp n o.dst then
     gd b a o.guard
      (λa=>wr P T G n a m o.dst o.type (λg x f=>CA (tw d i) m f L (nY P T G n b c d e (done|||2^i) (tr g o.dst x) f L k)) o.op)
      (λa=>nY P T G n b c d e (done|||2^i) (tr a o.dst .un) m L k)
     else False
    |none=>False
def mU(r:Nat):∀(a:List Edge),Nat.testBit (kO a) r=true<->∃e∈a,Region.binds .any e=true/\e.on=r
 |[]=>by simp[kO]
 |e::a=>by
  have c:=mU r a;simp only[kO];cases b:Region.binds .any e
  ·simp only[me,c,aU,Z0,b];simp
  ·simp only[iX,Sx,bT,c,aU,Z0,b,true_and,Ld,au]
def xD(b:List Nat)(r:Nat):∀(a:List Edge),Nat.testBit (nH b a) r=true->∃e∈a,Region.binds .any e=true/\(e.on=r\/Nat.testBit (tw b e.on) r=true)
 |[],h=>by simp[nH]at h
 |e::a,h=>by
  have i:=xD b r a;simp only[nH]at h;cases f:Region.binds .any e
  ·simp only[f,me]at h;obtain⟨c,g,d⟩:=i h;exact⟨c,ai _ g,d⟩
  ·simp only[f,iX,Sx,bT,Ld,au]at h;rcases h with h|h
   ·exact⟨e,aX,f,h⟩
   ·obtain⟨c,g,d⟩:=i h;exact⟨c,ai _ g,d⟩
def lz(c:List Nat):∀{e:List Oper}{f a:List Nat},kE c e f a=true->∀(i:Nat)(o:Oper),e[i]? =some o->
 f[i]? =some (kO o.after.toList)/\tw a i=nH c o.after.toList/\∃b,a[i]? =some b
 |[],[],[],_,i,o,h=>by simp at h
 |x::e,p::f,b::a,h,i,o,d=>by
  simp only[kE,bK]at h;obtain⟨⟨g,j⟩,k⟩:=h;cases i with
  |zero=>
   simp at d;subst d;exact⟨by simp[bo g],by simp[tw,bo j],b,aJ⟩
  |succ i=>
   have:=lz c k i o (by simpa using d);simpa[tw]using this
 |[],[],_::_,h,_,_,_=>by simp[kE]at h
 |[],_::_,_,h,_,_,_=>by simp[kE]at h
 |_::_,[],_,h,_,_,_=>by simp[kE]at h
 |_::_,_::_,[],h,_,_,_=>by simp[kE]at h
def Hw(d:List Nat):∀{a:List Oper}{c b:List Nat},kE d a c b=true->c.length=a.length/\b.length=a.length
 |[],[],[],_=>⟨rfl,rfl⟩
 |x::a,p::c,e::b,h=>by
  simp only[kE,bK]at h;have:=Hw d h.2;simp[this.1,this.2]
 |[],[],_::_,h=>by simp[kE]at h
 |[],_::_,_,h=>by simp[kE]at h
 |_::_,[],_,h=>by simp[kE]at h
 |_::_,_::_,[],h=>by simp[kE]at h
end Go.Vc
end
section
namespace Go.Vc
variable{N a:Nat}{b:Array Bool}
variable{P:Program}{T:TT}{G:List Nat}{n:Nat}
def sZ{d:Nat}:∀{a:List Operand},HH d a=false->d∉(a.filterMap λ| .tmp t=>some t|_=>none)
 |[],_=>aJ
 |x::r,h=>by
  cases x with
  |tmp t=>
   simp only[HH,bq]at h;have b:=sZ h.2;have:t≠d:=λe=>by subst e;simp at h
   simp only[List.filterMap_cons,aU,tn];exact⟨λe=>this e.symm,b⟩
  |const v=>simpa using sZ (a:=r) (by simpa[HH]using h)
  |global g=>simpa using sZ (a:=r) (by simpa[HH]using h)
  |func f=>simpa using sZ (a:=r) (by simpa[HH]using h)
def RO(a:Array Oper)(g:Nat):Jx a.toList g=(a[g]?).bind (·.dst):=by
 unfold Jx;rw[oY];have e:a.toList[g]? =a[g]? :=aJ;rw[e];cases a[g]? <;>rfl
def Hu(b:Array Oper){o:Oper}{d:Nat}(h:MF b.toList o d=false):d∉o.looksAt b:=by
 simp only[MF,bq]at h;unfold Oper.looksAt;rw[R8,Z6,tn];refine⟨sZ h.1,?_⟩;have a:=h.2;cases c:o.guard with
 |none=>simp
 |some p=>
  obtain⟨g,f⟩:=p;rw[c]at a;simp only at a⊢;rw[RO]at a;cases hd:(b[g]?).bind (·.dst)with
  |none=>simp
  |some t=>
   rw[hd]at a;simp only at a;simp only[Option.toList_some,nk];intro e;subst e;simp at a
def NJ(b:Array Oper){x y:Oper}(h:Mi b.toList x y=true):x.apart b y=true:=by
 simp only[Mi,bK]at h;obtain⟨a,d⟩:=h;unfold Oper.apart;simp only[bK];constructor
 ·cases i:x.dst with
  |none=>rfl
  |some f=>
   rw[i]at a;simp only[bK,ib]at a⊢;refine⟨?_,?_⟩
   ·have:=Hu b a.1;simpa using this
   ·have c:=a.2;cases e:y.dst with
    |none=>simp
    |some j=>
     rw[e]at c;simp only[ib]at c;simp only[uO,ne_eq,CG];intro g;subst g;simp at c
 ·cases e:y.dst with
  |none=>rfl
  |some f=>
   rw[e]at d;simp only[ib]at d⊢;have:=Hu b d;simpa using this
def Cj(i:List Oper)(a d:Nat)(o:Oper):∀{g:List Oper}{k:List Nat}{c:Nat},yK i a d o c g k=true->∀(j:Nat)(x:Oper)(p:Nat),g[j]? =some x->k[j]? =some p->
 c+j=a\/Nat.testBit p a=true\/Nat.testBit d (c+j)=true\/Mi i o x=true
 |[],_,_,_,j,x,p,h,_=>by simp at h
 |_::_,[],_,_,j,x,p,_,h=>by simp at h
 |y::g,q::k,c,h,j,x,p,f,e=>by
  simp only[yK,bK,bT]at h;obtain⟨b,m⟩:=h;cases j with
  |zero=>
   simp at f e;subst f;subst e;rcases b with((b|b)|b)|b
   ·exact Or.inl (by simpa using bo b)
   ·exact Or.inr (Or.inl b)
   ·exact Or.inr (Or.inr (Or.inl (by simpa using b)))
   ·exact Or.inr (Or.inr (Or.inr b))
  |succ j=>
   have:=Cj i a d o m j x p (by simpa using f) (by simpa using e);have l:c+1+j=c+(j+1):=V;rw[l]at this;exact this
def wa(d:List Oper)(j:List Nat):∀{i:List Oper}{e:List Nat}{c:Nat},Eb d j c i e=true->∀(a:Nat)(o:Oper)(b:Nat),i[a]? =some o->e[a]? =some b->
 VA o.op=false/\(JA o.op=true\/yK d (c+a) b o 0 d j=true)
 |[],_,_,_,a,o,b,h,_=>by simp at h
 |_::_,[],_,_,a,o,b,_,h=>by simp at h
 |y::i,q::e,c,h,a,o,b,g,f=>by
  simp only[Eb,bK,bT,ib]at h;obtain⟨⟨l,m⟩,n⟩:=h;cases a with
  |zero=>simp at g f;subst g;subst f;exact⟨l,by simpa using m⟩
  |succ a=>
   have:=wa d j n a o b (by simpa using g) (by simpa using f);have k:c+1+a=c+(a+1):=V;rw[k]at this;exact this
def Ht(p d:Nat):Nat.beq (p&&&d) p=true<->∀r,Nat.testBit p r=true->Nat.testBit d r=true:=by
 constructor
 ·intro h r a;have e:=bo h;rw[<-e,Z7]at a;simp only[bK]at a;exact a.2
 ·intro h;have:p&&&d=p:=by
   apply Nat.eq_of_testBit_eq;intro r;rw[Z7];cases a:Nat.testBit p r
   ·rfl
   ·simp[h r a]
  rw[this];simp
structure Mc(N done:Nat)(b:Array Bool):Prop where
 size:b.size=N
 Wd:∀a,b.getD a false=Nat.testBit done a
def Mc.un{done:Nat}(h:Mc N done b)(c:a<N):b.getD a true=Nat.testBit done a:=by
 rw[<-h.Wd a];have:a<b.size:=by rw[h.size];exact c
 simp[this]
def Mc.set{done:Nat}(h:Mc N done b)(c:a<N):Mc N (done|||2^a) (b.setIfInBounds a true):=by
 refine⟨by simp[h.size],λj=>?_⟩;have d:a<b.size:=by rw[h.size];exact c
 rw[Sx,Ld];by_cases e:a=j
 ·subst e;simp[d]
 ·rw[getD_set_ne false e,h.Wd j];simp[e]
def Gi(d:Array Oper){q h r:List Nat}(n:kE h d.toList q r=true){done:Nat}(g:Mc d.size done b)(a:Nat):
 a∈Region.ready .any d b<->∃o p,d[a]? =some o/\q[a]? =some p/\jS done p a=true:=by
 rw[mem_ready]
 constructor
 ·rintro⟨m,o,c,s⟩
  have k:a<d.size:=(Array.getElem?_eq_some_iff.1 c).1
  have l:=(lz h n a o (by simpa using c)).1
  refine⟨o,_,c,l,?_⟩
  simp only[jS,bK,ib]
  refine⟨by rw[<-g.un k];exact m,(Ht _ _).2 λt e=>?_⟩
  obtain⟨f,j,i,rfl⟩:=(mU t _).1 e
  rw[<-g.Wd]
  exact s f (Array.mem_toList_iff.1 j) i
 ·rintro⟨o,p,c,l,e⟩
  have k:a<d.size:=(Array.getElem?_eq_some_iff.1 c).1
  have m:=(lz h n a o (by simpa using c)).1
  rw[l]at m
  simp only[CG]at m
  subst m
  simp only[jS,bK,ib]at e
  refine⟨by rw[g.un k];exact e.1,o,c,λf j i=>?_⟩
  rw[g.Wd]
  exact(Ht _ _).1 e.2 f.on ((mU _ _).2 ⟨f,Array.mem_toList_iff.2 j,i,rfl⟩)
def JI(done:Nat):∀{d:List Oper}{e:List Nat}{b a:Nat},a∈pb done b d e<->∃j o p,a=b+j/\d[j]? =some o/\e[j]? =some p/\jS done p a=true
 |[],_,_,_=>by simp[pb]
 |_::_,[],_,_=>by simp[pb]
 |x::d,q::e,b,a=>by
  have h:=JI done (d:=d) (e:=e) (b:=b+1) (a:=a);have k:(∃j o p,a=b+j/\(x::d)[j]? =some o/\(q::e)[j]? =some p/\jS done p a=true)<->
   ((a=b/\jS done q b=true)\/∃j o p,a=b+1+j/\d[j]? =some o/\e[j]? =some p/\jS done p a=true):=by
   constructor
   ·rintro⟨j,o,p,rfl,g,f,c⟩
    cases j with
    |zero=>simp at f;subst f;exact Or.inl ⟨rfl,by simpa using c⟩
    |succ j=>exact Or.inr ⟨j,o,p,V,by simpa using g,by simpa using f,by rwa[show b+(j+1)=b+(j+1)from rfl]at c⟩
   ·rintro(⟨rfl,c⟩|⟨j,o,p,rfl,g,f,c⟩)
    ·exact⟨0,x,q,rfl,aJ,aJ,c⟩
    ·exact⟨j+1,o,p,V,by simpa using g,by simpa using f,c⟩
  rw[k,<-h];simp only[pb];cases c:jS done q b
  ·simp
  ·simp
def Hk(done:Nat):∀{d:List Oper}{e:List Nat}{c a:Nat},wh done c d e=some a->∃j o p,a=c+j/\d[j]? =some o/\e[j]? =some p/\jS done p a=true/\JA o.op=false
 |[],_,_,_,h=>by simp[wh]at h
 |_::_,[],_,_,h=>by simp[wh]at h
 |x::d,q::e,c,a,h=>by
  simp only[wh]at h;cases b:(jS done q c&&!(JA x.op))
  ·rw[b]at h;obtain⟨j,o,p,rfl,f,g,i,k⟩:=Hk done h;exact⟨j+1,o,p,V,by simpa using f,by simpa using g,i,k⟩
  ·rw[b]at h;simp at h;subst h;simp only[bK,ib]at b;exact⟨0,x,q,rfl,aJ,aJ,b.1,b.2⟩
def Li:∀{l:List Nat}{f:Nat->Prop},Mh l f->∀a∈l,f a
 |[a],f,h,j,b=>by simp at b;subst b;exact h
 |a::c::r,f,h,j,b=>by
  rcases List.mem_cons.1 b with rfl|b
  ·exact h.1
  ·exact Li h.2 j b
def JX{m b:J}:∀{l:List (Nat×Nat)}{k:Prop},JW m b l k->k/\∀q∈l,af b q.1 q.2=af m q.1 q.2
 |[],k,h=>⟨h,aJ⟩
 |(e,o)::r,k,h=>by
  obtain⟨c,d⟩:=JX h.2;refine⟨c,λq a=>?_⟩;rcases List.mem_cons.1 a with rfl|a
  ·exact h.1
  ·exact d q a
def DO{c:Nat}{m g:J}:∀{L:List (Nat×List (Nat×Nat))}{k:Prop},CA c m g L k->k/\∀x∈L,Nat.testBit c x.1=false->∀q∈x.2,af g q.1 q.2=af m q.1 q.2
 |[],k,h=>⟨h,aJ⟩
 |(r,l)::L,k,h=>by
  simp only[CA]at h;cases f:Nat.testBit c r
  ·rw[f]at h;obtain⟨i,j⟩:=JX h;obtain⟨d,e⟩:=DO i;refine⟨d,λx a b=>?_⟩;rcases List.mem_cons.1 a with rfl|a
   ·exact j
   ·exact e x a b
  ·rw[f]at h;obtain⟨d,e⟩:=DO h;refine⟨d,λx a b=>?_⟩;rcases List.mem_cons.1 a with rfl|a
   ·rw[f]at b;cases b
   ·exact e x a b
def XY(L:List (Nat×List (Nat×Nat)))(b:List (Nat×(World->Prop))):Prop:=
 ∀x∈b,(∀w,x.2 w)\/∃(a:List (Nat×Nat))(c:Nat×Nat->Option Value),(x.1,a)∈L/\x.2=λw=>∀q∈a,af w.heap q.1 q.2=c q
end Go.Vc
end
section
namespace Go.Vc
variable{a:Program}{T:TT}{G:List Nat}{n:Nat}
def Nj(hT:tp a T)(hG:SK a G)(b:Array Oper)(U f:List Nat)(z:kE f b.toList U f=true)(ao:Eb b.toList U 0 b.toList f=true)
 {ag:Exit->Act->World->Prop}(hQ:∀N g w,¬ag (.panic N) g w){w0:World}{a0:Act}:
 ∀(E done:Nat)(D:Fr)(ac:J)(L:List (Nat×List (Nat×Nat)))(B:Fr->J->Prop)(M:List (Nat×(World->Prop)))(c:Array Bool)(g:Act)(w:World),
  nY a T G n b.toList U f E done D ac L B->XY L M->Mc b.size done c->Fy (λi K=>Nat.testBit (tw f i) K) c->jz n D g->Bx n D ac->w.heap=ac->oL w0 w->
  lV (yP b.toList) a0 g->
  (∀s d k,B s k.heap->jz n s d->Bx n s k.heap->oL w0 k->lV (yP b.toList) a0 d->ag .normal d k)->
  uK a .any b ag (λi K=>Nat.testBit (tw f i) K) M E c g w:=by
 have F:SG .any b (λi K=>Nat.testBit (tw f i) K):=by
  intro i K o d p;have X:=(lz f z i o (by simpa using d)).2.1;simp only[X]at p;obtain⟨e,he,hb,h⟩:=xD f K _ p;exact⟨e,Array.mem_toList_iff.1 he,hb,h⟩
 have aF:=Hw f z
 have av:∀(j:Nat)(o:Oper) cs r,b[j]? =some o->o.op≠.select cs r:=by
  intro j o cs r d e;obtain⟨_,_,bj,ay⟩:=lz f z j o (by simpa using d);have:=(wa _ _ ao j o bj (by simpa using d) ay).1;rw[e]at this;simp[VA]at this
 have al:∀{done:Nat}{c:Array Bool},Mc b.size done c->∀i,i∈Region.ready .any b c<->i∈pb done 0 b.toList U:=by
  intro done c hD i;rw[Gi b z hD i,JI];constructor
  ·rintro⟨o,R,d,O,p⟩;exact⟨i,o,R,V,by simpa using d,O,p⟩
  ·rintro⟨j,o,R,e,d,O,p⟩;have:i=j:=V;subst this;exact⟨o,R,by simpa using d,O,p⟩
 have au:∀{done:Nat}{c:Array Bool},Mc b.size done c->pb done 0 b.toList U=[]->Region.ready .any b c=[]:=by
  intro done c hD h;apply List.eq_nil_iff_forall_not_mem.2;intro i m;rw[al hD i,h]at m;cases m
 intro E
 induction E with
 |zero=>
  intro done D ac L B M c g w h hL hD hC hR hB hw hs hk hq
  subst hw
  simp only[nY]at h
  split at h
  ·rename_i h0
   exact⟨au hD h0,hq D g w h hR hB hs hk⟩
  ·exact h.elim
 |succ E Q=>
  intro done D ac L B M c g w h hL hD hC hR hB hw hs hk hq
  subst hw
  simp only[nY]at h
  split at h
  · -- a reading is taken first
   rename_i i m
   obtain⟨j,o,R,e,d,O,p,aD⟩:=Hk done m
   have:i=j:=V
   subst this
   rw[oY,d]at h
   simp only at h
   have A:b[i]? =some o:=by simpa using d
   have aa:i<b.size:=(Array.getElem?_eq_some_iff.1 A).1
   have ab:i∈Region.ready .any b c:=(Gi b z hD i).2 ⟨o,R,A,O,p⟩
   cases hd:rp n o.dst
   ·rw[hd]at h;exact h.elim
   ·rw[hd]at h
    simp only[iX]at h
    have Y:=CM hd
    have Z:∀C,o.dst=some C->C∈yP b.toList:=λC ah=>JH ah _ (fL d)
    have aq:∀j H,b[j]? =some H->j≠i->c.getD j true=false->(∀e∈H.after,Region.binds .any e=true->e.on≠i)->o.apart b H=true:=by
     intro j H ak aA ar aB;have az:j<b.size:=(Array.getElem?_eq_some_iff.1 ak).1;obtain⟨_,aE,bi,ap⟩:=lz f z i o d;rcases(wa _ _ ao i o bi d ap).2 with t|t
     ·rw[aD]at t;cases t
     ·have W:=(lz f z j H (by simpa using ak)).1;have u:tw f i=bi:=by
       have:∀(l:List Nat)(i r:Nat),l[i]? =some r->tw l i=r:=by
        intro l;induction l with
        |nil=>intro i r h;simp at h
        |cons ad l Q=>intro i r h;cases i with
         |zero=>simpa[tw]using h
         |succ i=>simpa[tw]using Q i r (by simpa using h)
       exact this f i bi ap
      rcases Cj _ _ _ _ t j H _ (by simpa using ak) W with e|e|e|e
      ·exact absurd V aA
      ·rw[cO]at e;obtain⟨q,y,hb,I⟩:=(mU i _).1 e;exact absurd I (aB q (Array.mem_toList_iff.1 y) hb)
      ·rw[cO,<-u]at e;have:=wB F hC ab e;rw[hD.Wd]at this;rw[hD.un az,this]at ar;cases ar
      ·exact NJ b e
    rcases He b hR hB o h with⟨I,s,am,y,u⟩|⟨I,s,aj,y,u⟩
    ·obtain⟨ad,aw,hx,hv,aC⟩:=JO (P:=a) hT y u o am
     let ax:World->Prop:=λk=>∀q∈Q4 T s o.op,af k.heap q.1 q.2=af w.heap q.1 q.2
     refine Fv (S:=ax) F A av (λN g w hc=>absurd hc (hQ _ _ _)) E c g w hC aq ab (F:=aw) (Or.inl ⟨I,λk l=>aC k l⟩) (λq _=>rfl) ?_
     refine Q _ _ _ _ B _ _ _ w hx ?_ (hD.set aa) (hC.set F ab) (y.put hv Y) (u.put _ _) rfl hs (hk.trans (lV.put Z _ _)) hq
     intro W l
     rcases List.mem_cons.1 l with rfl|l
     ·exact Or.inr ⟨_,λq=>af w.heap q.1 q.2,aX,rfl⟩
     ·rcases hL W l with t|⟨As,N,X,h2⟩
      ·exact Or.inl t
      ·exact Or.inr ⟨As,N,ai _ X,h2⟩
    ·refine Fv (S:=λ_=>True) F A av (λN g w hc=>absurd hc (hQ _ _ _)) E c g w hC aq ab (F:=undef) (Or.inr ⟨I,rfl⟩) trivial ?_
     refine Q _ _ _ _ B _ _ _ w aj ?_ (hD.set aa) (hC.set F ab) (y.put (x:=.un) rfl Y) (u.put _ _) rfl hs (hk.trans (lV.put Z _ _)) hq
     intro W l
     rcases List.mem_cons.1 l with rfl|l
     ·exact Or.inl λ_=>trivial
     ·exact hL W l
  ·split at h
   ·rename_i h0
    exact OQ (au hD h0) (hq D g w h hR hB hs hk) _
   ·rename_i rs ax
    have ar:=Li h
    refine PO ?_ ?_
    ·intro e
     apply ax
     cases H:pb done 0 b.toList U with
     |nil=>rfl
     |cons ad xs=>
      have:ad∈Region.ready .any b c:=(al hD ad).2 (by rw[H];exact aX)
      rw[e]at this
      cases this
    ·intro i m
     have H:=ar i ((al hD i).1 m)
     obtain⟨o,R,A,O,p⟩:=(Gi b z hD i).1 m
     have d:b.toList[i]? =some o:=by simpa using A
     have aa:i<b.size:=(Array.getElem?_eq_some_iff.1 A).1
     rw[oY,d]at H
     simp only at H
     cases hd:rp n o.dst
     ·rw[hd]at H;exact H.elim
     ·rw[hd]at H
      simp only[iX]at H
      have Y:=CM hd
      have Z:∀C,o.dst=some C->C∈yP b.toList:=λC ah=>JH ah _ (fL d)
      unfold wpOp
      simp only[A]
      rcases He b hR hB o H with⟨I,s,am,y,u⟩|⟨I,s,aj,y,u⟩
      ·rw[an I]
       refine .inl (OS hT hG y u o am w rfl _ _ λaD ad aw k hx aq ap hv az=>?_)
       obtain⟨aA,aB⟩:=DO hx
       refine⟨λW l aC ab=>?_,Q _ _ _ L B M _ _ k aA hL (hD.set aa) (hC.set F m) (aq.put hv Y) (ap.put _ _) rfl (hs.trans az) (hk.trans (lV.put Z _ _)) hq⟩
       rcases hL W l with t|⟨As,N,X,h2⟩
       ·exact t k
       ·rw[h2]at ab⊢
        intro q ak
        rw[aB _ X aC q ak,ab q ak]
      ·rw[ae (by rw[I];simp)]
       exact⟨λW l _ ab=>ab,Q _ _ _ L B M _ _ w aj hL (hD.set aa) (hC.set F m) (y.put (x:=.un) rfl Y) (u.put _ _) rfl hs (hk.trans (lV.put Z _ _)) hq⟩
end Go.Vc
end
section
namespace Go.Vc
variable{M:List Nat}{a:Act}{s:Sh}{y:s.ty}
variable{P:Program}{T:TT}{G:List Nat}{b:Nat}
structure No where
 RT:List (Nat×List (Nat×Sh))
 Tf:List (Nat×List (Nat×Sh))
 dO:List (Nat×List Nat)
def lk{α:Type}:List (Nat×α)->Nat->Option α
 |[],_=>none
 |(u,x)::r,t=>bif Nat.beq u t then some x else lk r t
def Cn:Code->Option Nat
 | .region id _ _=>some id
 | .seq a b=>match Cn a with
  |some i=>some i
  |none=>Cn b
 | .cond _ a b=>match Cn a with
  |some i=>some i
  |none=>Cn b
 | .block _ c=>Cn c
 | .loop c=>Cn c
 | .scope c=>Cn c
 |_=>none
def Ui{α:Type}(l:List (Nat×α))(c:Code):Option α:=
 match Cn c with
 |some i=>lk l i
 |none=>none
def FD:List (Nat×Sh)->Type
 |[]=>J->Prop
 |(_,s)::r=>s.ty->FD r
def Mf:List (Nat×Sh)->Type
 |[]=>J->Nat
 |(_,s)::r=>s.ty->Mf r
def Pm:(s:Sh)->SV->Option s.ty
 | .I,.c (.i b)=>some b
 | .U k,.c (.u c b)=>if k=c then some b else none
 | .T,.c (.t c)=>some c
 | .T,.tt=>some true
 | .T,.ff=>some false
 | .S,.c (.s x)=>some x
 | .P,.c (.p c o)=>some (c,o)
 | .P,.c (.bp _ c o)=>some (c,o)
 | .F,.c (.fn f a d)=>some (f,a,d)
 | .F,.c (.fv q)=>some q
 | .M,.c (.mp c)=>some c
 |_,_=>none
def FF:(l:List (Nat×Sh))->FD l->Fr->J->Prop
 |[],I,_,m=>I m
 |(t,s)::r,I,a,m=>match Pm s (gJ a t)with
  |some x=>FF r (I x) a m
  |none=>False
def Mj:(l:List (Nat×Sh))->FD l->Mf l->Fr->J->Nat->Prop
 |[],I,μ,_,m,N=>I m/\μ m<N
 |(t,s)::r,I,μ,a,m,N=>match Pm s (gJ a t)with
  |some x=>Mj r (I x) (μ x) a m N
  |none=>False
def NG:(l:List (Nat×Sh))->FD l->Fr->(Fr->(J->Prop)->Prop)->Prop
 |[],I,a,k=>k a I
 |(t,s)::r,I,a,k=>∀x:s.ty,NG r (I x) ((t,.c (s.mk x))::a) k
def NH:(l:List (Nat×Sh))->FD l->Mf l->Fr->(Fr->(J->Prop)->(J->Nat)->Prop)->Prop
 |[],I,μ,a,k=>k a I μ
 |(t,s)::r,I,μ,a,k=>∀x:s.ty,NH r (I x) (μ x) ((t,.c (s.mk x))::a) k
def ni:List Nat->Fr->Fr
 |[],a=>a
 |t::r,a=>(t,.fI)::ni r a
def nV:Code->List Nat
 | .region _ b _=>yP b.toList
 | .seq a b=>nV a++nV b
 | .cond _ a b=>nV a++nV b
 | .block _ c=>nV c
 | .loop c=>nV c
 |_=>[]
def po(M:List Nat):List (Nat×Sh)->Bool
 |[]=>true
 |(t,_)::r=>ur t M&&po M r
def HM(x y:SV)(k:Prop):Prop:=x=y/\k
def aB(x:SV)(k:Prop):HM x x k=k:=by simp[HM]
def kD(A:No)(c:Code):List Nat:=
 match Ui A.dO c with
 |some K=>K
 |none=>[]
def Ck(b:Nat)(K:List Nat):Fr->List Nat
 |[]=>[]
 |(q,_)::r=>bif Nat.ble b q&&!ur q K then q::Ck b K r else Ck b K r
def tJ(b:Nat)(K:List Nat)(a:Fr):Fr:=ni (Ck b K a) a
def SC(a b:Fr):List Nat->Prop->Prop
 |[],k=>k
 |q::K,k=>HM (gJ b q) (gJ a q) (SC a b K k)
def JN(c:Fr):Op->Option SV
 | .move x| .assign x=>match ev c x with
  | .fI=>none
  |y=>some y
 | .binOp d _ x y _=>match ev c x,ev c y with
  | .c (.i a),.c (.i b)=>match d with
   | .eql=>some (.c (.t (a==b)))
   | .neq=>some (.c (.t (a !=b)))
   | .lss=>some (.c (.t (decide (a<b))))
   | .leq=>some (.c (.t (decide (a<=b))))
   | .gtr=>some (.c (.t (decide (a>b))))
   | .geq=>some (.c (.t (decide (a>=b))))
   |_=>none
  |_,_=>none
 |_=>none
def ql(b:Nat):List Oper->Fr->Option Fr
 |[],a=>some a
 |o::r,a=>bif rp b o.dst then
  match o.guard with
  |none=>match JN a o.op with
   |some x=>ql b r (tr a o.dst x)
   |none=>none
  |some _=>none
  else none
def Ul(A:No)(b t:Nat):Code->Fr->Option Bool
 | .region _ e false,d=>match ql b e.toList d with
  |some a=>kK (gJ a t)
  |none=>none
 | .seq (.region _ e false) (.cond (.tmp u) .skip c),d=>
  match Ui A.Tf (.cond (.tmp u) .skip c)with
  |some _=>none
  |none=>bif Nat.beq u t&&ur t (nV c)then
   match ql b e.toList d with
   |some a=>match kK (gJ a t),Ul A b t c a with
    |some x,some y=>some (x||y)
    |_,_=>none
   |none=>none
   else none
 |_,_=>none
def WG(A:No)(b:Nat)(d:Operand)(a c:Code)(e:Fr):Option (Nat×Bool):=
 match d,a with
 | .tmp t,.skip=>bif ur t (nV c)then
  match Ul A b t c e with
  |some y=>some (t,y)
  |none=>none
  else none
 |_,_=>none
def tR(a:Fr)(c:Operand)(v:SV):Fr:=
 match c with
 | .tmp t=>(t,v)::a
 |_=>a
def Tt:List Oper->List Nat
 |[]=>[]
 |o::r=>kO o.after.toList::Tt r
def Rr:List Nat->List Oper->List Nat
 |a,[]=>a
 |a,o::r=>Rr (a++[nH a o.after.toList]) r
def pJ:Code->Bool
 | .region _ b c=>!c||(kE (Rr [] b.toList) b.toList (Tt b.toList) (Rr [] b.toList)&&Eb b.toList (Tt b.toList) 0 b.toList (Rr [] b.toList))
 | .seq a b=>pJ a&&pJ b
 | .cond _ a b=>pJ a&&pJ b
 | .block _ c=>pJ c
 | .loop c=>pJ c
 |_=>true
def vc(P:Program)(T:TT)(G:List Nat)(b:Nat)(A:No):Code->Fr->J->(Exit->Fr->J->Prop)->Prop
 | .skip,c,m,Q=>Q .normal c m
 | .region id d e,c,m,Q=>
  bif e then nY P T G b d.toList (Tt d.toList) (Rr [] d.toList) d.toList.length 0 c m [] (λc m=>Q .normal c m)
  else rD P T G b d.toList d.toList c m (λc m=>Q .normal c m)
 | .seq a g,c,m,Q=>match Ui A.Tf g with
  |none=>vc P T G b A a c m λ
   | .normal,e,d=>vc P T G b A g e d Q
   |h,e,d=>Q h e d
  |some l=>bif po (nV a) l then∃K:FD l,(vc P T G b A a c m λ
   | .normal,e,d=>SC c e (kD A g) (FF l K e d)
   |h,e,d=>Q h e d)/\
   (NG l K (ni (nV a) (tJ b (kD A g) c)) λe f=>∀d,f d->vc P T G b A g e d Q)else False
 | .cond f a g,c,m,Q=>match ev c f with
  | .tt=>vc P T G b A a c m Q
  | .ff=>vc P T G b A g c m Q
  | .c (.t x)=>match WG A b f a g c with
   |some (t,y)=>Q .normal ((t,.c (.t (x||y)))::ni (nV g) c) m
   |none=>(x=true->vc P T G b A a (tR c f .tt) m Q)/\(x=false->vc P T G b A g (tR c f .ff) m Q)
  |_=>False
 | .block id f,c,m,Q=>vc P T G b A f c m λ
  | .exit i,e,d=>bif Nat.beq i id then Q .normal e d else Q (.exit i) e d
  |h,e,d=>Q h e d
 | .loop f,c,m,Q=>match Ui A.RT f with
  |none=>False
  |some l=>bif po (nV f) l then∃(I:FD l)(μ:Mf l),FF l I c m/\
   (NH l I μ (ni (nV f) (tJ b (kD A f) c)) λe j μ'=>∀d,j d->vc P T G b A f e d λ
    | .normal,g,i=>SC c g (kD A f) (Mj l I μ g i (μ' d))
    |h,g,i=>Q h g i)else False
 | .exit id,c,m,Q=>Q (.exit id) c m
 | .ret,c,m,Q=>Q .ret c m
 |_,_,_,_=>False
def lV.mono{b:List Nat}{c:Act}(h:lV M a c)(e:∀t∈M,t∈b):lV b a c:=λt f=>h t λd=>f (e t d)
def AI:∀(M:List Nat)(a:Fr)(t:Nat),(t∈M/\gJ (ni M a) t=.fI)\/(t∉M/\gJ (ni M a) t=gJ a t)
 |[],_,_=>Or.inr ⟨aJ,rfl⟩
 |u::M,a,t=>by
  simp only[ni,gJ];cases d:Nat.beq u t
  ·have f:u≠t:=λe=>by subst e;simp at d
   rcases AI M a t with⟨b,c⟩|⟨b,c⟩
   ·exact Or.inl ⟨ai _ b,c⟩
   ·exact Or.inr ⟨by simp only[aU,tn];exact⟨λe=>f e.symm,b⟩,c⟩
  ·have:=bo d;subst this;exact Or.inl ⟨aX,rfl⟩
def zl{d:Fr}{c:Act}(g:jz b d a)(j:c.tmps.size=b)(hd:c.defers=[])(i:lV M a c):jz b (ni M d) c:=by
 refine⟨j,hd,λt=>?_⟩;rcases AI M d t with⟨_,h⟩|⟨e,f⟩
 ·rw[h];trivial
 ·rw[f,i t e];exact g.D t
def jz.ni{c:Fr}{a:Act}(d:jz b c a):∀(M:List Nat),jz b (ni M c) a
 |[]=>d
 |t::M=>(jz.ni d M).fI t
def Bx.ni{a:Fr}{m:J}(h:Bx b a m):∀(M:List Nat),Bx b (ni M a) m
 |[]=>h
 |t::M=>(Bx.ni h M).fI aJ
def Ln{K:List Nat}{q:Nat}(d:b<=q)(c:q∉K):∀{a:Fr},q∈Ck b K a\/gJ a q=.fI
 |[]=>Or.inr rfl
 |(u,x)::r=>by
  simp only[Ck,gJ];cases i:Nat.beq u q
  ·rcases Ln d c (a:=r)with h|h
   ·left;cases(Nat.ble b u&&!ur u K)
    ·exact h
    ·exact ai _ h
   ·exact Or.inr h
  ·have:=bo i;subst this;have f:ur u K=false:=by
    cases g:ur u K
    ·rfl
    ·exact absurd (FY g) c
   have e:Nat.ble b u=true:=VX d;simp[f,e]
def Jo{b c:Fr}:∀{K:List Nat}{k:Prop},SC b c K k->(∀q∈K,gJ c q=gJ b q)/\k
 |[],k,h=>⟨aJ,h⟩
 |q::K,k,h=>by
  obtain⟨d,e⟩:=Jo h.2;refine⟨λu a=>?_,e⟩;rcases List.mem_cons.1 a with rfl|a
  ·exact h.1
  ·exact d u a
def Bx.kD{K:List Nat}{c j:Fr}{v p:J}(h:Bx b c v)(r:Bx b j p)(s:∀q∈K,gJ j q=gJ c q):Bx b (Vc.ni M (tJ b K c)) p:=by
 have i:∀{q d e l},lg (Vc.ni M (tJ b K c)) q d e l->lg c q d e l/\lg j q d e l:=by
  intro q d e l a;have f:gJ (Vc.ni M (tJ b K c)) q=gJ (tJ b K c) q\/gJ (Vc.ni M (tJ b K c)) q=.fI:=by
   rcases AI M (tJ b K c) q with⟨_,h⟩|⟨_,h⟩
   ·exact Or.inr h
   ·exact Or.inl h
  unfold lg at a;rcases f with f|f
  ·rw[f]at a;unfold tJ at a;rcases AI (Ck b K c) c q with⟨_,g⟩|⟨k,g⟩
   ·rw[g]at a;simp at a
   ·rw[g]at a;have t:b<=q:=h.key q d e l a;by_cases o:q∈K
    ·refine⟨a,?_⟩;unfold lg;rw[s q o];exact a
    ·rcases Ln (b:=b) t o (a:=c)with m|m
     ·exact absurd m k
     ·rw[m]at a;simp at a
  ·rw[f]at a;simp at a
 exact⟨λq d e l a=>r.E q d e l (i a).2,λq w d e l m o u t k g=>h.Ml q w d e l m o u t (i k).1 (i g).1,λq d e l a=>h.key q d e l (i a).1⟩
def QI{x:SV}(h:Pm s x=some y):x.iZ=true/\x.v=(s.mk y).v:=by
 unfold Pm at h;split at h<;>first|(simp at h;subst h;exact⟨rfl,rfl⟩)|skip
 ·split at h
  ·rename_i a;subst a;simp at h;subst h;exact⟨rfl,rfl⟩
  ·simp at h
 ·simp at h
def JT{d ct:Fr}{t:Nat}(g:jz b d a)(c:jz b ct a)(h:Pm s (gJ d t)=some y):jz b ((t,.c (s.mk y))::ct) a:=by
 refine⟨c.size,c.defers,λu=>?_⟩;simp only[gJ];cases i:Nat.beq t u
 ·exact c.D u
 ·have:=bo i;subst this;have e:=g.D t;obtain⟨j,k⟩:=QI h;have f:=e.eq j;show _=_;rw[f,k];rfl
def Rc:(l:List (Nat×Sh))->FD l->Mf l->Fr->Fr->(J->Prop)->(J->Nat)->Prop
 |[],I,μ,b,c,a,μ'=>c=b/\a=I/\μ'=μ
 |(t,s)::r,I,μ,b,c,a,μ'=>∃x:s.ty,Rc r (I x) (μ x) ((t,.c (s.mk x))::b) c a μ'
def Lj:∀{l:List (Nat×Sh)}{I:FD l}{μ:Mf l}{b:Fr}{k:Fr->(J->Prop)->(J->Nat)->Prop},NH l I μ b k->∀{fr' I' μ'},Rc l I μ b fr' I' μ'->k fr' I' μ'
 |[],_,_,_,_,h,_,_,_,a=>by obtain⟨rfl,rfl,rfl⟩:=a;exact h
 |(t,s)::r,_,_,_,_,h,_,_,_,a=>by obtain⟨x,a⟩:=a;exact Lj (h x) a
def Sh.RX(s:Sh)(x:s.ty)(b e:Nat)(l:List Ce):SV.c (s.mk x)≠.box b e l/\SV.c (s.mk x)≠.yL b e l:=⟨aJ,aJ⟩
def Lm{a:Act}{g:Fr}(i:jz b g a):∀{l:List (Nat×Sh)}{I:FD l}{μ:Mf l}{ct:Fr}{m:J}{N:Nat},jz b ct a->Bx b ct m->Mj l I μ g m N->
 ∃c d μ',Rc l I μ ct c d μ'/\jz b c a/\Bx b c m/\d m/\μ' m<N
 |[],I,μ,ct,_,_,f,e,h=>⟨ct,I,μ,⟨rfl,rfl,rfl⟩,f,e,h.1,h.2⟩
 |(t,s)::r,I,μ,ct,m,N,f,e,h=>by
  simp only[Mj]at h;split at h
  ·rename_i x p;obtain⟨c,d,μ',j,k,n,o⟩:=Lm i (JT i f p) (e.fI (s.RX x)) h;exact⟨c,d,μ',⟨x,j⟩,k,n,o⟩
  ·exact h.elim
def Ll{a:Act}{g:Fr}(i:jz b g a):∀{l:List (Nat×Sh)}{I:FD l}{μ:Mf l}{ct:Fr}{m:J},jz b ct a->Bx b ct m->FF l I g m->
 ∃c d μ',Rc l I μ ct c d μ'/\jz b c a/\Bx b c m/\d m
 |[],I,μ,ct,_,f,e,h=>⟨ct,I,μ,⟨rfl,rfl,rfl⟩,f,e,h⟩
 |(t,s)::r,I,μ,ct,m,f,e,h=>by
  simp only[FF]at h;split at h
  ·rename_i x o;obtain⟨c,d,μ',j,k,n⟩:=Ll i (JT i f o) (e.fI (s.RX x)) h;exact⟨c,d,μ',⟨x,j⟩,k,n⟩
  ·exact h.elim
def NK{a:Act}{i:Fr}(j:jz b i a):∀{l:List (Nat×Sh)}{I:FD l}{ct:Fr}{m:J}{k:Fr->(J->Prop)->Prop},jz b ct a->Bx b ct m->FF l I i m->NG l I ct k->
 ∃c g,k c g/\jz b c a/\Bx b c m/\g m
 |[],I,ct,_,_,e,d,h,f=>⟨ct,I,f,e,d,h⟩
 |(t,s)::r,I,ct,m,k,e,d,h,f=>by
  simp only[FF]at h;split at h
  ·rename_i x n;exact NK j (JT j e n) (d.fI (s.RX x)) h (f x)
  ·exact h.elim
def Q0{l:Code}{Q:Exit->Act->World->Prop}(b:Nat->Act->World->Prop)
 (r:∀N a w,b N a w->l.wp P (Exit.then (λg k=>∃d,d<N/\b d g k) Q) a w):∀N a w,b N a w->(Code.loop l).wp P Q a w:=by
 have q:∀N a w,b N a w->∃M,b M a w/\∀c,c<M->¬b c a w:=by
  intro N;induction N using Nat.strongRecOn with
  |_ N j=>
   intro a w h;by_cases e:∃c,c<N/\b c a w
   ·obtain⟨c,f,i⟩:=e;exact j c f a w i
   ·exact⟨N,h,λc i f=>e ⟨c,i,f⟩⟩
 intro N a w o
 classical
 let μ:Act->World->Nat:=λa w=>if h:∃M,b M a w/\∀c,c<M->¬b c a w then Classical.choose h else 0
 have hμ:∀a w N,b N a w->b (μ a w) a w/\μ a w<=N:=by
  intro a w N h;have e:=q N a w h;have i:μ a w=Classical.choose e:=Q6 e;have n:=dU e;rw[i];refine⟨n.1,?_⟩;rcases bA N (Classical.choose e)with j|p
  ·exact absurd h (n.2 N j)
  ·exact p
 refine wp_loop (λa w=>∃N,b N a w) μ ⟨N,o⟩ ?_
 rintro a w ⟨N,h⟩
 refine Code.wp_mono ?_ (r (μ a w) a w (hμ a w N h).1)
 intro i g k m
 cases i with
 |normal=>
  obtain⟨d,j,f⟩:=m
  exact⟨⟨d,f⟩,nm (hμ g k d f).2 j⟩
 |_=>exact m
end Go.Vc
end
section
namespace Go.Vc
variable{i w:World}{j p:List Nat}{l a:Act}{f:Exit->Fr->J->Prop}{e:Exit}{b:J}
variable{g:Program}{h:TT}{G:List Nat}{d:Nat}{o:No}
def jG(d:Nat)(i:World)(j:List Nat)(l:Act)(f:Exit->Fr->J->Prop):Exit->Act->World->Prop
 | .panic _,_,_=>False
 | .outgrown,_,_=>False
 |e,a,w=>∃b,jz d b a/\Bx d b w.heap/\oL i w/\lV j l a/\f e b w.heap
def jG.mk{b:Fr}(g:(∀c,e≠.panic c)/\e≠.outgrown)
 (k:jz d b a)(h:Bx d b w.heap)(o:oL i w)(m:lV j l a)(n:f e b w.heap):jG d i j l f e a w:=by
 cases e with
 |panic c=>exact absurd rfl (g.1 c)
 |outgrown=>exact absurd rfl g.2
 |_=>exact⟨b,k,h,o,m,n⟩
def jG.bd(h:jG d i j l f e a w):
 ((∀c,e≠.panic c)/\e≠.outgrown)/\∃b,jz d b a/\Bx d b w.heap/\oL i w/\lV j l a/\f e b w.heap:=by
 cases e with
 |panic c=>exact h.elim
 |outgrown=>exact h.elim
 |_=>exact⟨⟨aJ,aJ⟩,h⟩
def jG.left(h:jG d i j l f e a w):jG d i (j++p) l f e a w:=by
 obtain⟨g,q,c,b,n,k,m⟩:=h.bd;exact jG.mk g c b n (k.mono (λt o=>bJ _ o)) m
def jG.right(h:jG d i j l f e a w):jG d i (p++j) l f e a w:=by
 obtain⟨g,q,c,b,n,k,m⟩:=h.bd;exact jG.mk g c b n (k.mono (λt o=>fw _ o)) m
def QR{f:Fr}{e:Op}{x:SV}{k:SV->Prop}(c:JN f e=some x)(d:k x):JA e=false/\rd h f b k e:=by
 unfold JN at c;split at c
 ·split at c
  ·simp at c
  ·simp at c;subst c;exact⟨rfl,d⟩
 ·split at c
  ·simp at c
  ·simp at c;subst c;exact⟨rfl,d⟩
 ·rename_i o t y z l;split at c
  ·rename_i a j g i;refine⟨rfl,?_⟩;simp only[rd,g,i];split at c<;>simp at c<;>subst c<;>exact d
  ·simp at c
 ·simp at c
def CZ(j:List Oper){b:J}{i:Fr->J->Prop}:∀{n:List Oper}{c e:Fr},ql d n c=some e->i e b->rD g h G d j n c b i
 |[],c,e,a,f=>by simp[ql]at a;subst a;exact f
 |o::s,c,e,a,f=>by
  simp only[ql]at a;simp only[rD];cases hd:rp d o.dst
  ·rw[hd]at a;simp at a
  ·rw[hd]at a;simp only[iX]at a⊢;cases l:o.guard with
   |some p=>rw[l]at a;simp at a
   |none=>
    rw[l]at a;simp only[gd]at a⊢;split at a
    ·rename_i x r;obtain⟨p,q⟩:=QR (h:=h) (b:=b) (k:=λx=>rD g h G d j s (tr c o.dst x) b i) r (CZ j a f);rw[p];exact q
    ·simp at a
def R9(p:Nat){b:J}{f:Exit->Fr->J->Prop}:∀(k:Code)(n:Fr)(y:Bool),Ul o d p k n=some y->(∀i,kK (gJ i p)=some y->f .normal i b)->vc g h G d o k n b f
 | .region id A e,n,y,a,m=>by
  cases e
  ·simp only[Ul]at a;simp only[vc,me];split at a
   ·rename_i i q;exact CZ _ q (m i a)
   ·simp at a
  ·simp[Ul]at a
 | .seq (.region id A false) (.cond (.tmp u) .skip k),n,y,a,m=>by
  simp only[Ul]at a;split at a
  ·simp at a
  ·rename_i w;cases l:(Nat.beq u p&&ur p (nV k))
   ·rw[l]at a;simp at a
   ·rw[l]at a;simp only[iX]at a;simp only[bK]at l;have z:=bo l.1;subst z;split at a
    ·rename_i i q;split at a
     ·rename_i C B e r;simp at a;subst a;rw[vc,w];simp only;rw[vc];simp only[me];refine CZ _ q ?_;rw[vc];have x:ev i (.tmp u)=(gJ i u).nb:=rfl;rw[x];cases j:gJ i u with
      |tt=>
       rw[j]at e;simp[kK]at e;subst e;simp only[SV.nb,vc];exact m i (by rw[j];simp[kK])
      |ff=>
       rw[j]at e;simp[kK]at e;subst e;simp only[SV.nb];exact R9 u k i B r (λs v=>m s (by simpa using v))
      |c s=>
       cases s with
       |t v=>
        rw[j]at e;simp[kK]at e;subst e;simp only[SV.nb,WG,l.2,iX,r];exact m _ (by simp[gJ,kK])
       |_=>rw[j]at e;simp[kK]at e
      |_=>rw[j]at e;simp[kK]at e
     ·simp at a
    ·simp at a
def Sp(hT:tp g h)(hG:SK g G)(au:g.follows .mixedOrders=true)(i:World):∀(D:Code),pJ D=true->∀(l:Fr)(b:J)(f:Exit->Fr->J->Prop)(a:Act)(w:World),
 vc g h G d o D l b f->jz d l a->Bx d l b->w.heap=b->oL i w->D.wp g (jG d i (nV D) a f) a w:=by
 intro D
 induction D with
 |skip=>
  intro hd l b f a w c k s x t
  subst x
  exact wp_skip ⟨l,k,s,t,lV.az _ _,c⟩
 |region id p z=>
  intro hd l b f a w c k s x t
  simp only[vc]at c
  cases z
  ·simp only[me]at c
   refine wp_region_list ?_
   exact ud hT hG p p.toList l b (f .normal) a w (λ_ c=>c) c k s x t (lV.az _ _) λB H S j r v u q=>⟨B,r,v,u,q,j⟩
  ·simp only[iX]at c
   simp only[pJ,LX,TF,bK]at hd
   refine wp_region_any au (Kw (e:=λy C=>Nat.testBit (tw (Rr [] p.toList) y) C) (L:=[]) _ _ _ _ ?_)
   have E:p.toList.length=p.size:=aJ
   rw[E]at c
   refine Nj hT hG p _ _ hd.1 hd.2 (λD a w hx=>hx) (w0:=i) (a0:=a) p.size 0 l b [] (f .normal) [] _ a _ c (λC hx=>by cases hx) ⟨aJ,λy=>by simp[TE];split<;>rfl⟩ (λy hi=>by simp[TE]at hi;split at hi<;>simp at hi) k s x ⟨t.os,t.tape,t.output⟩ (lV.az _ _) λB H S j r v u q=>⟨B,r,v,u,q,j⟩
 |seq C U ac X=>
  intro hd l b f a w c k s x t
  simp only[vc]at c
  simp only[pJ,bK]at hd
  refine wp_seq ?_
  split at c
  ·refine Code.wp_mono ?_ (ac hd.1 l b _ a w c k s x t)
   intro e H S j
   obtain⟨p,B,r,v,u,z,j⟩:=j.bd
   cases e with
   |normal=>
    refine Code.wp_mono ?_ (X hd.2 B _ f H S j r v rfl u)
    intro e R aa j
    obtain⟨p,V,I,E,O,K,j⟩:=j.bd
    exact jG.mk p I E O ((z.mono (λF q=>bJ _ q)).trans (K.mono (λF q=>fw _ q))) j
   |panic D=>exact absurd rfl (p.1 D)
   |outgrown=>exact absurd rfl p.2
   |exit y=>exact jG.mk (e:=.exit y) p r v u (z.mono (λF q=>bJ _ q)) j
   |goto y=>exact jG.mk (e:=.goto y) p r v u (z.mono (λF q=>bJ _ q)) j
   |ret=>exact jG.mk (e:=.ret) p r v u (z.mono (λF q=>bJ _ q)) j
  ·rename_i N hl
   cases ab:po (nV C) N
   ·rw[ab]at c;exact c.elim
   rw[ab]at c
   obtain⟨ad,h1,W⟩:=c
   refine Code.wp_mono ?_ (ac hd.1 l b _ a w h1 k s x t)
   intro e H S j
   obtain⟨p,B,r,v,u,z,j⟩:=j.bd
   cases e with
   |normal=>
    obtain⟨af,j⟩:=Jo j
    obtain⟨ag,K',h3,Y,Z,h5⟩:=NK r (zl (k.ni _) r.size r.defers z) (Bx.kD s v af) j W
    refine Code.wp_mono ?_ (X hd.2 ag _ f H S (h3 _ h5) Y Z rfl u)
    intro e R aa j
    obtain⟨p,V,I,E,O,K,j⟩:=j.bd
    exact jG.mk p I E O ((z.mono (λF q=>bJ _ q)).trans (K.mono (λF q=>fw _ q))) j
   |panic D=>exact absurd rfl (p.1 D)
   |outgrown=>exact absurd rfl p.2
   |exit y=>exact jG.mk (e:=.exit y) p r v u (z.mono (λF q=>bJ _ q)) j
   |goto y=>exact jG.mk (e:=.goto y) p r v u (z.mono (λF q=>bJ _ q)) j
   |ret=>exact jG.mk (e:=.ret) p r v u (z.mono (λF q=>bJ _ q)) j
 |cond ad C U ac X=>
  intro hd l b f a w c k s x t
  simp only[vc]at c
  simp only[pJ,bK]at hd
  have aj:∀{K:Bool},a.eval ad=.bool K->jz d (tR l ad (if K then .tt else .ff)) a:=by
   intro K E;unfold tR;split
   ·rename_i F;refine⟨k.size,k.defers,λR=>?_⟩;simp only[gJ];cases Y:Nat.beq F R
    ·exact k.D R
    ·have:=bo Y;subst this;cases K<;>exact E
   ·exact k
  have ak:∀{C:SV},(∀K e N,C≠.box K e N/\C≠.yL K e N)->Bx d (tR l ad C) b:=by
   intro C hx;unfold tR;split
   ·exact s.fI hx
   ·exact s
  split at c
  ·rename_i Z
   exact wp_cond_true (k.eq Z rfl) (Code.wp_mono (λ_ _ _ c=>c.left) (ac hd.1 l b f a w c k s x t))
  ·rename_i Z
   exact wp_cond_false (k.eq Z rfl) (Code.wp_mono (λ_ _ _ c=>c.right) (X hd.2 l b f a w c k s x t))
  ·rename_i K Z
   have aa:a.eval ad=.bool K:=k.eq Z rfl
   split at c
   ·rename_i F y' I
    unfold WG at I
    split at I
    ·rename_i O
     cases ai:ur O (nV U)
     ·rw[ai]at I;simp at I
     ·rw[ai]at I
      simp only[iX]at I
      split at I
      ·rename_i y0 ao
       simp at I
       obtain⟨rfl,rfl⟩:=I
       have am:a.tmps.getD O undef=.bool K:=aa
       refine wp_cond_split aa (λq=>?_) (λq=>?_)
       ·subst x
        subst q
        refine wp_skip (jG.mk (e:=.normal) (b:=(O,.c (.t (true||y0)))::ni (nV U) l) ⟨aJ,aJ⟩ ?_ ((s.ni _).fI aJ) t (lV.az _ _) c)
        have E:=zl (M:=nV U) k k.size k.defers (lV.az _ a)
        refine⟨E.size,E.defers,λR=>?_⟩
        simp only[gJ]
        cases Y:Nat.beq O R
        ·exact E.D R
        ·have:=bo Y
         subst this
         simpa[SV.Is,SV.v,Ce.v]using am
       ·subst q
        have hv:=R9 (g:=g) (h:=h) (G:=G) (o:=o) (d:=d) O (b:=b) (f:=λe B V=>e=.normal/\V=b/\kK (gJ B O)=some y0) U l y0 ao (λB V=>⟨rfl,rfl,V⟩)
        refine Code.wp_mono ?_ (X hd.2 l b _ a w hv k s x t)
        intro e H S j
        obtain⟨p,B,r,v,u,z,rfl,ah,al⟩:=j.bd
        refine jG.mk (e:=.normal) (b:=(O,.c (.t (false||y0)))::ni (nV U) l) p ?_ (by rw[ah];exact(s.ni _).fI aJ) u (z.mono (λF q=>fw _ q)) (by rw[ah];exact c)
        have E:=zl (M:=nV U) k r.size r.defers z
        refine⟨E.size,E.defers,λR=>?_⟩
        simp only[gJ]
        cases Y:Nat.beq O R
        ·exact E.D R
        ·have:=bo Y
         subst this
         obtain⟨V,W⟩:=wc al
         have h3:=(r.D O).eq V
         rw[W]at h3
         simpa[SV.Is,SV.v,Ce.v]using h3
      ·simp at I
    ·simp at I
   ·refine wp_cond_split aa (λq=>?_) (λq=>?_)
    ·subst q
     exact Code.wp_mono (λ_ _ _ c=>c.left) (ac hd.1 _ b f a w (c.1 rfl) (aj aa) (ak aJ) x t)
    ·subst q
     exact Code.wp_mono (λ_ _ _ c=>c.right) (X hd.2 _ b f a w (c.2 rfl) (aj aa) (ak aJ) x t)
  ·exact c.elim
 |block id C I=>
  intro hd l b f a w c k s x t
  simp only[vc]at c
  refine wp_block (Code.wp_mono ?_ (I hd l b _ a w c k s x t))
  intro e H S j
  obtain⟨p,B,r,v,u,z,j⟩:=j.bd
  cases e with
  |exit y=>
   simp only[Exit.inBlock]
   simp only at j
   cases E:Nat.beq y id
   ·rw[E]at j
    have q:y≠id:=λe=>by subst e;simp at E
    rw[ae q]
    exact jG.mk (e:=.exit y) p r v u z j
   ·rw[E]at j
    rw[an (bo E)]
    exact jG.mk (e:=.normal) ⟨aJ,aJ⟩ r v u z j
  |normal=>exact jG.mk (e:=.normal) p r v u z j
  |panic D=>exact absurd rfl (p.1 D)
  |outgrown=>exact absurd rfl p.2
  |goto y=>exact jG.mk (e:=.goto y) p r v u z j
  |ret=>exact jG.mk (e:=.ret) p r v u z j
 |loop C I=>
  intro hd l b f a w c k s x t
  subst x
  simp only[vc]at c
  split at c
  ·exact c.elim
  ·rename_i N hl
   cases ab:po (nV C) N
   ·rw[ab]at c;exact c.elim
   rw[ab]at c
   obtain⟨O,μ,h0,h1⟩:=c
   let Y:Nat->Act->World->Prop:=λK H w=>∃B F μ',Rc N O μ (ni (nV C) (tJ d (kD o C) l)) B F μ'/\jz d B H/\Bx d B w.heap/\F w.heap/\μ' w.heap=K/\oL i w/\lV (nV C) a H
   obtain⟨aa,R,μ1,ap,al,ad,aj⟩:=Ll (μ:=μ) k (zl (k.ni _) k.size k.defers (lV.az (nV C) a)) (Bx.kD s s (λ_ _=>rfl)) h0
   refine Q0 Y ?_ (μ1 w.heap) a w ⟨aa,R,μ1,ap,al,ad,aj,rfl,t,lV.az _ _⟩
   rintro K Z w ⟨B,F,μ',hi,r,v,ai,rfl,u,V⟩
   have ao:=Lj h1 hi w.heap ai
   refine Code.wp_mono ?_ (I hd B w.heap _ Z w ao r v rfl u)
   intro e H S j
   obtain⟨p,ag,q,z,E,W,j⟩:=j.bd
   cases e with
   |normal=>
    obtain⟨af,j⟩:=Jo j
    obtain⟨ac,X,μ3,aq,am,ah,ak,ar⟩:=Lm q (zl (k.ni _) q.size q.defers (V.trans W)) (Bx.kD s z af) j
    exact⟨_,ar,ac,X,μ3,aq,am,ah,ak,rfl,E,V.trans W⟩
   |panic D=>exact absurd rfl (p.1 D)
   |outgrown=>exact absurd rfl p.2
   |exit y=>exact jG.mk (e:=.exit y) p q z E (V.trans W) j
   |goto y=>exact jG.mk (e:=.goto y) p q z E (V.trans W) j
   |ret=>exact jG.mk (e:=.ret) p q z E (V.trans W) j
 |exit id=>
  intro hd l b f a w c k s x t
  subst x
  exact wp_exit ⟨l,k,s,t,lV.az _ _,c⟩
 |ret=>
  intro hd l b f a w c k s x t
  subst x
  exact wp_ret ⟨l,k,s,t,lV.az _ _,c⟩
 |rangeFunc j k C U _ _=>intro _ l b f a w c;exact c.elim
 |scope C _=>intro _ l b f a w c;exact c.elim
 |label N=>intro _ l b f a w c;exact c.elim
 |goto N=>intro _ l b f a w c;exact c.elim
 |refuse s=>intro _ l b f a w c;exact c.elim
def tI:Nat->List SV->Fr
 |_,[]=>[]
 |i,x::r=>(i,x)::tI (i+1) r
def EG(h:TT)(a:Fr)(b:J):List ResultVar->(List SV->Prop)->Prop
 |[],k=>k []
 | .tmp t::r,k=>bif (gJ a t).iZ then EG h a b r λl=>k (gJ a t::l)else False
 | .cell p t::r,k=>rd h a b (λx=>bif x.iZ then EG h a b r λl=>k (x::l)else False) (.load t (.tmp p))
def Vz(h:TT)(c:List ResultVar)(a:Fr)(b:J)(R:Value->J->Prop):Prop:=
 EG h a b c λ
  |[x]=>R x.v b
  |l=>R (.tuple (l.map SV.v).toArray) b
def QZ(g:Program)(h:TT)(G:List Nat)(o:No)(d:Nat)(c:List ResultVar)(f:Code)(e:List SV)(b:J)(R:Value->J->Prop):Prop:=
 vc g h G d o f (tI 0 e) b λ
  | .normal,a,b=>Vz h c a b R
  | .ret,a,b=>Vz h c a b R
  |_,_,_=>False
def FG:∀(a:List SV)(i t:Nat),(t<i/\gJ (tI i a) t=.fI)\/(i<=t/\gJ (tI i a) t=a.getD (t -i) .fI)
 |[],i,t=>by
  rcases bA t i with h|h
  ·exact Or.inl ⟨h,rfl⟩
  ·exact Or.inr ⟨h,by simp[tI,gJ]⟩
 |x::r,i,t=>by
  simp only[tI,gJ];cases c:Nat.beq i t
  ·have f:i≠t:=λe=>by subst e;simp at c
   rcases FG r (i+1) t with⟨d,b⟩|⟨d,b⟩
   ·exact Or.inl ⟨V,b⟩
   ·refine Or.inr ⟨V,?_⟩;have e:t -i=(t -(i+1))+1:=V;rw[e,List.getD_cons_succ];exact b
  ·have:=bo c;subst this;exact Or.inr ⟨ad _,aJ⟩
def JU(a:Array Value):ResultVar->Sem Value
 | .tmp t=>pure (a.getD t undef)
 | .cell p t=>do loadVar t (<-asAddr (a.getD p undef))
def PD(b:Func)(c:Array Value):results b c=(do
 let a<-b.results.mapM (JU c)
 pure (if h:a.size=1 then a[0]else .tuple a)):=by
 unfold results
 congr 2
def Gj{i:Fr}{a:Act}(v:tp g h)(f:jz d i a):∀(D:List ResultVar)(k:List SV->Prop)(w:World),Bx d i w.heap->EG h i w.heap D k->
 ∃p,k p/\(D.mapM (JU a.tmps)).run g w=.ok (p.map SV.v) w
 |[],k,w,_,b=>⟨[],b,aJ⟩
 | .tmp t::A,k,w,j,b=>by
  simp only[EG]at b;cases c:(gJ i t).iZ
  ·rw[c]at b;exact b.elim
  ·rw[c]at b;obtain⟨p,s,u⟩:=Gj v f A _ w j b;refine⟨_,s,?_⟩;have z:=(f.D t).eq c;have r:JU a.tmps (.tmp t)=pure (a.tmps.getD t undef):=rfl;simp only[Sv,Sem.run_bind,Sem.run_pure,Result.andThen_ok,u,cE,z,r]
 | .cell q t::A,k,w,j,m=>by
  obtain⟨E,B,n,z,b⟩:=JO (P:=g) v f j ⟨none,.load t (.tmp q),0,"",#[],none⟩ m;have b:=b w (λC _=>rfl);cases x:E.iZ
  ·rw[x]at n;exact n.elim
  rw[x]at n;obtain⟨p,s,u⟩:=Gj v f A _ w j n;refine⟨_,s,?_⟩;have G:∃c o,a.tmps.getD q undef=.pointer (some ⟨c,o,none⟩):=by
   have l:=SV.RY (f.D q);simp only[EG,rd,ev]at m;split at m
   ·rename_i c o y;rw[y]at l;exact⟨c,o,l⟩
   ·rename_i C c o y;rw[y]at l;exact⟨c,o,l⟩
   ·exact m.elim
  obtain⟨c,o,y⟩:=G;simp only[execOp,Instr.loadAt,Act.eval,y,Instr.sureAddr,Sem.run_bind,Sem.run_pure,Result.andThen_ok]at b;have F:(loadVar t ⟨c,o,none⟩).run g w=.ok B w:=by
   cases C:(loadVar t ⟨c,o,none⟩).run g w with
   |ok I H=>
    rw[C]at b;simp at b;rw[b.1,b.2]
   |halt e H=>rw[C]at b;simp at b
  have H:B=E.v:=z.eq x;have r:(JU a.tmps (.cell q t)).run g w=.ok B w:=by
   simp only[JU,y,Sem.run_bind,asAddr,Sem.run_pure,Result.andThen_ok,F]
  simp only[Sv,Sem.run_bind,Sem.run_pure,Result.andThen_ok,r,u,cE,H]
def pV(z:tp g h)(K:SK g G)(O:g.follows .mixedOrders=true){y:FuncId}{i:Func}{m:Code}{r:List ResultVar}{a:List SV}{R:Value->J->Prop}
 (N:g.funcs[y]? =some i)(M:i.body=some m)(P:i.ntmps=d)(S:i.results=r.toArray)(A:a.all SV.iZ=true)(X:a.length<=d)(hd:pJ m=true)
 (j:QZ g h G o d r m a b R):aL g y (a.map SV.v) b R:=by
 intro w U
 refine calls_of_wp N M ?_
 have L:jz d (tI 0 a) {tmps:=(a.map SV.v).toArray++Array.replicate (i.ntmps -(a.map SV.v).toArray.size) undef,defers:=[]}:=by
  refine⟨by simp[P];omega,rfl,λt=>?_⟩;rcases FG a 0 t with⟨n,_⟩|⟨_,p⟩
  ·omega
  ·rw[p,VJ];rcases bA t a.length with k|s
   ·have u:(a[t]).iZ=true:=List.all_eq_true.1 A _ (ZW k);have c:a.getD t .fI=a[t]:=by simp[k]
    rw[c];have f:((a.map SV.v).toArray++Array.replicate (i.ntmps -(a.map SV.v).toArray.size) undef).getD t undef=(a[t]).v:=by
     simp[Array.getElem?_append,k]
    rw[f];exact nv _
   ·have c:a.getD t .fI=.fI:=by simp[di s]
    rw[c];trivial
 have v:∀{q x e l},¬lg (tI 0 a) q x e l:=by
  intro q x e l f;rcases FG a 0 q with⟨n,_⟩|⟨_,p⟩
  ·omega
  ·unfold lg at f;rw[p,VJ]at f;rcases bA q a.length with k|s
   ·have u:(a[q]).iZ=true:=List.all_eq_true.1 A _ (ZW k);have c:a.getD q .fI=a[q]:=by simp[k]
    rw[c]at f;rcases f with f|f<;>rw[f]at u<;>simp[SV.iZ]at u
   ·have c:a.getD q .fI=.fI:=by simp[di s]
    rw[c]at f;simp at f
 have H:Bx d (tI 0 a) b:=⟨λ_ _ _ _ j=>absurd j v,λ_ _ _ _ _ _ _ _ _ j=>absurd j v,λ_ _ _ _ j=>absurd j v⟩
 refine Code.wp_mono ?_ (Sp z K O w m hd _ b _ _ w j L H U (oL.az w))
 intro e s k c
 obtain⟨B,F,u,I,T,W,c⟩:=c.bd
 have C:∀(c:Vz h r F k.heap R),s.defers=[]/\∃D,(results i s.tmps).run g k=.ok D k/\∃E,Ending.returned D=.returned E/\oL w k/\R E k.heap:=by
  intro c;refine⟨u.defers,?_⟩;obtain⟨l,n,p⟩:=Gj z u r _ k I c;have Q:(results i s.tmps).run g k=.ok (if j:(l.map SV.v).toArray.size=1 then(l.map SV.v).toArray[0]else .tuple (l.map SV.v).toArray) k:=by
   rw[PD,S,SE];simp only[Sem.run_bind,Sem.run_map];rw[p];rfl
  refine⟨_,Q,_,rfl,T,?_⟩;cases l with
  |nil=>exact n
  |cons V l=>cases l with
   |nil=>exact n
   |cons Y l=>exact n
 cases e with
 |normal=>exact C c
 |ret=>exact C c
 |exit V=>exact c.elim
 |goto V=>exact c.elim
 |panic m=>exact absurd rfl (B.1 m)
 |outgrown=>exact absurd rfl B.2
end Go.Vc
end
section
namespace Go.Vc
abbrev vi(n:Int):Value:=.int .i64 n
abbrev vb(b:Bool):Value:=.bool b
abbrev vp(b o:Nat):Value:=.pointer (some ⟨b,o,none⟩)
def FH(f:Func):Code:=
 match f.body with
 |some c=>c
 |none=>.skip
end Go.Vc
end
section
namespace Go.Vc
variable{a m c d:J}{b o k f n:Nat}{v:Value}{l:List Nat}{s:O}{P:Program}{K e:Value->J->Prop}{p:Prop}
structure N(m c:J):Prop where
 size:m.size<=c.size
 same:∀b,b<m.size->c[b]? =m[b]?
def N.az(m:J):N m m:=⟨ad _,λ_ _=>rfl⟩
def N.trans{a b c:J}(h:N a b)(k:N b c):N a c:=
 ⟨bX h.size k.size,λi d=>(k.same i (aO d h.size)).trans (h.same i d)⟩
def N.push(m:J)(o:Obj):N m (m.push o):=
 ⟨aJ,λb a=>by rw[ms,ae V]⟩
def N.aN(h:N a m)(o:Obj):N a (m.push o):=h.trans (N.push m o)
def N.ah(h:N a m)(d:a.size<=b)(o:Nat)(l:List Ce):N a (ah m b o l):=
 ⟨by rw[ay];exact h.size,λj c=>by rw[bt l m b o V];exact h.same j c⟩
def N.af(h:N m c)(a:af m b o=some v):af c b o=some v:=by
 rw[aM (h.same b (mB a))];exact a
def N.iv(h:N m c){l:List Ce}(e:fZ m b o l):fZ c b o l:=λi a d=>h.af (e i a d)
def cx.ext(h:N m c){e:Nat}{l:List Ce}(a:cx m b e l):cx c b e l:=by
 unfold cx at*;rw[h.same b (Array.getElem?_eq_some_iff.1 a).1];exact a
structure eK{α:Type}(m:J)(sz:Nat)(R:List Ce->α->Prop)(s:O)(l:List α):Prop where
 len:s.len=l.length
 cap:s.len<=s.cap
 gV:s.len<=9223372036854775807
 iv:∀(k:Nat)(x:α),l[k]? =some x->∃cs,R cs x/\fZ m s.E (s.off+k*sz) cs
def eK.mono{α:Type}{d:Nat}{R b:List Ce->α->Prop}{l:List α}(h:eK m d R s l)(j:N m c)(g:∀a x,R a x->b a x):eK c d b s l:=
 ⟨h.len,h.cap,h.gV,λk x i=>let⟨a,e,f⟩:=h.iv k x i;⟨a,g _ _ e,j.iv f⟩⟩
def SL(a:List Ce)(n:Int):Prop:=a=[.i n]
abbrev aq(m:J)(s:O)(l:List Int):Prop:=eK m 1 SL s l
def aq.D{l:List Int}(h:aq m s l){x:Int}(a:l[k]? =some x):af m s.E (s.off+k*1)=some (vi x):=by
 obtain⟨c,rfl,b⟩:=h.iv k x a;exact b 0 (.i x) rfl
def aq.ext(a:N m c){l:List Int}(h:aq m s l):aq c s l:=h.mono a λ_ _ h=>h
def ag{α:Type}{l:List α}(h:k<l.length):∃x,l[k]? =some x:=⟨l[k],by simp[h]⟩
def aD{α:Type}{l:List α}{x:α}(h:l[k]? =some x):k<l.length:=(List.getElem?_eq_some_iff.1 h).1
def bn{α:Type}{l:List α}{x:α}(h:l[k]? =some x):l.take (k+1)=l.take k++[x]:=by
 rw[List.take_add_one,h];rfl
def cN{α:Type}{l:List α}(h:l.length<=k):l.take k=l:=nl h
def uR(P:Program)(f:Nat)(a:List Value)(m:J)(v:Value):Prop:=aL P f a m λb c=>b=v/\N m c
def aL.post{a:List Value}(h:aL P f a m K)(b:∀v c,K v c->e v c):aL P f a m e:=h.mono b
def uR.then{a:List Value}(h:uR P f a m v)(d:∀c,N m c->K v c):aL P f a m K:=
 h.mono λ_ _⟨b,e⟩=>b▸d _ e
def O.Qu{t:O}:s.v=t.v<->s=t:=by
 refine⟨λh=>?_,λh=>h▸rfl⟩;cases s<;>cases t<;>simp_all [O.v]
def N.dv(h:N m c)(d:∀b∈l,b<m.size):dR l m c:=λb a=>h.same b (d b a)
def N.lt(h:N m c)(a:b<m.size):b<c.size:=aO a h.size
def N.bZ(h:N m c)(a:Vc.af m b o=some v):Vc.af c b o=Vc.af m b o:=by rw[h.af a,a]
def kV(h:k<n)(a:n<=9223372036854775807):cR ((k:Int)+1)=((k+1:Nat):Int):=by rw[aP V V];rfl
def EB(h:k<n):((n:Int) -((k+1:Nat):Int)).toNat<((n:Int) -(k:Int)).toNat:=V
def fB(g:n<=9223372036854775807){d:(Int->J->Prop)->(Int->J->Nat)->Int->J->Prop}(Q:Nat->J->Prop)(e:Q 0 m)
 (h:∀(k:Nat)(a:J)(I:Int->J->Prop)(μ:Int->J->Nat),k<=n->Q k a->
  (k<n->∀c,Q (k+1) c->I (cR ((k:Int)+1)) c/\μ (cR ((k:Int)+1)) c<μ k a)->d I μ k a):
 ∃(I:Int->J->Prop)(μ:Int->J->Nat),I 0 m/\∀i a,I i a->d I μ i a:=by
 refine⟨λi c=>∃k:Nat,i=k/\k<=n/\Q k c,λi _=>(n -i).toNat,⟨0,rfl,eY _,e⟩,?_⟩
 rintro i a ⟨k,rfl,f,j⟩
 refine h k a _ _ f j λb c l=>?_
 rw[kV b g]
 exact⟨⟨k+1,rfl,b,l⟩,EB b⟩
def dS{σ:Type}(l:n<=9223372036854775807){f:σ}{e:(σ->Int->J->Prop)->(σ->Int->J->Nat)->σ->Int->J->Prop}(Q:Nat->σ->J->Prop)(g:Q 0 f m)
 (h:∀(k:Nat)(s:σ)(a:J)(I:σ->Int->J->Prop)(μ:σ->Int->J->Nat),k<=n->Q k s a->
  (k<n->∀b c,Q (k+1) b c->I b (cR ((k:Int)+1)) c/\μ b (cR ((k:Int)+1)) c<μ s k a)->e I μ s k a):
 ∃(I:σ->Int->J->Prop)(μ:σ->Int->J->Nat),I f 0 m/\∀s i a,I s i a->e I μ s i a:=by
 refine⟨λs i c=>∃k:Nat,i=k/\k<=n/\Q k s c,λ_ i _=>(n -i).toNat,⟨0,rfl,eY _,g⟩,?_⟩
 rintro s i a ⟨k,rfl,j,o⟩
 refine h k s a _ _ j o λd b c p=>?_
 rw[kV d l]
 exact⟨⟨k+1,rfl,d,p⟩,EB d⟩
def dW(P:Program)(f:Nat)(a:List Value)(m:J)(p:Prop):Prop:=aL P f a m λv c=>∃b:Bool,v=.bool b/\(b=true<->p)/\N m c
def dW.then{a:List Value}(h:dW P f a m p)(g:∀(b:Bool) c,(b=true<->p)->N m c->K (.bool b) c):aL P f a m K:=
 h.mono λ_ _⟨b,e,d,i⟩=>e▸g b _ d i
def dW.aK{e:List Value}(i:dW P f e m p)(g:N d m)(q:∀b∈l,b<d.size)
 (o:∀(b:Bool) c,(b=true<->p)->N m c->N d c->K (.bool b) c):aL P f e m λv c=>dR l m c/\K v c:=
 i.mono λ_ _⟨b,n,j,a⟩=>⟨a.dv λh k=>g.lt (q h k),n▸o b _ j a (g.trans a)⟩
def uR.aK{e:List Value}(i:uR P f e m v)(g:N d m)(o:∀b∈l,b<d.size)
 (n:∀c,N m c->N d c->K v c):aL P f e m λv c=>dR l m c/\K v c:=
 i.mono λ_ _⟨k,a⟩=>⟨a.dv λh j=>g.lt (o h j),k▸n _ a (g.trans a)⟩
def aL.aK{a:List Value}(j:aL P f a m K)(o:N d m)(n:∀b∈l,b<d.size)
 (g:∀v c,K v c->N m c/\e v c):aL P f a m λv c=>dR l m c/\e v c:=
 j.mono λv c h=>⟨(g v c h).1.dv λi k=>o.lt (n i k),(g v c h).2⟩
def fF{b:Bool}(h:b=true<->p)(d:N m c):∃a:Bool,Value.bool b=.bool a/\(a=true<->p)/\N m c:=⟨b,rfl,h,d⟩
def cX(h:¬p)(b:N m c):∃a:Bool,Value.bool false=.bool a/\(a=true<->p)/\N m c:=⟨false,rfl,by simp[h],b⟩
def jM(h:p)(b:N m c):∃a:Bool,Value.bool true=.bool a/\(a=true<->p)/\N m c:=⟨true,rfl,by simp[h],b⟩
def nb{b:Bool}(a:b=true<->p)(h:(!b)=true):¬p:=λc=>by simp[a.2 c]at h
def yb{b:Bool}(a:b=true<->p)(h:(!b)=false):p:=a.1 (by simpa using h)
def fb{b:Bool}(a:b=true<->p)(h:b=false):¬p:=λc=>by simp[a.2 c]at h
def cF{α:Type}{l:List α}{x:α}{p:α->Prop}(c:l[k]? =some x)(h:∀y∈l.take k,p y)(b:p x):∀y∈l.take (k+1),p y:=by
 rw[bn c];intro y a;rcases List.mem_append.1 a with a|a
 ·exact h y a
 ·simp at a;subst a;exact b
def dx{α:Type}{l:List α}{p:α->Prop}(a:l.length<=k)(h:∀y∈l.take k,p y):∀y∈l,p y:=by rw[<-cN a];exact h
def av{α:Type}{l:List α}{x:α}(h:l[k]? =some x):x∈l:=fL h
end Go.Vc
end
section
namespace Go.Vc
variable{m:J}{s:O}{k:Nat}
structure bu where
 uP:Int
 to:Int
 cons:List (List Int)
structure Instr where
 op:Int
 dst:Int
 bL:Int
 bH:Int
 args:List Int
 dX:List Int
structure dk where
 params:List Int
 cG:List Int
 aV:Int
 ao:Int
 cJ:List Instr
structure cq where
 aT:List bu
 cB:List dk
def mw(m:J)(a:List Ce)(c:List Int):Prop:=∃f,a=[.s f]/\aq m f c
def hO(m:J)(a:List Ce)(d:bu):Prop:=∃f,a=[.i d.uP,.i d.to,.s f]/\eK m 1 (mw m) f d.cons
def dG(m:J)(b:List Ce)(x:Instr):Prop:=∃a j,b=[.i x.op,.i x.dst,.i x.bL,.i x.bH,.s a,.s j]/\aq m a x.args/\aq m j x.dX
def kJ(m:J)(b:List Ce)(p:dk):Prop:=
 ∃a l c,b=[.s a,.s l,.i p.aV,.i p.ao,.s c]/\aq m a p.params/\aq m l p.cG/\eK m 6 (dG m) c p.cJ
abbrev oH(m:J)(s:O)(l:List (List Int)):Prop:=eK m 1 (mw m) s l
abbrev cr(m:J)(s:O)(l:List bu):Prop:=eK m 3 (hO m) s l
abbrev eS(m:J)(s:O)(l:List Instr):Prop:=eK m 6 (dG m) s l
abbrev iP(m:J)(s:O)(l:List dk):Prop:=eK m 5 (kJ m) s l
structure eV(m:J)(d p:O)(im:cq):Prop where
 aT:cr m d im.aT
 cB:iP m p im.cB
def mw.ext{m b:J}(g:N m b)(a:List Ce)(c:List Int):mw m a c->mw b a c:=λ⟨f,d,e⟩=>⟨f,d,e.ext g⟩
def oH.ext{m b:J}(a:N m b){s:O}{l:List (List Int)}(h:oH m s l):oH b s l:=h.mono a (mw.ext a)
def hO.ext{m b:J}(g:N m b)(a:List Ce)(c:bu):hO m a c->hO b a c:=λ⟨f,d,e⟩=>⟨f,d,oH.ext g e⟩
def cr.ext{m b:J}(a:N m b){s:O}{l:List bu}(h:cr m s l):cr b s l:=h.mono a (hO.ext a)
def dG.ext{m d:J}(b:N m d)(a:List Ce)(c:Instr):dG m a c->dG d a c:=λ⟨e,j,f,g,h⟩=>⟨e,j,f,g.ext b,h.ext b⟩
def eS.ext{m b:J}(a:N m b){s:O}{l:List Instr}(h:eS m s l):eS b s l:=h.mono a (dG.ext a)
def kJ.ext{m d:J}(a:N m d)(b:List Ce)(c:dk):kJ m b c->kJ d b c:=λ⟨e,l,c,f,g,h,i⟩=>⟨e,l,c,f,g.ext a,h.ext a,eS.ext a i⟩
def iP.ext{m b:J}(a:N m b){s:O}{l:List dk}(h:iP m s l):iP b s l:=h.mono a (kJ.ext a)
def eV.ext{m c:J}(a:N m c){d p:O}{b:cq}(h:eV m d p b):eV c d p b:=⟨cr.ext a h.aT,iP.ext a h.cB⟩
def oH.D{l:List (List Int)}(h:oH m s l){x:List Int}(b:l[k]? =some x):
 ∃f,aq m f x/\af m s.E (s.off+k*1)=some (O.v f):=by
 obtain⟨d,⟨f,rfl,a⟩,c⟩:=h.iv k x b
 exact⟨f,a,c 0 (.s f) rfl⟩
def cr.D{l:List bu}(h:cr m s l){x:bu}(c:l[k]? =some x):
 ∃f,oH m f x.cons/\af m s.E (s.off+k*3)=some (vi x.uP)/\af m s.E (s.off+k*3+1)=some (vi x.to)/\af m s.E (s.off+k*3+2)=some (O.v f):=by
 obtain⟨d,⟨f,rfl,b⟩,a⟩:=h.iv k x c
 exact⟨f,b,a 0 (.i x.uP) rfl,a 1 (.i x.to) rfl,a 2 (.s f) rfl⟩
def eS.D{l:List Instr}(h:eS m s l){x:Instr}(e:l[k]? =some x):
 ∃b j,aq m b x.args/\aq m j x.dX/\af m s.E (s.off+k*6)=some (vi x.op)/\af m s.E (s.off+k*6+1)=some (vi x.dst)/\af m s.E (s.off+k*6+2)=some (vi x.bL)/\
  af m s.E (s.off+k*6+3)=some (vi x.bH)/\af m s.E (s.off+k*6+4)=some (O.v b)/\af m s.E (s.off+k*6+5)=some (O.v j):=by
 obtain⟨f,⟨b,j,rfl,c,d⟩,a⟩:=h.iv k x e
 exact⟨b,j,c,d,a 0 (.i x.op) rfl,a 1 (.i x.dst) rfl,a 2 (.i x.bL) rfl,a 3 (.i x.bH) rfl,a 4 (.s b) rfl,a 5 (.s j) rfl⟩
def iP.D{l:List dk}(h:iP m s l){x:dk}(i:l[k]? =some x):
 ∃a b c,aq m a x.params/\aq m b x.cG/\eS m c x.cJ/\af m s.E (s.off+k*5)=some (O.v a)/\af m s.E (s.off+k*5+1)=some (O.v b)/\af m s.E (s.off+k*5+2)=some (vi x.aV)/\
  af m s.E (s.off+k*5+3)=some (vi x.ao)/\af m s.E (s.off+k*5+4)=some (O.v c):=by
 obtain⟨j,⟨a,b,c,rfl,e,f,g⟩,d⟩:=h.iv k x i
 exact⟨a,b,c,e,f,g,d 0 (.s a) rfl,d 1 (.s b) rfl,d 2 (.i x.aV) rfl,d 3 (.i x.ao) rfl,d 4 (.s c) rfl⟩
end Go.Vc
end
section
namespace Go.Vc
variable{h d:J}{g:Nat}{s:O}{a:List Ce}{f:List (List Ce)}
structure ij(h d:J)(g sz:Nat)(s:O)(a:List Ce):Prop where
 len:a.length=s.len*sz
 D:s=.nil\/∃b c tail,s=.mk b 0 s.len c/\h.size<=b/\cx d b g (a++tail)/\(a++tail).length=c*sz/\s.len<=c
def ij.nil(h d:J)(g a:Nat):ij h d g a .nil []:=⟨aJ,Or.inl rfl⟩
def ij.new(e:N h d)(g c:Nat)(a:List Ce)(k:Nat)(b:a.length=k*c):ij h (d.push (.cells (bC a) g)) g c (.mk d.size 0 k k) a:=
 ⟨b,Or.inr ⟨d.size,k,[],rfl,e.size,by rw[dD];exact cx.push _ _ _,by simpa using b,ad _⟩⟩
def ij.congr{h d f:J}{g i:Nat}{s:O}{a:List Ce}(c:ij h d g i s a)(e:f[s.E]? =d[s.E]?):ij h f g i s a:=by
 refine⟨c.len,?_⟩;rcases c.D with b|⟨j,k,tail,b,h2,h3,h4,h5⟩
 ·exact Or.inl b
 ·refine Or.inr ⟨j,k,tail,b,h2,h3.congr ?_,h4,h5⟩;rw[b]at e;exact e
def ij.lt{h d:J}{g e:Nat}{s:O}{a:List Ce}(c:ij h d g e s a):s=.nil\/s.E<d.size:=by
 rcases c.D with b|⟨f,i,tail,b,h2,h3,h4,h5⟩
 ·exact Or.inl b
 ·rw[b];exact Or.inr h3.lt
def ij.ext{e:J}{f:Nat}(b:ij h d g f s a)(i:N d e):ij h e g f s a:=by
 rcases b.lt with c|c
 ·subst c;exact⟨b.len,Or.inl rfl⟩
 ·exact b.congr (i.same _ c)
def ij.ct{e:J}{f:Nat}(c:ij e d g f s a)(k:h.size<=e.size):ij h d g f s a:=by
 refine⟨c.len,?_⟩;rcases c.D with b|⟨i,j,tail,b,h2,h3,h4,h5⟩
 ·exact Or.inl b
 ·exact Or.inr ⟨i,j,tail,b,bX k h2,h3,h4,h5⟩
def ij.E{e:Nat}(c:ij h d g e s a):s=.nil\/h.size<=s.E:=by
 rcases c.D with b|⟨f,i,tail,b,h2,h3,h4,h5⟩
 ·exact Or.inl b
 ·rw[b];exact Or.inr h2
def fZ.KC{b o:Nat}{r:List Ce}(h:fZ d b o (a++r)):fZ d b o a:=λi e c=>h i e (by rw[aw (aD c)];exact c)
def ij.iv{h d:J}{g i:Nat}{s:O}{a:List Ce}(c:ij h d g i s a):fZ d s.E s.off a:=by
 rcases c.D with b|⟨j,e,tail,b,h2,h3,h4,h5⟩
 ·have:a=[]:=List.length_eq_zero_iff.1 (by rw[c.len,b];simp);subst this;intro k e f;simp at f
 ·rw[b];exact h3.iv.KC
def AQ(a b tail:List Ce)(h:b.length<=tail.length):iK (a++tail) a.length b=a++b++tail.drop b.length:=by
 apply iT;intro i;rw[vw];simp only[a8];by_cases c:a.length<=i/\i<a.length+b.length/\i<a.length+tail.length
 ·rw[an c,eW,aF c.1,aw V]
 ·rw[ae c];by_cases d:i<a.length
  ·rw[aw d,eW,aw d]
  ·rw[aF V,eW,aF V,aF V,rj];congr 1;omega
def ij.append{c:List Ce}{w:Nat}{x:O}{i:List Ce}{K:O->J->Prop}(l:ij h d g c.length s a)(q:N h d)
 (t:i.length=x.len*c.length)(F:fZ d x.E x.off i)(u:(s.len+x.len)*w<=140737488355328)
 (v:∀n p,ij h p g c.length n (a++i)->N h p->n.len=s.len+x.len->d.size<=p.size->(∀f,f<d.size->(s≠.nil->f≠s.E)->p[f]? =d[f]?)->((s=.nil/\n=.nil)\/(s≠.nil/\n.E=s.E/\n≠.nil)\/n.E=d.size)->K n p):
 jh d g c w s x K:=by
 refine⟨i,t,F,λD=>?_,λI=>⟨u,a,l.len,l.iv,λk z=>?_⟩⟩
 ·rcases l.D with j|⟨f,k,tail,j,h2,h3,h4,h5⟩
  ·subst j
   have y:x.len=0:=by simpa using D
   have B:i=[]:=List.length_eq_zero_iff.1 (by rw[t,y];simp)
   subst B
   refine⟨λC A=>by simp at A,?_⟩
   exact v .nil _ ⟨by rw[dD];exact l.len,Or.inl rfl⟩ (by simpa[ah]using q) (by simp[y]) (tj (ay _ _ _ _).symm) (λf u _=>by simp[ah]) (Or.inl ⟨rfl,rfl⟩)
  ·have A:=l.len
   have H:s.cap=k:=by rw[j];rfl
   rw[j]
   simp only[O.jH,O.ze,O.jt,cO]
   simp only[a8]at h4
   have C:i.length<=tail.length:=by
    have B:(s.len+x.len)*c.length<=k*c.length:=dp _ V;rw[gq]at B;omega
   refine⟨h3.dZ (by simp only[a8];omega),?_⟩
   have y:=cx.ah (m:=d) (b:=f) (e:=g) (r:=i) (o:=s.len*c.length) h3
   rw[<-A,AQ a i tail C]at y
   refine v _ _ ⟨?_,Or.inr ⟨f,k,tail.drop i.length,rfl,h2,?_,?_,?_⟩⟩ (q.ah h2 _ _) aJ (tj (ay _ _ _ _).symm) (λG _ E=>bt _ _ _ _ ?_) (Or.inr (Or.inl ⟨by rw[j];simp,by rw[j];rfl,aJ⟩))
   ·simp only[a8,O.jt,gq];omega
   ·rw[<-A];exact y
   ·simp only[a8,ZX];omega
   ·simp only[O.jt];omega
   ·have:=E (by rw[j];simp)
    rw[j]at this;exact this
 ·refine v _ _ ⟨?_,Or.inr ⟨d.size,k,nj c (k -(s.len+x.len)),rfl,q.size,cx.push _ _ _,?_,by simpa using z⟩⟩ (q.aN _) aJ aJ (λf u _=>by rw[ms,ae V]) (Or.inr (Or.inr rfl))
  ·simp only[a8,O.jt,gq,l.len,t]
  ·simp only[a8,qM,l.len,t]
   rw[Nat.sub_mul,<-gq]
   have:(s.len+x.len)*c.length<=k*c.length:=dp _ z
   omega
def aq.gQ{a:List Int}(b:ij h d g 1 s (a.map Ce.i))(n:a.length<=9223372036854775807):aq d s a:=by
 have j:s.len=a.length:=by have:=b.len;simp at this;omega
 refine⟨j,?_,V,λl x i=>⟨[.i x],rfl,λk f e=>?_⟩⟩
 ·rcases b.D with c|⟨m,f,tail,c,h2,h3,h4,h5⟩
  ·rw[c];exact ad _
  ·rw[c];exact h5
 ·have c:k=0:=by have:=aD e;simp at this;omega
  subst c;simp at e;subst e;have:=b.iv l (.i x) (by simp[i]);simpa using this
def iy{g:Nat}:∀{f:List (List Ce)}(_:∀a∈f,a.length=g){b:Nat}{a:List Ce}(_:f[b]? =some a){i:Nat}{c:Ce}(_:a[i]? =some c),f.flatten[b*g+i]? =some c
 |[],_,b,a,h,_,_,_=>by simp at h
 |x::f,e,0,a,h,i,c,d=>by
  simp at h;subst h;rw[iU,OZ,cO,aw (aD d)];exact d
 |x::f,e,b+1,a,h,i,c,d=>by
  have k:x.length=g:=e x aX;rw[iU,aF (by rw[k,gq];omega)];have:=iy (f:=f) (λy l=>e y (ai _ l)) (b:=b) (by simpa using h) d;rw[<-this];congr 1;rw[k,gq];omega
def df{b:Nat}:∀{f:List (List Ce)},(∀a∈f,a.length=b)->f.flatten.length=f.length*b
 |[],_=>aJ
 |x::f,a=>by
  rw[iU,a8,df (λy c=>a y (ai _ c)),a x aX,aZ,gq];omega
structure gH{α:Type}(sz:Nat)(R:List Ce->α->Prop)(f:List (List Ce))(a:List α):Prop where
 len:f.length=a.length
 size:∀cs∈f,cs.length=sz
 dz:∀(j:Nat)(cs:List Ce)(x:α),f[j]? =some cs->a[j]? =some x->R cs x
def gH.nil{α:Type}(a:Nat)(R:List Ce->α->Prop):gH a R [] []:=⟨rfl,aJ,aJ⟩
def gH.zp{α:Type}{g:Nat}{R:List Ce->α->Prop}{a:List α}(h:gH g R f a){cs:List Ce}{x:α}(k:cs.length=g)(l:R cs x):gH g R (f++[cs]) (a++[x]):=by
 refine⟨by simp[h.len],λe b=>?_,λj e y b c=>?_⟩
 ·rcases List.mem_append.1 b with b|b
  ·exact h.size e b
  ·simp at b;subst b;exact k
 ·rcases bA j f.length with d|d
  ·rw[aw d]at b;rw[aw (h.len▸d)]at c;exact h.dz j e y b c
  ·rw[aF d]at b;rw[aF (by rw[<-h.len];exact d),<-h.len]at c;have i:j -f.length=0:=by have:=aD b;simp at this;omega
   rw[i]at b c;simp at b c;subst b;subst c;exact l
def gH.mono{α:Type}{d:Nat}{R c:List Ce->α->Prop}{a:List α}(h:gH d R f a)(i:∀b x,R b x->c b x):gH d c f a:=
 ⟨h.len,h.size,λj b x e g=>i _ _ (h.dz j b x e g)⟩
def eK.gQ{α:Type}{e:Nat}{R:List Ce->α->Prop}{a:List α}(i:ij h d g e s f.flatten)(c:gH e R f a)(t:0<e)(v:a.length<=9223372036854775807):eK d e R s a:=by
 have r:s.len=a.length:=by
  have b:=i.len;rw[df c.size]at b;have:=Sw t b;rw[<-this,c.len]
 refine⟨r,?_,V,λj x p=>?_⟩
 ·rcases i.D with b|⟨n,m,tail,b,h2,h3,h4,h5⟩
  ·rw[b];exact ad _
  ·rw[b];exact h5
 ·obtain⟨n,o⟩:=ag (l:=f) (k:=j) (by rw[c.len];exact aD p);refine⟨n,c.dz j n x o p,λu m q=>?_⟩;have:=i.iv (j*e+u) m (iy c.size o q);rwa[<-dQ]at this
end Go.Vc
end
section
namespace Go.Vc
variable{S c:List Nat}{m a d:J}{b o e:Nat}{l:List Ce}{s:O}
def bM(S:List Nat)(m:J):J:=m.mapIdx λb o=>if b∈S then .cells #[] 0 else o
def Le(M a:J):Prop:=∀b o v,af M b o=some v->af a b o=some v
def dV{v:Value}:af (bM S m) b o=some v<->b∉S/\af m b o=some v:=by
 unfold af bM;rw[Array.getElem?_mapIdx];cases h:m[b]? with
 |none=>simp
 |some x=>by_cases a:b∈S<;>simp[a]
def Le.az(m:J):Le m m:=λ_ _ _ h=>h
def Le.trans{a b c:J}(h:Le a b)(k:Le b c):Le a c:=λx o v d=>k x o v (h x o v d)
def N.le(h:N m a):Le m a:=λ_ _ _ b=>h.af b
def bG(S:List Nat)(m:J):Le (bM S m) m:=λ_ _ _ h=>(dV.1 h).2
def oT(h:∀b,b<m.size->b∉S->b∉c/\a[b]? =m[b]?):Le (bM S m) (bM c a):=λb o v i=>by
 obtain⟨e,d⟩:=dV.1 i;obtain⟨f,g⟩:=h b (mB d) e;exact dV.2 ⟨f,by rw[aM g];exact d⟩
def N.bM(h:N m a)(d:∀b∈c,b∈S\/m.size<=b):Le (bM S m) (bM c a):=
 oT λb e g=>⟨λf=>(d b f).elim g λh=>V,h.same b e⟩
def N.cW(h:N m a)(S:List Nat):Le (Vc.bM S m) (Vc.bM S a):=h.bM λ_ b=>Or.inl b
def ji(m:J)(a:∀b∈c,b∈S):Le (bM S m) (bM c m):=(N.az m).bM λb d=>Or.inl (a b d)
def Le.iv{M a:J}(h:Le M a)(e:fZ M b o l):fZ a b o l:=λi c d=>h _ _ _ (e i c d)
def eK.le{α:Type}{d:Nat}{R c:List Ce->α->Prop}{l:List α}(h:eK m d R s l)(j:Le m a)(g:∀b x,R b x->c b x):eK a d c s l:=
 ⟨h.len,h.cap,h.gV,λk x i=>let⟨b,e,f⟩:=h.iv k x i;⟨b,g _ _ e,j.iv f⟩⟩
def aq.le{m a:J}(b:Le m a){s:O}{l:List Int}(h:aq m s l):aq a s l:=eK.le h b λ_ _ h=>h
def mw.le{m a:J}(g:Le m a)(b:List Ce)(c:List Int):mw m b c->mw a b c:=λ⟨f,d,e⟩=>⟨f,d,e.le g⟩
def hO.le{m a:J}(d:Le m a)(b:List Ce)(c:bu):hO m b c->hO a b c:=λ⟨f,e,g⟩=>⟨f,e,eK.le g d (mw.le d)⟩
def cr.le{m a:J}(b:Le m a){s:O}{l:List bu}(h:cr m s l):cr a s l:=eK.le h b (hO.le b)
def Mz(a:b∉S)(h:fZ m b o l):fZ (bM S m) b o l:=λi c d=>dV.2 ⟨a,h i c d⟩
def eK.Px{α:Type}{a:Nat}{R:List Ce->α->Prop}{c:List (List Ce)}{l:List α}(o:∀b∈S,b<d.size)(h:ij d m e a s c.flatten)(q:gH a R c l)(r:0<a)(p:l.length<=9223372036854775807):eK (bM S m) a R s l:=by
 have H:=eK.gQ h q r p;refine⟨H.len,H.cap,H.gV,λt x i=>?_⟩;obtain⟨j,k,n⟩:=H.iv t x i;rcases h.E with f|f
 ·have g:=H.len;have:=aD i;rw[f]at g;simp at g;omega
 ·exact⟨j,k,Mz (λg=>by have:=o _ g;omega) n⟩
def aq.Px{l:List Int}(k:∀b∈S,b<d.size)(h:ij d m e 1 s (l.map Ce.i))(n:l.length<=9223372036854775807):aq (bM S m) s l:=by
 have H:=aq.gQ h n;refine⟨H.len,H.cap,H.gV,λo x f=>?_⟩;obtain⟨g,i,j⟩:=H.iv o x f;rcases h.E with a|a
 ·have c:=H.len;have:=aD f;rw[a]at c;simp at c;omega
 ·exact⟨g,i,Mz (λc=>by have:=k _ c;omega) j⟩
end Go.Vc
end
section
namespace Go.Vc
variable{X Y S:List Nat}{a b c m d:J}{f:List Ce}{s:O}{k:Nat}
structure Fz(X:List Nat)(m d:J):Prop where
 size:m.size<=d.size
 same:∀b,b<m.size->b∉X->d[b]? =m[b]?
def Fz.az(X:List Nat)(m:J):Fz X m m:=⟨ad _,λ_ _ _=>rfl⟩
def Fz.rf(h:Fz X a b)(k:Fz Y b c)(g:∀y∈Y,y∈X\/a.size<=y):Fz X a c:=
 ⟨bX h.size k.size,λi d e=>(k.same i (aO d h.size) λf=>(g i f).elim e λh=>V).trans (h.same i d e)⟩
def Fz.trans(h:Fz X a b)(k:Fz X b c):Fz X a c:=h.rf k λ_ d=>Or.inl d
def N.fz(h:N m d)(X:List Nat):Fz X m d:=⟨h.size,λb a _=>h.same b a⟩
def Fz.then(h:Fz X a b)(k:N b c):Fz X a c:=h.trans (k.fz X)
def Fz.push{X:List Nat}{a m:J}(h:Fz X a m)(o:Obj):Fz X a (m.push o):=h.then (N.push m o)
def Fz.ext(h:Fz [] m d):N m d:=⟨h.size,λb a=>h.same b a aJ⟩
def Fz.CD(h:Fz X m d)(f:∀b∈X,b∈Y\/m.size<=b):Fz Y m d:=⟨h.size,λb a e=>h.same b a λc=>(f b c).elim e λh=>V⟩
def Fz.ah(h:Fz X a m){b:Nat}(c:b∈X\/a.size<=b)(o:Nat)(l:List Ce):Fz X a (ah m b o l):=
 ⟨by rw[ay];exact h.size,λj f d=>by
  have e:j≠b:=λe=>by subst e;exact c.elim d λc=>V
  rw[bt l m b o e];exact h.same j f d⟩
def Fz.bM(h:Fz X m d){a:List Nat}(f:∀b∈X,b∈S)(e:∀b∈a,b∈S\/m.size<=b):Le (bM S m) (bM a d):=
 oT λb g c=>⟨λi=>(e b i).elim c λh=>V,h.same b g λj=>c (f b j)⟩
def Fz.cW(h:Fz X m d)(a:∀b∈X,b∈S):Le (Vc.bM S m) (Vc.bM S d):=h.bM a λ_ h=>Or.inl h
def Fz.dv(h:Fz X m d){l:List Nat}(c:∀b∈l,b<m.size/\b∉X):dR l m d:=λb a=>h.same b (c b a).1 (c b a).2
inductive Ex where
 |mk (op bL:Int) (bD:List Ex)
def Ex.op:Ex->Int| .mk o _ _=>o
def Ex.bL:Ex->Int| .mk _ n _=>n
def Ex.bD:Ex->List Ex| .mk _ _ k=>k
structure KF(β:Type)where
 op:Int
 bL:Int
 bH:Int
 args:List Int
 bD:List β
inductive Bk where
 |mk (ar:List (KF Bk)) (aV:Int)
abbrev cK:=KF Bk
def Bk.ar:Bk->List cK| .mk s _=>s
def Bk.aV:Bk->Int| .mk _ r=>r
@[simp] theorem Ex.Uk (o n:Int) (k:List Ex):(Ex.mk o n k).op=o:=rfl
@[simp] theorem Ex.RZ (o n:Int) (k:List Ex):(Ex.mk o n k).bL=n:=rfl
@[simp] theorem Ex.Qf (o n:Int) (k:List Ex):(Ex.mk o n k).bD=k:=rfl
@[simp] theorem Bk.jq (s:List cK) (r:Int):(Bk.mk s r).ar=s:=rfl
@[simp] theorem Bk.iH (s:List cK) (r:Int):(Bk.mk s r).aV=r:=rfl
inductive AF(m:J):List Ce->Ex->Prop
 |mk (op bL:Int) (bD:List Ex) (s:O) (css:Nat->List Ce) (hl:s.len=bD.length) (hc:s.len<=s.cap) (hm:s.len<=9223372036854775807)
  (hr:∀(k:Nat)(x:Ex),bD[k]? =some x->fZ m s.E (s.off+k*3) (css k)) (hk:∀(k:Nat)(x:Ex),bD[k]? =some x->AF m (css k) x):AF m [.i op,.i bL,.s s] (.mk op bL bD)
inductive qO(m:J):List Ce->Bk->Prop
 |mk (ar:List (KF Bk)) (r:Int) (s:O) (hl:s.len=ar.length) (hc:s.len<=s.cap) (hm:s.len<=9223372036854775807) (aa ks:Nat->O) (kcs:Nat->Nat->List Ce)
  (hr:∀(k:Nat)(x:KF Bk),ar[k]? =some x->fZ m s.E (s.off+k*5) [.i x.op,.i x.bL,.i x.bH,.s (aa k),.s (ks k)]/\aq m (aa k) x.args/\(ks k).len=x.bD.length/\(ks k).len<=(ks k).cap/\(ks k).len<=9223372036854775807)
  (hb:∀(k:Nat)(x:KF Bk)(j:Nat)(b:Bk),ar[k]? =some x->x.bD[j]? =some b->fZ m (ks k).E ((ks k).off+j*2) (kcs k j))
  (hk:∀(k:Nat)(x:KF Bk)(j:Nat)(b:Bk),ar[k]? =some x->x.bD[j]? =some b->qO m (kcs k j) b):qO m [.s s,.i r] (.mk ar r)
def gG(m:J)(f:List Ce)(x:cK):Prop:=∃a k,f=[.i x.op,.i x.bL,.i x.bH,.s a,.s k]/\aq m a x.args/\eK m 2 (qO m) k x.bD
abbrev fe(m:J)(s:O)(l:List Ex):Prop:=eK m 3 (AF m) s l
abbrev eD(m:J)(s:O)(l:List cK):Prop:=eK m 5 (gG m) s l
abbrev np(m:J)(s:O)(l:List Bk):Prop:=eK m 2 (qO m) s l
def AF.le(h:Le m d){e:Ex}(a:AF m f e):AF d f e:=by
 induction a with
 |mk n bL bD s b g c i a o l=>exact .mk n bL bD s b g c i (λk x j=>h.iv (a k x j)) l
def qO.le{m d:J}(h:Le m d){f:List Ce}{b:Bk}(a:qO m f b):qO d f b:=by
 induction a with
 |mk ar t s o n p e ks r a l u q=>
  exact .mk ar t s o n p e ks r (λk x c=>let⟨g,i,j⟩:=a k x c;⟨h.iv g,i.le h,j⟩) (λk x j b c g=>h.iv (l k x j b c g)) q
def eK.choose{α:Type}{m:J}{a:Nat}{R:List Ce->α->Prop}{s:O}{l:List α}(h:eK m a R s l):
 ∃b:Nat->List Ce,∀(k:Nat)(x:α),l[k]? =some x->R (b k) x/\fZ m s.E (s.off+k*a) (b k):=by
 have:∀k:Nat,∃f:List Ce,∀x:α,l[k]? =some x->R f x/\fZ m s.E (s.off+k*a) f:=λk=>by
  cases e:l[k]? with
  |none=>exact⟨[],λx c=>by simp at c⟩
  |some x=>obtain⟨f,d⟩:=h.iv k x e;exact⟨f,λy c=>by simp at c;exact c▸d⟩
 exact⟨λk=>Classical.choose (this k),λk=>dU (this k)⟩
def AF.bd{e:Ex}(h:AF m f e):∃s,f=[.i e.op,.i e.bL,.s s]/\fe m s e.bD:=by
 cases h with
 |mk l bL bD s b g c i j d=>exact⟨s,rfl,g,c,i,λk x a=>⟨b k,d k x a,j k x a⟩⟩
def AF.of{b bL:Int}{bD:List Ex}(h:fe m s bD):AF m [.i b,.i bL,.s s] (.mk b bL bD):=by
 obtain⟨d,c⟩:=h.choose;exact .mk b bL bD s d h.len h.cap h.gV (λk x a=>(c k x a).2) λk x a=>(c k x a).1
def qO.bd{b:Bk}(h:qO m f b):∃s,f=[.s s,.i b.aV]/\eD m s b.ar:=by
 cases h with
 |mk ar w s r p t d ks v u o q=>
  exact⟨s,rfl,r,p,t,λk x a=>let⟨e,g,i,l,n⟩:=u k x a;⟨_,⟨d k,ks k,rfl,g,i,l,n,λj b c=>⟨v k j,q k x j b a c,o k x j b a c⟩⟩,e⟩⟩
def qO.of{r:Int}{ar:List cK}(h:eD m s ar):qO m [.s s,.i r] (.mk ar r):=by
 obtain⟨n,l⟩:=h.choose;have:∀k:Nat,∃(a c:O)(kc:Nat->List Ce),∀x:cK,ar[k]? =some x->n k=[.i x.op,.i x.bL,.i x.bH,.s a,.s c]/\aq m a x.args/\(c.len=x.bD.length/\c.len<=c.cap/\c.len<=9223372036854775807)/\
  ∀(j:Nat)(b:Bk),x.bD[j]? =some b->qO m (kc j) b/\fZ m c.E (c.off+j*2) (kc j):=λk=>by
  cases o:ar[k]? with
  |none=>exact⟨.nil,.nil,λ_=>[],λx d=>by simp at d⟩
  |some x=>
   obtain⟨⟨a,c,f,g,e⟩,_⟩:=l k x o
   obtain⟨kc,p⟩:=e.choose
   exact⟨a,c,kc,λy i=>by simp at i;subst i;exact⟨f,g,⟨e.len,e.cap,e.gV⟩,p⟩⟩
 have H:=λk=>dU (dU (dU (this k)));refine .mk ar r s h.len h.cap h.gV (λk=>Classical.choose (this k)) (λk=>Classical.choose (dU (this k))) (λk=>Classical.choose (dU (dU (this k)))) (λk x d=>?_) (λk x j b d i=>?_) λk x j b d i=>?_
 ·obtain⟨f,g,e,_⟩:=H k x d;exact⟨by rw[<-f];exact(l k x d).2,g,e⟩
 ·exact((H k x d).2.2.2 j b i).2
 ·exact((H k x d).2.2.2 j b i).1
def gG.le{m d:J}(h:Le m d){f:List Ce}{x:cK}:gG m f x->gG d f x:=λ⟨a,k,b,c,e⟩=>⟨a,k,b,c.le h,eK.le e h λ_ _=>qO.le h⟩
def fe.le{m d:J}(a:Le m d){s:O}{l:List Ex}(h:fe m s l):fe d s l:=eK.le h a λ_ _=>AF.le a
def eD.le{m d:J}(a:Le m d){s:O}{l:List cK}(h:eD m s l):eD d s l:=eK.le h a λ_ _=>gG.le a
def np.le{m d:J}(a:Le m d){s:O}{l:List Bk}(h:np m s l):np d s l:=eK.le h a λ_ _=>qO.le a
def fe.D{l:List Ex}(h:fe m s l){x:Ex}(b:l[k]? =some x):
 ∃t,fe m t x.bD/\af m s.E (s.off+k*3)=some (vi x.op)/\af m s.E (s.off+k*3+1)=some (vi x.bL)/\af m s.E (s.off+k*3+2)=some (O.v t):=by
 obtain⟨f,d,a⟩:=h.iv k x b
 obtain⟨t,rfl,c⟩:=d.bd
 exact⟨t,c,a 0 _ rfl,a 1 _ rfl,a 2 _ rfl⟩
def eD.D{l:List cK}(h:eD m s l){x:cK}(e:l[k]? =some x):
 ∃a t,aq m a x.args/\np m t x.bD/\af m s.E (s.off+k*5)=some (vi x.op)/\af m s.E (s.off+k*5+1)=some (vi x.bL)/\af m s.E (s.off+k*5+2)=some (vi x.bH)/\af m s.E (s.off+k*5+3)=some (O.v a)/\af m s.E (s.off+k*5+4)=some (O.v t):=by
 obtain⟨f,⟨a,t,rfl,c,d⟩,b⟩:=h.iv k x e
 exact⟨a,t,c,d,b 0 _ rfl,b 1 _ rfl,b 2 _ rfl,b 3 _ rfl,b 4 _ rfl⟩
def np.D{l:List Bk}(h:np m s l){x:Bk}(b:l[k]? =some x):
 ∃t,eD m t x.ar/\af m s.E (s.off+k*2)=some (O.v t)/\af m s.E (s.off+k*2+1)=some (vi x.aV):=by
 obtain⟨f,d,a⟩:=h.iv k x b
 obtain⟨t,rfl,c⟩:=d.bd
 exact⟨t,c,a 0 _ rfl,a 1 _ rfl⟩
def Bk.w:Bk->Nat
 | .mk ar _=>1+(ar.map λs=>1+s.args.length+(s.bD.map Bk.w).sum).sum
decreasing_by
 rename_i s a _ _
 have b:=nZ a
 have c:=nZ (by assumption:_∈s.bD)
 have d:SizeOf.sizeOf s.bD<SizeOf.sizeOf s:=by cases s;simp;omega
 simp;omega
def KF.w(s:KF Bk):Nat:=1+s.args.length+(s.bD.map Bk.w).sum
def Bk.Xq(b:Bk):b.w=1+(b.ar.map KF.w).sum:=by
 cases b;rw[Bk.w];rfl
def Ex.n:Ex->Nat
 | .mk _ _ bD=>1+(bD.map Ex.n).sum
end Go.Vc
end
section
namespace Go.Vc
variable{S Y S' X:List Nat}{d a c:J}{b k n h tb:Nat}{s x:O}{g cs i:List Ce}{f:List (List Ce)}{K:O->J->Prop}
structure nM{α:Type}(sz:Nat)(R:J->List Ce->α->Prop):Prop where
 le:∀{M M':J}{cs:List Ce}{x:α},Le M M'->R M cs x->R M' cs x
 len:∀{M:J}{cs:List Ce}{x:α},R M cs x->cs.length=sz
def tq(_:J)(cs:List Ce)(n:Int):Prop:=SL cs n
def tq.mono:nM 1 tq:=⟨λ_ h=>h,λh=>by rw[h];rfl⟩
def AF.mono:nM 3 AF:=⟨λh=>AF.le h,λh=>by obtain⟨s,rfl,_⟩:=h.bd;rfl⟩
def qO.mono:nM 2 qO:=⟨λh=>qO.le h,λh=>by obtain⟨s,rfl,_⟩:=h.bd;rfl⟩
def gG.mono:nM 5 gG:=⟨λh=>gG.le h,λh=>by obtain⟨_,_,rfl,_⟩:=h;rfl⟩
structure Gr{α:Type}(S:List Nat)(d a:J)(b sz:Nat)(R:J->List Ce->α->Prop)(s:O)(l:List α):Prop where
 iu:s≠.nil
 aQ:∃f,ij d a b sz s f.flatten/\gH sz (R (bM (s.E::S) a)) f l
def Gr.len{α:Type}{S:List Nat}{d a:J}{b e:Nat}{R:J->List Ce->α->Prop}{s:O}{l:List α}(h:Gr S d a b e R s l)(i:0<e):s.len=l.length:=by
 obtain⟨_,f,g,c⟩:=h;have:=g.len;rw[df c.size]at this;rw[<-c.len,Sw i this]
def Gr.be{α:Type}{g:Nat}{R:J->List Ce->α->Prop}{l:List α}(h:Gr S d a b g R s l):d.size<=s.E/\s.E<a.size:=by
 obtain⟨c,f,e,i⟩:=h;exact⟨e.E.resolve_left c,e.lt.resolve_left c⟩
def Gr.new{α:Type}(S:List Nat){d a:J}(h:d.size<=a.size)(b c:Nat)(R:J->List Ce->α->Prop):Gr S d (a.push (.cells (bC []) b)) b c R (.mk a.size 0 0 0) []:=
 ⟨aJ,[],(ij.new (N.az a) b c [] 0 aJ).ct h,gH.nil _ _⟩
def Gr.dO{α:Type}{g:Nat}{R:J->List Ce->α->Prop}{l:List α}(o:nM g R)(h:Gr S d a b g R s l)(j:Fz Y a c)(i:∀e∈Y,e∈S/\e<d.size):Gr S d c b g R s l:=by
 have q:=h.be;obtain⟨k,f,m,n⟩:=h;refine⟨k,f,m.congr (j.same _ q.2 λp=>by have:=(i _ p).2;omega),n.mono λcs x=>o.le ?_⟩;exact j.cW λe p=>ai _ (i e p).1
def Gr.Ly{α:Type}{g:Nat}{R:J->List Ce->α->Prop}{l:List α}(n:nM g R)(h:Gr S d a b g R s l)(i:Fz Y a c)(o:∀e∈Y,e∈S)(q:s.E∉Y):Gr S d c b g R s l:=by
 have r:=h.be;obtain⟨j,f,k,m⟩:=h;exact⟨j,f,k.congr (i.same _ r.2 q),m.mono λcs x=>n.le (i.cW λe p=>ai _ (o e p))⟩
def Gr.re{α:Type}{h:Nat}{R:J->List Ce->α->Prop}{l:List α}(o:nM h R)(i:Gr S d a b h R s l)(j:Fz Y a c)(q:∀e∈Y,e∈S)(r:s.E∉Y)(p:∀e∈S',e∈S\/a.size<=e):Gr S' d c b h R s l:=by
 have t:=i.be;obtain⟨k,f,m,n⟩:=i;refine⟨k,f,m.congr (j.same _ t.2 r),n.mono λcs x=>o.le (j.bM (λe g=>ai _ (q e g)) λe g=>?_)⟩;rcases List.mem_cons.1 g with g|g
 ·exact Or.inl (by rw[g];exact aX)
 ·exact(p e g).imp (ai _) id
def Gr.ext{α:Type}{e:Nat}{R:J->List Ce->α->Prop}{l:List α}(f:nM e R)(h:Gr S d a b e R s l)(g:N a c):Gr S d c b e R s l:=
 h.dO f (g.fz []) aJ
def Gr.done{α:Type}{c:Nat}{R:J->List Ce->α->Prop}{l:List α}(j:nM c R)(h:Gr S d a b c R s l)(k:∀e∈S,e<d.size)(o:0<c)(n:l.length<=9223372036854775807):eK (bM S a) c (R (bM S a)) s l:=by
 obtain⟨_,f,g,i⟩:=h;exact eK.Px k g (i.mono λcs x=>j.le (ji a λe m=>ai _ m)) o n
def N.KC(h:k<=a.size):N (a.extract 0 k) a:=by
 refine⟨bR,λb c=>?_⟩;have d:b<k:=by simp at c;omega
 rw[Array.getElem?_extract];simp;omega
def nC(h:k<=a.size):(a.extract 0 k).size=k:=bR
def Gr.next{α:Type}{E:Nat}{R:J->List Ce->α->Prop}{C D:List α}(F:nM g.length R)(W:0<g.length)
 (y:Gr S d a b g.length R s C)(G:Fz X d a)(u:x.len=f.length)(T:fZ a x.E x.off f.flatten)(n:gH g.length (R (bM (s.E::S) a)) f D)(i:(C.length+D.length)*E<=140737488355328)
 (P:∀r c,Gr S d c b g.length R r (C++D)->Fz X d c->(a.size<=c.size/\(r.E=s.E\/a.size<=r.E))->(∀e,e<a.size->e≠s.E->c[e]? =a[e]?)->K r c):jh a b g E s x K:=by
 have Q:=y.len W
 have hy:=y.be
 obtain⟨z,w,O,j⟩:=y
 have q:d.size<=a.size:=G.size
 refine ij.append (h:=a.extract 0 d.size) (c:=g) (i:=f.flatten) (a:=w.flatten) (O.ct (by rw[nC q];exact ad _)) (N.KC q) ?_ T (by rw[Q,u,n.len];exact i) λr c Y k2 k3 Z k5 B=>?_
 ·rw[df n.size,u]
 have A:∀e,e<a.size->e≠s.E->c[e]? =a[e]? :=λe i k=>k5 e i λ_=>k
 have U:r≠.nil:=by
  rcases B with⟨h,_⟩|⟨_,_,h⟩|h
  ·exact absurd h z
  ·exact h
  ·intro b;rw[b]at h;simp at h;omega
 have I:a.size<=c.size:=Z
 have H:Le (bM (s.E::S) a) (bM (r.E::S) c):=oT λe i k=>by
  simp only[aU,tn]at k;refine⟨?_,A e i k.1⟩;simp only[aU,tn];refine⟨?_,k.2⟩;rcases B with⟨h,_⟩|⟨_,h,_⟩|h
  ·exact absurd h z
  ·rw[h];exact k.1
  ·omega
 refine P r c ⟨U,w++f,?_,?_⟩ ⟨bX q I,λe i u=>?_⟩ ⟨I,?_⟩ A
 ·rw[xF]
  exact Y.ct (by rw[nC q];exact ad _)
 ·refine⟨by simp[j.len,n.len],λm o=>?_,λL m M t v=>?_⟩
  ·rcases List.mem_append.1 o with o|o
   ·exact j.size m o
   ·exact n.size m o
  ·rcases bA L w.length with p|p
   ·rw[aw p]at t
    rw[aw (j.len▸p)]at v
    exact F.le H (j.dz L m M t v)
   ·rw[aF p]at t
    rw[aF (by rw[<-j.len];exact p),<-j.len]at v
    exact F.le H (n.dz _ m M t v)
 ·rw[A e (aO i q) V];exact G.same e i u
 ·rcases B with⟨h,_⟩|⟨_,h,_⟩|h
  ·exact absurd h z
  ·exact Or.inl h
  ·exact Or.inr V
def Gr.jY{α:Type}{n:Nat}{R:J->List Ce->α->Prop}{m:List α}{k:α}(i:nM g.length R)(z:0<g.length)
 (q:Gr S d a b g.length R s m)(w:Fz X d a)(p:R (bM (s.E::S) a) cs k)(j:(m.length+1)*n<=140737488355328)
 (x:∀r c,Gr S d c b g.length R r (m++[k])->Fz X d c->(a.size<=c.size/\(r.E=s.E\/a.size<=r.E))->(∀f,f<a.size->f≠s.E->c[f]? =a[f]?)->K r c):jh (a.push (.cells (bC cs) b)) b g n s (.mk a.size 0 1 1) K:=by
 have h:=N.push a (.cells (bC cs) b)
 refine Gr.next (f:=[cs]) (D:=[k]) i z (q.ext i h) (w.then h) rfl ?_ ?_ j λr c t u o v=>x r c t u ⟨bX h.size o.1,o.2.imp id (bX h.size)⟩ λf j y=>(v f (aO j h.size) y).trans (h.same f j)
 ·have:=(cx.push a (e:=b) (l:=cs)).iv
  simpa using this
 ·have:=gH.zp (gH.nil g.length (R (bM (s.E::S) (a.push (.cells (bC cs) b))))) (i.len p) (i.le (h.cW _) p)
  simpa using this
def eK.Um{α:Type}{b:Nat}{R:List Ce->α->Prop}{g:List α}(B:∀cs x,R cs x->cs.length=b)(u:eK a b R s g):
 ∃f,s.len=f.length/\fZ a s.E s.off f.flatten/\gH b R f g:=by
 obtain⟨e,n⟩:=u.choose
 have z:∀(c:Nat)(cs:List Ce),((List.range g.length).map e)[c]? =some cs->c<g.length/\cs=e c:=λc cs d=>by
  simp only[cU,iW]at d;obtain⟨G,q,D⟩:=d;obtain⟨v,w⟩:=List.getElem?_eq_some_iff.1 q;simp at v w;subst w;exact⟨v,D.symm⟩
 have o:∀cs∈(List.range g.length).map e,cs.length=b:=λcs F=>by
  obtain⟨c,d⟩:=List.mem_iff_getElem?.1 F;obtain⟨q,rfl⟩:=z c cs d;obtain⟨x,m⟩:=ag q;exact B _ _ (n c x m).1
 refine⟨(List.range g.length).map e,by simp[u.len],λi C t=>?_,aJ,o,λc cs x d m=>?_⟩
 ·rcases kX b with p|p
  ·have h:=aD t
   rw[df o,p]at h;simp at h
  have h:=aD t
  rw[df o]at h
  simp at h
  have d:i/b<g.length:=Nat.div_lt_of_lt_mul (by rw[Nat.mul_comm];exact h)
  obtain⟨x,m⟩:=ag d
  have A:i=i/b*b+i%b:=by rw[Nat.mul_comm];exact(Nat.div_add_mod i b).symm
  have J:=Nat.mod_lt i p
  have I:(e (i/b)).length=b:=B _ _ (n _ x m).1
  obtain⟨H,y⟩:=ag (l:=e (i/b)) (k:=i%b) V
  have r:=iy (f:=(List.range g.length).map e) o (b:=i/b) (a:=e (i/b)) (by simp[d]) y
  rw[<-A,t]at r
  simp at r;subst r
  have E:=(n _ x m).2 _ C y
  rw[A,<-dQ];exact E
 ·obtain⟨_,rfl⟩:=z c cs d
  exact(n c x m).1
def Gr.all{α:Type}{j:Nat}{R:J->List Ce->α->Prop}{l i:List α}(k:nM g.length R)(v:0<g.length)
 (h:Gr S d a b g.length R s l)(t:Fz X d a)(p:eK (bM (s.E::S) a) g.length (R (bM (s.E::S) a)) x i)(q:(l.length+i.length)*j<=140737488355328)
 (u:∀r c,Gr S d c b g.length R r (l++i)->Fz X d c->(a.size<=c.size/\(r.E=s.E\/a.size<=r.E))->(∀e,e<a.size->e≠s.E->c[e]? =a[e]?)->K r c):jh a b g j s x K:=by
 obtain⟨f,m,n,o⟩:=p.Um λ_ _ h=>k.len h
 exact Gr.next k v h t m ((bG _ _).iv n) o q u
def Gr.lit{α:Type}{e:Nat}{R:J->List Ce->α->Prop}{l:List α}(j:nM e R)(i:d.size<=a.size)(p:∀g∈S,g<d.size)(k:cs=f.flatten)(m:n=f.length)(h:gH e (R (bM S a)) f l):
 Gr S d (a.push (.cells (bC cs) b)) b e R (.mk a.size 0 n n) l:=by
 subst k m
 refine⟨aJ,f,(ij.new (N.az a) b e f.flatten f.length (df h.size)).ct i,h.mono λo x=>j.le ?_⟩
 exact(N.push a _).bM λg c=>by
  rcases List.mem_cons.1 c with c|c
  ·exact Or.inr (by simp[c])
  ·exact Or.inl c
def Gr.ns{α:Type}{c:Nat}{R:J->List Ce->α->Prop}{l:List α}(m:nM c R)(h:Gr S d a b c R s l)(n:s.E∉S)(q:0<c)(p:l.length<=9223372036854775807):eK (bM S a) c (R (bM S a)) s l:=by
 obtain⟨_,f,e,g⟩:=h;have H:=eK.gQ e (g.mono λcs x=>m.le (ji a λj i=>ai s.E i)) q p;exact⟨H.len,H.cap,H.gV,λk x o=>let⟨cs,i,j⟩:=H.iv k x o;⟨cs,i,Mz n j⟩⟩
def Gr.ne{α:Type}{p:Nat}{R:J->List Ce->α->Prop}{o:List α}(k:Gr S d a b p R s o)(g:cx a h tb i)(n:tb≠b):s.E≠h:=by
 obtain⟨l,f,m,w⟩:=k;obtain⟨q,r,tail,j,t,c,u,v⟩:=m.D.resolve_left l;intro e;rw[j]at e;simp only[O.jH]at e;subst e;unfold cx at g c;rw[g]at c;simp at c;exact n c.2
def Gr.JJ{α β:Type}{q:J}{r c t:Nat}{R:J->List Ce->α->Prop}{g:J->List Ce->β->Prop}{e:O}{o:List α}{p:List β}(j:Gr S d a b r R s o)(k:Gr S' q a c t g e p)(n:c≠b):s.E≠e.E:=by
 obtain⟨l,f,m,z⟩:=k;obtain⟨u,v,tail,h,w,i,x,y⟩:=m.D.resolve_left l;have:=j.ne i n;rw[h];exact this
def Gr.box{α:Type}{L:List Nat}{j y:Nat}{R:J->List Ce->α->Prop}{u:List α}{w:α}{K:J->Prop}(B:nM g.length R)(W:0<g.length)
 (o:Gr S d a b g.length R s u)(C:Fz X d a)(P:R (bM (s.E::S) a) cs w)(k:(u.length+1)*y<=140737488355328)
 (p:cx a h tb i)(hi:j<i.length)(F:tb≠b)(t:d.size<=h/\h∈S)(A:∀e∈L,e<a.size/\e≠h/\e≠s.E)
 (Q:∀r c,Gr S d c b g.length R r (u++[w])->cx c h tb (iK i j [.s r])->Fz X d c->a.size<=c.size->(∀e,e<a.size->e≠s.E->e≠h->c[e]? =a[e]?)->K c):
 af (a.push (.cells (bC cs) b)) h j=af a h j/\
 jh (a.push (.cells (bC cs) b)) b g y s (.mk a.size 0 1 1) λr c=>dR L (a.push (.cells (bC cs) b)) c/\dZ c h j 1/\(dR L c (ah c h j [.s r])/\K (ah c h j [.s r])):=by
 have D:=p.lt
 have T:=o.ne p F
 have G:=N.push a (.cells (bC cs) b)
 have hy:=o.be
 refine⟨aM (G.same h D) j,Gr.jY B W o C P k λr c z H Y v=>?_⟩
 have q:cx c h tb i:=p.congr (v h D (km T))
 have U:=z.ne q F
 have n:∀e,e≠h->(ah c h j [.s r])[e]? =c[e]? :=λe k=>bt _ _ _ _ k
 have aa:=C.size
 have Z:=t.1
 refine⟨λe k=>?_,q.dZ V,λe k=>n e (A e k).2.1,Q r _ ?_ (cx.ah (m:=c) q) (H.ah (Or.inr t.1) _ _) (by rw[ay];exact Y.1) λe l M O=>(n e O).trans (v e l M)⟩
 ·have l:=A e k
  rw[v e l.1 l.2.2,G.same e l.1]
 ·obtain⟨I,f,g1,g2⟩:=z
  refine⟨I,f,g1.congr (n _ U),g2.mono λcs x=>B.le ?_⟩
  exact oT λe k E=>⟨E,n e λb=>E (by rw[b];exact ai _ t.2)⟩
def aq.lit(b:Nat)(l:List Int)(d:∀c∈S,c<a.size)(c:cs=l.map Ce.i)(f:n=l.length)(e:l.length<=9223372036854775807):aq (bM S (a.push (.cells (bC cs) b))) (.mk a.size 0 n n) l:=by
 subst c f;have h:=ij.new (N.az a) b 1 (l.map Ce.i) l.length aJ;exact aq.Px d h e
end Go.Vc
end
