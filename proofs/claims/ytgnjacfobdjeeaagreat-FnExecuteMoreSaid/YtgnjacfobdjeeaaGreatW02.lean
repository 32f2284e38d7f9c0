/- Part of a proof, joined by a program. -/
import Derived.Test.YtgnjacfobdjeeaaGreatProg
import Derived.Test.YtgnjacfobdjeeaaGreatW01
set_option linter.unusedVariables false
set_option linter.unusedSimpArgs false
set_option linter.defProp false
set_option linter.constructorNameAsVariable false
set_option maxHeartbeats 8000000
set_option maxRecDepth 100000
section
namespace Go.Vc
variable{x y:Operand}{k:SV->Prop}{l h:List Ce}{f:Int->Prop}{r:List Sh}{a:Int}{g:Array (Nat×Operand)}{e:List Oper}{Q:Exit->Fr->I->Prop}{c:Code}
section
variable{P:Program}{T:TT}{G:List Nat}{n:Nat}{A:Od}{m q:I}{p u:Fr}{b o j i t:Nat}{s:Sh}{d:Option Nat}{v:Value}
def nc(n:Nat):Int:=n
def nce{n:Nat}:nc n=n:=rfl
def UT:Se T p .len [t] [x] k=match fA T t,ev p x with
 |some ⟨.slice _,_,_⟩,.c (.s s)=>k (.c (.i (nc s.len)))
 |_,_=>False:=rfl
def UU{l:List Nat}:Se T p .max l [x,y] k=match ev p x,ev p y with
 | .c (.i a),.c (.i b)=>k (.c (.i (if b>a then b else a)))
 |_,_=>False:=rfl
def UW{l:List Nat}:Se T p .min l [x,y] k=match ev p x,ev p y with
 | .c (.i a),.c (.i b)=>k (.c (.i (if b<a then b else a)))
 |_,_=>False:=rfl
def QY(m:I)(k:I->Prop):NE m k=(let q:=m;k q):=rfl
def pa{α:Type}(x:α)(f:α->Prop):Prop:=f x
def RI(s:Sh)(f:s.ty->Prop):Prop:=∃x,f x
def TM(s:Sh)(f:s.ty->Prop):Prop:=∀x,f x
def exI:RI .I f=∃x,pa x f:=rfl
def exU{k:IntKind}:RI (.U k) f=∃x,pa x f:=rfl
def exB{f:Bool->Prop}:RI .T f=∃x,pa x f:=rfl
def Xs{f:O->Prop}:RI .S f=∃x,pa x f:=rfl
def exP{f:Nat×Nat->Prop}:RI .P f=∃x,pa x f:=rfl
def exF{f:Fn×Array Value×Array Value->Prop}:RI .F f=∃x,pa x f:=rfl
def exM{f:Nat->Prop}:RI .M f=∃x,pa x f:=rfl
def Z9:TM .I f=∀x,f x:=rfl
def alU{k:IntKind}:TM (.U k) f=∀x,f x:=rfl
def Z7{f:Bool->Prop}:TM .T f=∀x,f x:=rfl
def Xc{f:O->Prop}:TM .S f=∀x,f x:=rfl
def alP{f:Nat×Nat->Prop}:TM .P f=∀x,f x:=rfl
def Z8{f:Fn×Array Value×Array Value->Prop}:TM .F f=∀x,f x:=rfl
def alM{f:Nat->Prop}:TM .M f=∀x,f x:=rfl
def cU8{x:Int}:kA (.int .u8 x)=some (.u .u8 x):=rfl
def z0:ni h 0=[]:=rfl
def z1:ni h (n+1)=h++ni h n:=rfl
def tb{a b:Nat}:Nat.testBit a b=(1&&&(a>>>b)!=0):=rfl
def UO{e:Edge}{a:List Edge}:lj (e::a)=bif Region.binds .any e then 2^e.on|||lj a else lj a:=rfl
def b1:Region.binds .any ⟨i,.data⟩=true:=rfl
def b2:Region.binds .any ⟨i,.chain⟩=true:=rfl
def b3:Region.binds .any ⟨i,.guard⟩=true:=rfl
def b4:Region.binds .any ⟨i,.phase⟩=true:=rfl
def b5{x:Departure}:Region.binds .any ⟨i,.gcOnly x⟩=false:=rfl
def b6{x:Departure}:Region.binds .any ⟨i,.textOnly x⟩=false:=rfl
def QU(c:Ce)(k:List Ce->Prop)(l:List Ce):Prop:=k (c::l)
def Ud(k:SV->Prop)(l:List Ce):Prop:=k (.agg l)
def ZI(m:I)(b o j:Nat)(s:Sh)(r:List Sh)(k:List Ce->Prop)(x:s.ty):Prop:=
 af m b (bif j==0 then o else o+j)=some (s.mk x).v/\Ve m b o (j+1) r (QU (s.mk x) k)
def Xn{k:List Ce->Prop}:Ve m b o j (s::r) k=RI s (ZI m b o j s r k):=by
 cases j<;>rfl
def ZH(m:I)(b o:Nat)(s:Sh)(k:SV->Prop)(x:s.ty):Prop:=af m b o=some (s.mk x).v/\k (.c (s.mk x))
def Sv{t:Nat}:O0 T m t b o k=match fA T t with
 |some ⟨.struct _,a,_⟩=>Ve m b o 0 a (Ud k)
 |some ⟨.cell,[s],_⟩=>RI s (ZH m b o s k)
 |some ⟨.slice _,[_],_⟩=>∃x:O,af m b o=some x.v/\k (.c (.s x))
 |_=>False:=rfl
def ile{b:Int}:Int.le a b=(a<=b):=rfl
def ZG(s:O)(z:Nat)(l:Int)(k:SV->Prop)(h:Int):Prop:=Int.le 0 l/\Int.le l h/\Int.le h (nc s.cap)/\k (.c (.s (s.cut l.toNat h.toNat z)))
def ZJ(p:Fr)(a:Option Operand)(s:O)(z:Nat)(k:SV->Prop)(l:Int):Prop:=LQ p a (nc s.len) (ZG s z l k)
def Xl{f:Nat}{mk:Nat->SV}:EW T t f o mk k=match fA T t with
 |some ⟨.struct c,_,_⟩=>match Hb c f with
  |some (a,u)=>match fA T u with
   |some b=>bif b.ui||Nat.beq b.sh.length 0 then False else bif a==0 then k (mk o)else k (mk (o+a))
   |none=>False
  |none=>False
 |_=>False:=by
 have h:∀a,(bif a==0 then k (mk o)else k (mk (o+a)))=k (mk (o+a)):=λa=>by cases a<;>rfl
 simp only[h];rfl
def US{s:O}{n:Int}:Wh T t s n k=match fA T t with
 |some ⟨.slice e,_,_⟩=>match fA T e with
  |some a=>bif a.ui then False else Int.le 0 n/\n<nc s.len/\k (.c (.p s.F (s.off+n.toNat*a.sh.length)))
  |none=>False
 |_=>False:=rfl
def QO{s:O}{b a:Option Operand}:Qs T p t s b a k=match fA T t with
 |some ⟨.slice e,_,_⟩=>match fA T e with
  |some c=>bif c.ui then False else LQ p b 0 (ZJ p a s c.sh.length k)
  |none=>False
 |_=>False:=rfl
def QL:rd T p m k (.build t g)=match fA T t with
 |some ⟨.struct a,b,_⟩=>bif uR T a then EP T p a (b.map Sh.zero) g.toList (Ud k)else False
 |_=>False:=rfl
def ZN(s:Sh)(r:List Sh)(k:List Ce->Prop)(x:s.ty):Prop:=Tx r (QU (s.mk x) k)
def UQ{k:List Ce->Prop}:Tx (s::r) k=RI s (ZN s r k):=rfl
def XA(a:AV)(k:List AV->Prop)(l:List AV):Prop:=k (a::l)
def ZP(T:TT)(r:List Nat)(k:List AV->Prop)(l:List Ce):Prop:=Ro T r (XA (.agg l) k)
def ZO(T:TT)(s:Sh)(r:List Nat)(k:List AV->Prop)(x:s.ty):Prop:=Ro T r (XA (.c (s.mk x)) k)
def UR{r:List Nat}{k:List AV->Prop}:Ro T (t::r) k=match fA T t with
 |some ⟨.struct _,a,_⟩=>Tx a (ZP T r k)
 |some ⟨.cell,[s],_⟩=>RI s (ZO T s r k)
 |some ⟨.slice _,[_],_⟩=>∃x:O,Ro T r (XA (.c (.s x)) k)
 |_=>False:=rfl
def ZM(v:Value)(k:SV->Prop)(l:List AV):Prop:=v=.tuple (l.map AV.v).toArray/\k (.Wr l)
def ZL(v:Value)(k:SV->Prop)(l:List Ce):Prop:=v=.agg (l.map Ce.v).toArray/\k (.agg l)
def ZK(v:Value)(s:Sh)(k:SV->Prop)(x:s.ty):Prop:=v=(s.mk x).v/\k (.c (s.mk x))
def U1:Pd T t v k=match fA T t with
 |some ⟨.tuple [],_,_⟩=>k .fP
 |some ⟨.tuple a,_,_⟩=>Ro T a (ZM v k)
 |some ⟨.struct _,a,_⟩=>Tx a (ZL v k)
 |some ⟨.cell,[s],_⟩=>RI s (ZK v s k)
 |some ⟨.slice _,[_],_⟩=>∃x:O,v=x.v/\k (.c (.s x))
 |_=>False:=rfl
def Ue(k:Fr->SV->I->Prop)(p:Fr)(m:I)(x:SV):Prop:=k p x m
def inG(G:List Nat)(g:Nat):Prop:=G.elem g=true
def Xy{G:List Nat}{g:Nat}:inG G g=(G.elem g=true):=rfl
def nz(b:Int):Prop:=b≠0
def nze{b:Int}:nz b=(b≠0):=rfl
def UY{b:Int}:rG .quo a b k=(nz b/\k (.c (.i (cW (a.tdiv b))))):=rfl
def U0{b:Int}:rG .rem a b k=(nz b/\k (.c (.i (a.tmod b)))):=rfl
def Sr{c:Nat}{f:Operand}{a:List Operand}{k:Fr->SV->I->Prop}:Si P T G n p m c f a k=match SA p (a.map (ev p))with
 |none=>False
 |some u=>match ev p f with
  | .c (.fn (.func g) first b)=>bif G.elem g&&a.all (λx=>(ev p x).jx)then
   aO P g (first.toList++(a.map λx=>(ev p x).v)++b.toList) m λv q=>zS (Lt n u []) m q (Pd T c v (Ue k u q))
   else False
  | .c (.fv b)=>bif a.all (λx=>(ev p x).jx)then
   ∃g,b.1=.func g/\inG G g/\aO P g (b.2.1.toList++(a.map λx=>(ev p x).v)++b.2.2.toList) m λv q=>zS (Lt n u []) m q (Pd T c v (Ue k u q))
   else False
  |_=>False:=rfl
def p3(m:I)(k:Fr->SV->I->Prop)(p:Fr)(x:SV):Prop:=k p x m
def p2(m:I)(k:SV->I->Prop)(x:SV):Prop:=k x m
def Sx{k:Fr->SV->I->Prop}:Ru n p none m t l k=NE (m.push (.cells (bG l) t)) λq=>p3 q k p (.c (.p m.size 0)):=rfl
def Sy{j:Nat}{k:Fr->SV->I->Prop}:Ru n p (some j) m t l k=match gS p (n+j)with
 | .zj _ _ _=>False
 |_=>NE (m.push (.cells (bG l) t)) λq=>p3 q k ((n+j,.box m.size t l)::p) (.c (.bp (n+j) m.size 0)):=rfl
def Xq{x:SV}{k:Fr->SV->I->Prop}:NW n p m x l k=match x with
 | .c (.p b o)=>fH m b o l.length/\NE (ai m b o l) λq=>zS (Lt n p []) m q (k p .un q)
 | .c (.bp d b o)=>match gS p d with
  | .box a e c=>bif Nat.ble (o+l.length) c.length then LA a b (NE (ai m b o l) λq=>p3 q k ((d,.box a e (iX c o l))::p) .un)else False
  | .zj _ _ _=>False
  |_=>fH m b o l.length/\NE (ai m b o l) λq=>zS (Lt n p []) m q (k p .un q)
 |_=>False:=rfl
def Xp{b:Nat}{k:Fr->SV->I->Prop}:wr P T G n p m d b k (.makeSlice t x y)=match fA T t,ev p x,ev p y with
 |some ⟨.slice e,_,_⟩,.c (.i l),.c (.i c)=>match fA T e with
  |some a=>bif a.ui then False else Int.le 0 l/\Int.le l c/\Int.le (nc a.bytes*c) 281474976710656/\Int.le c 9223372036854775807/\
   NE (m.push (.cells (bG (ni (a.sh.map Sh.zero) c.toNat)) e)) λq=>p3 q k p (.c (.s (.mk m.size 0 l.toNat c.toNat)))
  |none=>False
 |_,_,_=>False:=rfl
def Xo{a:Nat}{k:Fr->SV->I->Prop}:wr P T G n p m d a k (.makeMap t none)=NE (m.push (.map #[] 0)) λq=>p3 q k p (.c (.mp m.size)):=rfl
def UP{z:Nat}{s x:O}{k:SV->I->Prop}:Wb m z s x k=∃a:List Ce,a.length=Nat.min x.len s.len*z/\fN m x.F x.off a/\fH m s.F s.off a.length/\
 NE (ai m s.F s.off a) λq=>p2 q k (.c (.i (nc (Nat.min x.len s.len)))):=rfl
def ZE(p:Fr)(m:I)(e a:Nat)(k:Fr->SV->I->Prop)(l:List Ce):Prop:=match EU p l with
 |some u=>NE (m.push (.cells (bG l) e)) λq=>p3 q k u (.c (.s (.mk m.size 0 a a)))
 |none=>False
def Xk{c a:Nat}{k:Fr->SV->I->Prop}:wr P T G n p m d c k (.buildSlice t a g)=match fA T t with
 |some ⟨.slice e,_,_⟩=>match fA T e with
  |some b=>bif b.ui||!(Nat.ble (a*b.sh.length) 16777216)then False else
   wQ T p b.sh.length (ni (b.sh.map Sh.zero) a) g.toList (ZE p m e a k)
  |none=>False
 |_=>False:=rfl
def ZF(n:Nat)(p:Fr)(m:I)(k:Fr->SV->I->Prop)(x:SV)(q:I):Prop:=zS (Lt n p []) m q (k p x q)
def Ss{b:Nat}{u:Nat}{c:List Nat}{k:Fr->SV->I->Prop}:wr P T G n p m d b k (.call ⟨.builtin .copy,⟨[x,y]⟩,⟨u::c⟩⟩)=match fA T u,ev p x,ev p y with
 |some ⟨.slice e,_,_⟩,.c (.s s),.c (.s z)=>match fA T e with
  |some a=>bif a.ui then False else Wb m a.sh.length s z (ZF n p m k)
  |none=>False
 |_,_,_=>False:=rfl
def kw(P:Program)(T:TT)(G:List Nat)(n:Nat)(e:List Oper)(d:Option Nat)(jW:List Oper)(k:Fr->I->Prop)(p:Fr)(x:SV)(m:I):Prop:=rZ P T G n e jW (tK p d x) m k
def kr(P:Program)(T:TT)(G:List Nat)(n:Nat)(e:List Oper)(d:Option Nat)(jW:List Oper)(k:Fr->I->Prop)(p:Fr)(m:I)(x:SV):Prop:=rZ P T G n e jW (tK p d x) m k
def ky(P:Program)(T:TT)(G:List Nat)(n:Nat)(e:List Oper)(o:Oper)(jW:List Oper)(k:Fr->I->Prop)(m:I)(p:Fr):Prop:=
 bif Ki o.op then wr P T G n p m o.dst o.type (kw P T G n e o.dst jW k) o.op else rd T p m (kr P T G n e o.dst jW k p m) o.op
def kn(P:Program)(T:TT)(G:List Nat)(n:Nat)(e:List Oper)(d:Option Nat)(jW:List Oper)(k:Fr->I->Prop)(m:I)(p:Fr):Prop:=rZ P T G n e jW (tK p d .un) m k
def UX{o:Oper}{jW:List Oper}{k:Fr->I->Prop}:rZ P T G n e (o::jW) p m k=
 bif rU n o.dst then gd e p o.guard (ky P T G n e o jW k m) (kn P T G n e o.dst jW k m)else False:=rfl
abbrev LL:=List (Nat×List (Nat×Nat))
def Zv(P:Program)(T:TT)(G:List Nat)(n:Nat)(e:List Oper)(c a:List Nat)(b done:Nat)(o:Oper)(i:Nat)(m:I)(L:LL)(k:Fr->I->Prop)(p:Fr)(x:SV):Prop:=
 oG P T G n e c a b (done|||2^i) (tK p o.dst x) m ((i,RJ T p o.op)::L) k
def Zy(P:Program)(T:TT)(G:List Nat)(n:Nat)(e:List Oper)(c a:List Nat)(b done:Nat)(o:Oper)(i:Nat)(m:I)(L:LL)(k:Fr->I->Prop)(p:Fr):Prop:=
 rd T p m (Zv P T G n e c a b done o i m L k p) o.op
def YI(P:Program)(T:TT)(G:List Nat)(n:Nat)(e:List Oper)(c a:List Nat)(b done:Nat)(o:Oper)(i:Nat)(m:I)(L:LL)(k:Fr->I->Prop)(p:Fr):Prop:=
 oG P T G n e c a b (done|||2^i) (tK p o.dst .un) m L k
def Zw(P:Program)(T:TT)(G:List Nat)(n:Nat)(e:List Oper)(c a:List Nat)(b done:Nat)(o:Oper)(i:Nat)(m:I)(L:LL)(k:Fr->I->Prop)(p:Fr)(x:SV)(q:I):Prop:=
 CW (tP a i) m q L (oG P T G n e c a b (done|||2^i) (tK p o.dst x) q L k)
def Zz(P:Program)(T:TT)(G:List Nat)(n:Nat)(e:List Oper)(c a:List Nat)(b done:Nat)(o:Oper)(i:Nat)(m:I)(L:LL)(k:Fr->I->Prop)(p:Fr):Prop:=
 wr P T G n p m o.dst o.type (Zw P T G n e c a b done o i m L k) o.op
def Zx(P:Program)(T:TT)(G:List Nat)(n:Nat)(e:List Oper)(c a:List Nat)(b done:Nat)(m:I)(L:LL)(k:Fr->I->Prop)(p:Fr)(i:Nat):Prop:=match Hb e i with
 |some o=>bif rU n o.dst then gd e p o.guard (Zz P T G n e c a b done o i m L k) (YI P T G n e c a b done o i m L k)else False
 |none=>False
def Su{a b:List Nat}{c done:Nat}{L:LL}{k:Fr->I->Prop}:oG P T G n e a b (c+1) done p m L k=match wJ done 0 e a with
 |some i=>match Hb e i with
  |some o=>bif rU n o.dst then gd e p o.guard (Zy P T G n e a b c done o i m L k) (YI P T G n e a b c done o i m L k)else False
  |none=>False
 |none=>match pG done 0 e a with
  |[]=>k p m
  |d=>Ni d (Zx P T G n e a b c done m L k p):=rfl
def Sp{f:Nat->Prop}:Ni [i] f=f i:=rfl
def Sq{r:List Nat}{f:Nat->Prop}:Ni (i::j::r) f=(f i/\Ni (j::r) f):=rfl
def kq(Q:Exit->Fr->I->Prop)(p:Fr)(m:I):Prop:=Q .normal p m
def UZ{e:Array Oper}{a:Bool}:vc P T G n A (.region i e a) p m Q=
 bif a then oG P T G n e.toList (Un e.toList) (Sf [] e.toList) e.toList.length 0 p m [] (kq Q)
 else rZ P T G n e.toList e.toList p m (kq Q):=rfl
def ZC(t:Nat)(s:Sh)(r:List (Nat×Sh))(a:s.ty->Gz r)(p:Fr)(k:Fr->(I->Prop)->Prop)(x:s.ty):Prop:=Ou r (a x) ((t,.c (s.mk x))::p) k
def UL{r:List (Nat×Sh)}{a:s.ty->Gz r}{k:Fr->(I->Prop)->Prop}:Ou ((t,s)::r) a p k=TM s (ZC t s r a p k):=rfl
def ZD(t:Nat)(s:Sh)(r:List (Nat×Sh))(a:s.ty->Gz r)(μ:s.ty->Nd r)(p:Fr)(k:Fr->(I->Prop)->(I->Nat)->Prop)(x:s.ty):Prop:=Ov r (a x) (μ x) ((t,.c (s.mk x))::p) k
def UM{r:List (Nat×Sh)}{a:s.ty->Gz r}{μ:s.ty->Nd r}{k:Fr->(I->Prop)->(I->Nat)->Prop}:Ov ((t,s)::r) a μ p k=TM s (ZD t s r a μ p k):=rfl
def ks(P:Program)(T:TT)(G:List Nat)(n:Nat)(A:Od)(b:Code)(Q:Exit->Fr->I->Prop):Exit->Fr->I->Prop
 | .normal,u,q=>vc P T G n A b u q Q
 |e,u,q=>Q e u q
def kc(A:Od)(b:Code)(p:Fr)(l:List (Nat×Sh))(K:Gz l)(Q:Exit->Fr->I->Prop):Exit->Fr->I->Prop
 | .normal,u,q=>Tw p u (kj A b) (GG l K u q)
 |e,u,q=>Q e u q
def ki(P:Program)(T:TT)(G:List Nat)(n:Nat)(A:Od)(b:Code)(Q:Exit->Fr->I->Prop)(u:Fr)(a:I->Prop):Prop:=∀q,a q->vc P T G n A b u q Q
def U6{a b:Code}:vc P T G n A (.seq a b) p m Q=match Vf A.T9 b with
 |none=>vc P T G n A a p m (ks P T G n A b Q)
 |some l=>bif pK (oB a) l then∃K:Gz l,vc P T G n A a p m (kc A b p l K Q)/\
  Ou l K (nt (oB a) (uc n (kj A b) p)) (ki P T G n A b Q)else False:=by
 unfold ks kc ki;rfl
def kb(i:Nat)(Q:Exit->Fr->I->Prop):Exit->Fr->I->Prop
 | .exit j,u,q=>bif Nat.beq j i then Q .normal u q else Q (.exit j) u q
 |e,u,q=>Q e u q
def QK:vc P T G n A (.block i c) p m Q=vc P T G n A c p m (kb i Q):=by
 unfold kb;rfl
def ke(A:Od)(c:Code)(p:Fr)(l:List (Nat×Sh))(d:Gz l)(μ:Nd l)(N:Nat)(Q:Exit->Fr->I->Prop):Exit->Fr->I->Prop
 | .normal,a,b=>Tw p a (kj A c) (Nk l d μ a b N)
 |e,a,b=>Q e a b
def kl(P:Program)(T:TT)(G:List Nat)(n:Nat)(A:Od)(c:Code)(p:Fr)(l:List (Nat×Sh))(a:Gz l)(μ:Nd l)(Q:Exit->Fr->I->Prop)(u:Fr)(b:I->Prop)(μ':I->Nat):Prop:=
 ∀q,b q->vc P T G n A c u q (ke A c p l a μ (μ' q) Q)
def Sw:vc P T G n A (.loop c) p m Q=match Vf A.SJ c with
 |none=>False
 |some l=>bif pK (oB c) l then∃(I:Gz l)(μ:Nd l),GG l I p m/\
  Ov l I μ (nt (oB c) (uc n (kj A c) p)) (kl P T G n A c p l I μ Q)else False:=by
 unfold kl ke;rfl
def kR(m:I)(R:Value->I->Prop)(l:List SV):Prop:=match l with
 |[x]=>R x.v m
 |l=>R (.tuple (l.map SV.v).toArray) m
def kx(x:SV)(k:List SV->Prop)(l:List SV):Prop:=k (x::l)
def kz(T:TT)(p:Fr)(m:I)(r:List ResultVar)(k:List SV->Prop)(x:SV):Prop:=bif x.jx then Fx T p m r (kx x k)else False
def QM{r:List ResultVar}{k:List SV->Prop}:Fx T p m (.tmp t::r) k=bif (gS p t).jx then Fx T p m r (kx (gS p t) k)else False:=rfl
def QN{a:Nat}{r:List ResultVar}{k:List SV->Prop}:Fx T p m (.cell a t::r) k=rd T p m (kz T p m r k) (.load t (.tmp a)):=rfl
def kf(T:TT)(a:List ResultVar)(R:Value->I->Prop):Exit->Fr->I->Prop
 | .normal,p,m=>Fx T p m a (kR m R)
 | .ret,p,m=>Fx T p m a (kR m R)
 |_,_,_=>False
def Xm{b:List ResultVar}{a:List SV}{R:Value->I->Prop}:RF P T G A n b c a m R=vc P T G n A c (ub 0 a) m (kf T b R):=by
 unfold kf kR;rfl
end
def Tg(_:Prop):Type:=Prop
def Tg.p{q:Prop}(t:Tg q):Prop:=t
def Tg.lf(q:Prop):Tg q:=q
def Tg.pm{a b:Prop}{h:Tg a=Tg b}:Tg.p (Eq.mpr h (Tg.lf b))=b:=rfl
def rg1:List.range 1=[0]:=rfl
def rg2:List.range 2=[0,1]:=rfl
def rg3:List.range 3=[0,1,2]:=rfl
def rg4:List.range 4=[0,1,2,3]:=rfl
def rg5:List.range 5=[0,1,2,3,4]:=rfl
def rg6:List.range 6=[0,1,2,3,4,5]:=rfl
def rg7:List.range 7=[0,1,2,3,4,5,6]:=rfl
def Tg.pm2{a b c:Prop}{h:Tg a=Tg b}{d:Tg b=Tg c}:Tg.p (Eq.mpr h (Eq.mpr d (Tg.lf c)))=c:=rfl
def Wi(_ _:Prop):Type:=Unit
def mkT{a X:Prop}(_:Wi a X)(t:Tg a)(_:t.p=X):True:=trivial
end Go.Vc
end
namespace Go.Proofs.YtgnjacfobdjeeaaGreat
open Go.Vc
section
noncomputable abbrev cw:=Tryz.prog
def V9:TT:=[(0,⟨.tuple [],[],0⟩),
 (3,⟨.cell,[.I],8⟩),
 (4,⟨.cell,[.T],1⟩),
 (5,⟨.cell,[(.U .u8)],1⟩),
 (22,⟨.slice 5,[.S],24⟩),
 (23,⟨.slice 92,[.S],24⟩),
 (24,⟨.slice 78,[.S],24⟩),
 (26,⟨.struct [(0,23),(1,24)],[.S,.S],48⟩),
 (27,⟨.tuple [26,3],[],0⟩),
 (29,⟨.slice 3,[.S],24⟩),
 (31,⟨.struct [(0,3),(1,3),(2,3),(3,29)],[.I,.I,.I,.S],48⟩),
 (32,⟨.tuple [31,4],[],0⟩),
 (37,⟨.slice 47,[.S],24⟩),
 (38,⟨.slice 70,[.S],24⟩),
 (40,⟨.struct [(0,3),(1,3),(2,3),(3,3),(4,29),(5,37),(6,38)],[.I,.I,.I,.I,.S,.S,.S],104⟩),
 (41,⟨.tuple [26,40],[],0⟩),
 (47,⟨.struct [(0,3),(1,3),(2,29)],[.I,.I,.S],40⟩),
 (51,⟨.struct [(0,3),(1,3),(2,3),(3,3),(4,3),(5,3),(6,3),(7,3)],[.I,.I,.I,.I,.I,.I,.I,.I],64⟩),
 (52,⟨.tuple [51,4],[],0⟩),
 (55,⟨.tuple [40,4],[],0⟩),
 (62,⟨.struct [(0,26),(2,3),(3,40)],[.S,.S,.I,.I,.I,.I,.I,.S,.S,.S],160⟩),
 (66,⟨.cell,[.P],8⟩),
 (68,⟨.slice 4,[.S],24⟩),
 (70,⟨.struct [(0,3),(1,3),(2,3),(3,29),(4,29),(5,29)],[.I,.I,.I,.S,.S,.S],96⟩),
 (75,⟨.struct [(0,3),(1,3),(2,3),(3,3),(4,29),(5,29)],[.I,.I,.I,.I,.S,.S],80⟩),
 (76,⟨.slice 75,[.S],24⟩),
 (78,⟨.struct [(0,29),(1,29),(2,3),(3,3),(4,76)],[.S,.S,.I,.I,.S],88⟩),
 (84,⟨.slice 136,[.S],24⟩),
 (86,⟨.struct [(0,23),(1,84)],[.S,.S],48⟩),
 (87,⟨.tuple [86,4],[],0⟩),
 (90,⟨.slice 215,[.S],24⟩),
 (92,⟨.struct [(0,3),(1,3),(2,90)],[.I,.I,.S],40⟩),
 (94,⟨.cell,[.P],8⟩),
 (95,⟨.cell,[.P],8⟩),
 (99,⟨.slice 156,[.S],24⟩),
 (101,⟨.struct [(0,23),(1,99)],[.S,.S],48⟩),
 (105,⟨.cell,[.P],8⟩),
 (107,⟨.struct [(0,26),(2,40)],[.S,.S,.I,.I,.I,.I,.S,.S,.S],152⟩),
 (112,⟨.struct [(0,22),(1,3)],[.S,.I],32⟩),
 (116,⟨.cell,[.F],8⟩),
 (117,⟨.tuple [29,4],[],0⟩),
 (122,⟨.cell,[.P],8⟩),
 (124,⟨.cell,[.P],8⟩),
 (126,⟨.struct [(0,3),(1,3),(2,3),(3,3),(4,3),(5,3),(6,3),(7,3)],[.I,.I,.I,.I,.I,.I,.I,.I],64⟩),
 (127,⟨.tuple [3,3],[],0⟩),
 (136,⟨.struct [(0,29),(1,29),(2,3)],[.S,.S,.I],56⟩),
 (140,⟨.tuple [29,29],[],0⟩),
 (145,⟨.slice 47,[.S],24⟩),
 (152,⟨.slice 154,[.S],24⟩),
 (154,⟨.struct [(0,3),(1,3),(2,152)],[.I,.I,.S],40⟩),
 (156,⟨.struct [(0,29),(1,3),(2,154)],[.S,.I,.I,.I,.S],72⟩),
 (163,⟨.tuple [3,4],[],0⟩),
 (171,⟨.slice 202,[.S],24⟩),
 (173,⟨.struct [(0,23),(1,171)],[.S,.S],48⟩),
 (179,⟨.cell,[.F],8⟩),
 (181,⟨.cell,[.P],8⟩),
 (198,⟨.slice 226,[.S],24⟩),
 (200,⟨.struct [(0,198),(1,3)],[.S,.I],32⟩),
 (202,⟨.struct [(0,29),(1,29),(2,3),(3,200)],[.S,.S,.I,.S,.I],88⟩),
 (203,⟨.cell,[.P],8⟩),
 (205,⟨.struct [(0,76)],[.S],24⟩),
 (215,⟨.struct [(0,29)],[.S],24⟩),
 (217,⟨.tuple [3,215],[],0⟩),
 (219,⟨.map 3 3,[.M],8⟩),
 (224,⟨.slice 200,[.S],24⟩),
 (226,⟨.struct [(0,3),(1,3),(2,3),(3,29),(4,224)],[.I,.I,.I,.S,.S],72⟩),
 (229,⟨.cell,[.P],8⟩),
 (230,⟨.tuple [229,4],[],0⟩),
 (233,⟨.struct [(0,29),(1,29),(2,29),(3,29),(4,29),(5,29),(6,29)],[.S,.S,.S,.S,.S,.S,.S],168⟩),
 (259,⟨.slice 29,[.S],24⟩),
 (275,⟨.cell,[.P],8⟩),
 (277,⟨.struct [(0,198),(1,3)],[.S,.I],32⟩)]
abbrev wA:Nat:=22
abbrev de:Nat:=200
abbrev nh:Nat:=47
abbrev oR:Nat:=215
abbrev jR:Nat:=92
abbrev bK:Nat:=154
abbrev dB:Nat:=70
abbrev eY:Nat:=156
abbrev qP:Nat:=26
abbrev dQ:Nat:=75
abbrev mU:Nat:=173
abbrev ji:Nat:=78
abbrev ku:Nat:=101
abbrev jI:Nat:=202
abbrev iz:Nat:=40
abbrev fQ:Nat:=226
abbrev dV:Nat:=145
abbrev bu:Nat:=62
abbrev pO:Nat:=136
abbrev lU:Nat:=86
abbrev aE:Nat:=3
abbrev xE:Nat:=29
abbrev nX:Nat:=205
abbrev A2:Nat:=233
abbrev ly:Nat:=277
abbrev bQ:Nat:=107
abbrev pP:Nat:=112
abbrev Li:Nat:=5
def NY:ua cw V9:=by
 unfold ua;kernel_rfl
def GL:List Nat:=List.range' 3 335
def YK:TH cw GL:=by
 unfold TH;kernel_rfl
def YL:cw.follows .mixedOrders=true:=by kernel_rfl
def nbq(a b:Nat):Nat.beq a b=(a==b):=by rw[IH];simp
def nbl(a b:Nat):Nat.ble a b=(a -b==0):=by rw[IH];simp;omega
def nbt(a b:Nat):Nat.blt a b=(a+1 -b==0):=by rw[IH];simp[Nat.blt];omega
def gel(g:Nat):List.elem g GL=(3 -g==0&&(g -337==0)):=by rw[IH];simp[GL];omega
section
variable{α β:Type}{a:α}{b:β}
def atl(l:List α):(Array.mk l).toList=l:=rfl
end
section
variable(a b c d e f)
def o1:(Oper.mk a b c d e f).dst=a:=rfl
def o2:(Oper.mk a b c d e f).op=b:=rfl
def o3:(Oper.mk a b c d e f).type=c:=rfl
def o5:(Oper.mk a b c d e f).after=e:=rfl
def o6:(Oper.mk a b c d e f).guard=f:=rfl
end
section
variable(a b c)
def a2:(Od.mk a b c).SJ=a:=rfl
def a3:(Od.mk a b c).T9=b:=rfl
def a4:(Od.mk a b c).dW=c:=rfl
def t1:(TI.mk a b c).GZ=a:=rfl
def t2:(TI.mk a b c).sh=b:=rfl
def t3:(TI.mk a b c).bytes=c:=rfl
def g1:(Edge.mk a b).on=a:=rfl
def g2:(Edge.mk a b).ground=b:=rfl
end
def A0:Od:=⟨[],[],[]⟩
def cI(x:Int):SV:=.c (.i x)
def cS(x:O):SV:=.c (.s x)
def cP(x:Nat×Nat):SV:=.c (.p x.1 x.2)
def mG(n:Nat){x:TI}(h:fA V9 n=some x:=by cbv):fA V9 n=some x:=h
def tg0:=mG 0
def tg3:=mG 3
def tg4:=mG 4
def tg5:=mG 5
def XR:=mG 22
def XS:=mG 23
def XT:=mG 24
def XU:=mG 26
def XV:=mG 27
def XW:=mG 29
def XY:=mG 31
def XZ:=mG 32
def X0:=mG 37
def Ya:=mG 38
def Yb:=mG 40
def Yc:=mG 41
def Yd:=mG 47
def Ye:=mG 51
def Yf:=mG 52
def Yg:=mG 55
def Yh:=mG 62
def Yi:=mG 66
def Yj:=mG 68
def Yk:=mG 70
def Yl:=mG 75
def Ym:=mG 76
def Yn:=mG 78
def Yo:=mG 84
def Yp:=mG 86
def Yq:=mG 87
def Yr:=mG 90
def Ys:=mG 92
def Yt:=mG 94
def Yu:=mG 95
def Yv:=mG 99
def Vk:=mG 101
def Vl:=mG 105
def Vm:=mG 107
def Vn:=mG 112
def Vo:=mG 116
def Vp:=mG 117
def Vq:=mG 122
def Vr:=mG 124
def Vs:=mG 126
def Vt:=mG 127
def Vu:=mG 136
def Vv:=mG 140
def Vw:=mG 145
def Vx:=mG 152
def Vy:=mG 154
def Vz:=mG 156
def VA:=mG 163
def VB:=mG 171
def VC:=mG 173
def VD:=mG 179
def VE:=mG 181
def VF:=mG 198
def VG:=mG 200
def VH:=mG 202
def VI:=mG 203
def VJ:=mG 205
def VK:=mG 215
def VL:=mG 217
def VM:=mG 219
def VN:=mG 224
def VO:=mG 226
def VP:=mG 229
def VQ:=mG 230
def VR:=mG 233
def VS:=mG 259
def VT:=mG 275
def VU:=mG 277
def cX(m:I)(R:Value->I->Prop)(A:Od)(a:List SV){f:FuncId}{b:Go.Func}{X:Prop}{c:Code}{n:Nat}{e:List ResultVar}{g:List Value}(l:cw.funcs[f]? =some b)
 (d:(b.body,b.ntmps,b.results)=(some c,n,Array.mk e):=by cbv)
 (i:a.all SV.jx=true:=by kernel_rfl)(o:Nat.ble a.length n=true:=by kernel_rfl)(j:pZ c=true:=by kernel_rfl)
 (p:a.map SV.v=g:=by dsimp only[List.map,cI,cS,cP,SV.v,Ce.v])
 (w:Wi (RF cw V9 GL A n e c a m R) X->True:=by intro w;obtain - :=mkT w (by sym -abstractProof=>simp[gel,A0.eq_1,cI.eq_1,cS.eq_1,cP.eq_1,tg0,tg3,tg4,tg5,XR,XS,XT,XU,XV,XW,XY,XZ,X0,Ya,Yb,Yc,Yd,Ye,Yf,Yg,Yh,Yi,Yj,Yk,Yl,Ym,Yn,Yo,Yp,Yq,Yr,Ys,Yt,Yu,Yv,Vk,Vl,Vm,Vn,Vo,Vp,Vq,Vr,Vs,Vt,Vu,Vv,Vw,Vx,Vy,Vz,VA,VB,VC,VD,VE,VF,VG,VH,VI,VJ,VK,VL,VM,VN,VO,VP,VQ,VR,VS,VT,VU,nbq,nbl,nbt,atl,o1,o2,o3,o5,o6,a2,a3,a4,t1,t2,t3,g1,g2,cG,fq,cU,dS,MX,List.all_nil,aY,dY,List.elem_cons,MW,Bool.false_and,UD,UC,Bool.true_or,MV,Lm,Bool.and_true,nR,Option.map_none,gW,iU,mj,List.flatMap_nil,List.isEmpty_cons,List.isEmpty_nil,List.any_cons,PA,qD,Mj,ub.eq_1,ub.eq_2,vc.eq_1,vc.eq_4,vc.eq_6,vc.eq_7,vc.eq_8,uo.eq_def,XG.eq_def,Vh.eq_def,qK.eq_1,qK.eq_2,Ky.eq_def,Tw.eq_1,Tw.eq_2,uc.eq_1,CH.eq_1,CH.eq_2,kj.eq_1,pK.eq_1,pK.eq_2,oB.eq_def,nt.eq_1,nt.eq_2,Ov.eq_1,Ou.eq_1,Nk.eq_1,Nk.eq_2,GG.eq_1,GG.eq_2,P7.eq_def,Vf.eq_1,CK.eq_def,lk.eq_1,lk.eq_2,oG.eq_1,CW.eq_1,CW.eq_2,KF.eq_1,KF.eq_2,pG.eq_def,wJ.eq_def,kD.eq_1,nT.eq_1,nT.eq_2,lj.eq_1,tP.eq_1,tP.eq_2,tP.eq_3,rZ.eq_1,zm.eq_1,zm.eq_2,gd.eq_1,gd.eq_2,Ke.eq_1,rU.eq_1,rU.eq_2,Ki.eq_def,wr.eq_1,wr.eq_2,wr.eq_4,wr.eq_6,wr.eq_8,wr.eq_9,wr.eq_10,wr.eq_11,wQ.eq_1,wQ.eq_2,Ro.eq_1,Tx.eq_1,Lt.eq_def,zS.eq_def,rd.eq_1,rd.eq_2,rd.eq_3,rd.eq_4,rd.eq_5,rd.eq_6,rd.eq_7,rd.eq_8,rd.eq_9,rd.eq_10,rd.eq_11,rd.eq_12,rd.eq_13,rd.eq_15,RJ.eq_def,UT,UU,UW,Mw.eq_1,Gj.eq_1,Gj.eq_2,Nt.eq_1,LQ.eq_1,LQ.eq_2,uR.eq_1,uR.eq_2,EP.eq_1,EP.eq_2,lX.eq_1,lX.eq_2,lX.eq_3,lX.eq_4,lX.eq_5,SV.cells.eq_def,YS.eq_def,Ui.eq_def,TP.eq_def,rG.eq_1,rG.eq_2,rG.eq_3,rG.eq_6,rG.eq_7,rG.eq_8,rG.eq_9,rG.eq_10,rG.eq_11,rG.eq_12,UY,U0,Ve.eq_1,Hb.eq_1,Hb.eq_2,Hb.eq_3,kZ.eq_def,SV.jx.eq_def,TI.ui.eq_1,TI.agg.eq_1,Sh.zero.eq_1,Sh.zero.eq_2,Sh.zero.eq_3,Sh.zero.eq_4,Sh.zero.eq_5,Sh.zero.eq_6,Sh.zero.eq_7,ev.eq_1,ev.eq_2,ev.eq_3,ev.eq_4,ET.eq_def,pw.eq_1,pw.eq_2,kA.eq_1,kA.eq_3,kA.eq_4,kA.eq_5,kA.eq_6,kA.eq_7,tK.eq_1,tK.eq_2,SV.nb.eq_def,gS.eq_1,gS.eq_2,AV.sv.eq_1,AV.sv.eq_2,SV.v.eq_1,SV.v.eq_2,SV.v.eq_3,SV.v.eq_4,SV.v.eq_5,SV.v.eq_6,SV.v.eq_7,SV.v.eq_8,SV.v.eq_9,AV.v.eq_1,AV.v.eq_2,Ce.v.eq_1,Ce.v.eq_2,Ce.v.eq_3,Ce.v.eq_4,Ce.v.eq_5,Ce.v.eq_6,Ce.v.eq_7,Ce.v.eq_8,Ce.v.eq_9,Ce.v.eq_10,Ce.v.eq_11,Ce.v.eq_12,Ce.v.eq_13,uP.eq_1,uP.eq_2,SA.eq_1,EU.eq_def,iX.eq_1,iX.eq_2,Gz.eq_1,Gz.eq_2,Nd.eq_1,Nd.eq_2,Sh.ty.eq_1,Sh.ty.eq_2,Sh.ty.eq_3,Sh.ty.eq_4,Sh.ty.eq_5,Sh.ty.eq_6,Sh.ty.eq_7,Sh.mk.eq_1,Sh.mk.eq_2,Sh.mk.eq_3,Sh.mk.eq_4,Sh.mk.eq_5,Sh.mk.eq_6,Sh.mk.eq_7,Nl.eq_1,SV.TU.eq_def,AV.TU.eq_1,AV.TU.eq_2,Fx.eq_1,Un.eq_1,Un.eq_2,Sf.eq_1,Sf.eq_2,ZI.eq_1,ZH.eq_1,ZN.eq_1,ZO.eq_1,ZK.eq_1,ZC.eq_1,ZD.eq_1,pa.eq_1,p3.eq_1,p2.eq_1,QU.eq_1,Ud.eq_1,ZG.eq_1,ZJ.eq_1,XA.eq_1,ZP.eq_1,ZM.eq_1,ZL.eq_1,Ue.eq_1,ZE.eq_1,ZF.eq_1,kw.eq_1,kr.eq_1,ky.eq_1,kn.eq_1,Zv.eq_1,Zy.eq_1,YI.eq_1,Zw.eq_1,Zz.eq_1,Zx.eq_1,kq.eq_1,ks.eq_def,kc.eq_def,ki.eq_1,kb.eq_def,ke.eq_def,kl.eq_1,kR.eq_def,kx.eq_1,kz.eq_1,kf.eq_def,Ni.eq_1,Xn,Sv,QO,QL,UQ,UR,U1,Sr,Xk,Ss,UX,Su,Sp,Sq,UZ,U6,QK,Sw,QM,QN,Xm,Xl,UL,UM,exI,exU,exB,Xs,exP,exF,exM,Z9,alU,Z7,Xc,alP,Z8,alM,cU8,z0,z1,tb,UO,b1,b2,b3,b4,b5,b6,Sx,Sy,Xq,Xp,Xo,UP,US,rg1,rg2,rg3,rg4,rg5,rg6,rg7,ju];exact Tg.lf _) (by refine Tg.pm.trans ?_;dsimp -zeta+instances only[↓QY,ile,↓Xy,nze,nce,Gz,Nd,Sh.ty,Int.cast_ofNat_Int]);trivial)
 (k:X=RF cw V9 GL A n e c a m R:=by kernel_rfl)
 :X->aO cw f g m R:=λh=>by
 subst p
 exact xF NY YK YL l (ry Prod.fst d) (ry (λx=>x.2.1) d) (ry (λx=>x.2.2) d) i (lB o) j (k▸h)
def ZZ(m:I)(R:Value->I->Prop)(A:Od)(a:List SV){f:FuncId}{b:Go.Func}{X:Prop}{c:Code}{n:Nat}{e:List ResultVar}{g:List Value}(l:cw.funcs[f]? =some b)
 (d:(b.body,b.ntmps,b.results)=(some c,n,Array.mk e):=by cbv)
 (i:a.all SV.jx=true:=by kernel_rfl)(o:Nat.ble a.length n=true:=by kernel_rfl)(j:pZ c=true:=by kernel_rfl)
 (p:a.map SV.v=g:=by dsimp only[List.map,cI,cS,cP,SV.v,Ce.v])
 (w:Wi (RF cw V9 GL A n e c a m R) X->True:=by intro w;obtain - :=mkT w (by sym -abstractProof=>simp[gel,A0.eq_1,cI.eq_1,cS.eq_1,cP.eq_1,tg0,tg3,tg4,tg5,XR,XS,XT,XU,XV,XW,XY,XZ,X0,Ya,Yb,Yc,Yd,Ye,Yf,Yg,Yh,Yi,Yj,Yk,Yl,Ym,Yn,Yo,Yp,Yq,Yr,Ys,Yt,Yu,Yv,Vk,Vl,Vm,Vn,Vo,Vp,Vq,Vr,Vs,Vt,Vu,Vv,Vw,Vx,Vy,Vz,VA,VB,VC,VD,VE,VF,VG,VH,VI,VJ,VK,VL,VM,VN,VO,VP,VQ,VR,VS,VT,VU,nbq,nbl,nbt,atl,o1,o2,o3,o5,o6,a2,a3,a4,t1,t2,t3,g1,g2,cG,fq,cU,dS,MX,List.all_nil,aY,dY,List.elem_cons,MW,Bool.false_and,UD,UC,Bool.true_or,MV,Lm,Bool.and_true,nR,Option.map_none,gW,iU,mj,List.flatMap_nil,List.isEmpty_cons,List.isEmpty_nil,List.any_cons,PA,qD,Mj,ub.eq_1,ub.eq_2,vc.eq_1,vc.eq_4,vc.eq_6,vc.eq_7,vc.eq_8,uo.eq_def,XG.eq_def,Vh.eq_def,qK.eq_1,qK.eq_2,Ky.eq_def,Tw.eq_1,Tw.eq_2,uc.eq_1,CH.eq_1,CH.eq_2,kj.eq_1,pK.eq_1,pK.eq_2,oB.eq_def,nt.eq_1,nt.eq_2,Ov.eq_1,Ou.eq_1,Nk.eq_1,Nk.eq_2,GG.eq_1,GG.eq_2,P7.eq_def,Vf.eq_1,CK.eq_def,lk.eq_1,lk.eq_2,oG.eq_1,CW.eq_1,CW.eq_2,pG.eq_def,wJ.eq_def,kD.eq_1,nT.eq_1,nT.eq_2,lj.eq_1,tP.eq_1,tP.eq_2,tP.eq_3,rZ.eq_1,zm.eq_1,zm.eq_2,gd.eq_1,gd.eq_2,Ke.eq_1,rU.eq_1,rU.eq_2,Ki.eq_def,wr.eq_1,wr.eq_2,wr.eq_4,wr.eq_6,wr.eq_8,wr.eq_9,wr.eq_10,wr.eq_11,wQ.eq_1,wQ.eq_2,Ro.eq_1,Tx.eq_1,Lt.eq_def,zS.eq_def,rd.eq_1,rd.eq_2,rd.eq_3,rd.eq_4,rd.eq_5,rd.eq_6,rd.eq_7,rd.eq_8,rd.eq_9,rd.eq_10,rd.eq_11,rd.eq_12,rd.eq_13,rd.eq_15,RJ.eq_def,UT,UU,UW,Mw.eq_1,Gj.eq_1,Gj.eq_2,Nt.eq_1,LQ.eq_1,LQ.eq_2,uR.eq_1,uR.eq_2,EP.eq_1,EP.eq_2,lX.eq_1,lX.eq_2,lX.eq_3,lX.eq_4,lX.eq_5,SV.cells.eq_def,YS.eq_def,Ui.eq_def,TP.eq_def,rG.eq_1,rG.eq_2,rG.eq_3,rG.eq_6,rG.eq_7,rG.eq_8,rG.eq_9,rG.eq_10,rG.eq_11,rG.eq_12,UY,U0,Ve.eq_1,Hb.eq_1,Hb.eq_2,Hb.eq_3,kZ.eq_def,SV.jx.eq_def,TI.ui.eq_1,TI.agg.eq_1,Sh.zero.eq_1,Sh.zero.eq_2,Sh.zero.eq_3,Sh.zero.eq_4,Sh.zero.eq_5,Sh.zero.eq_6,Sh.zero.eq_7,ev.eq_1,ev.eq_2,ev.eq_3,ev.eq_4,ET.eq_def,pw.eq_1,pw.eq_2,kA.eq_1,kA.eq_3,kA.eq_4,kA.eq_5,kA.eq_6,kA.eq_7,tK.eq_1,tK.eq_2,SV.nb.eq_def,gS.eq_1,gS.eq_2,AV.sv.eq_1,AV.sv.eq_2,SV.v.eq_1,SV.v.eq_2,SV.v.eq_3,SV.v.eq_4,SV.v.eq_5,SV.v.eq_6,SV.v.eq_7,SV.v.eq_8,SV.v.eq_9,AV.v.eq_1,AV.v.eq_2,Ce.v.eq_1,Ce.v.eq_2,Ce.v.eq_3,Ce.v.eq_4,Ce.v.eq_5,Ce.v.eq_6,Ce.v.eq_7,Ce.v.eq_8,Ce.v.eq_9,Ce.v.eq_10,Ce.v.eq_11,Ce.v.eq_12,Ce.v.eq_13,uP.eq_1,uP.eq_2,SA.eq_1,EU.eq_def,iX.eq_1,iX.eq_2,Gz.eq_1,Gz.eq_2,Nd.eq_1,Nd.eq_2,Sh.ty.eq_1,Sh.ty.eq_2,Sh.ty.eq_3,Sh.ty.eq_4,Sh.ty.eq_5,Sh.ty.eq_6,Sh.ty.eq_7,Sh.mk.eq_1,Sh.mk.eq_2,Sh.mk.eq_3,Sh.mk.eq_4,Sh.mk.eq_5,Sh.mk.eq_6,Sh.mk.eq_7,Nl.eq_1,SV.TU.eq_def,AV.TU.eq_1,AV.TU.eq_2,Fx.eq_1,Un.eq_1,Un.eq_2,Sf.eq_1,Sf.eq_2,ZI.eq_1,ZH.eq_1,ZN.eq_1,ZO.eq_1,ZK.eq_1,ZC.eq_1,ZD.eq_1,pa.eq_1,p3.eq_1,p2.eq_1,QU.eq_1,Ud.eq_1,ZG.eq_1,ZJ.eq_1,XA.eq_1,ZP.eq_1,ZM.eq_1,ZL.eq_1,Ue.eq_1,ZE.eq_1,ZF.eq_1,kw.eq_1,kr.eq_1,ky.eq_1,kn.eq_1,Zv.eq_1,Zy.eq_1,YI.eq_1,Zw.eq_1,Zz.eq_1,Zx.eq_1,kq.eq_1,ks.eq_def,kc.eq_def,ki.eq_1,kb.eq_def,ke.eq_def,kl.eq_1,kR.eq_def,kx.eq_1,kz.eq_1,kf.eq_def,Ni.eq_1,Xn,Sv,QO,QL,UQ,UR,U1,Sr,Xk,Ss,UX,Su,Sp,Sq,UZ,U6,QK,Sw,QM,QN,Xm,Xl,UL,UM,exI,exU,exB,Xs,exP,exF,exM,Z9,alU,Z7,Xc,alP,Z8,alM,cU8,z0,z1,tb,UO,b1,b2,b3,b4,b5,b6,Sx,Sy,Xq,Xp,Xo,UP,US];simp[cG,fq,ju,KF.eq_1,KF.eq_2,rg1,rg2,rg3,rg4,rg5,rg6,rg7];exact Tg.lf _) (by refine Tg.pm2.trans ?_;dsimp -zeta+instances only[↓QY,ile,↓Xy,nze,nce,Gz,Nd,Sh.ty,Int.cast_ofNat_Int]);trivial)
 (k:X=RF cw V9 GL A n e c a m R:=by kernel_rfl)
 :X->aO cw f g m R:=λh=>by
 subst p
 exact xF NY YK YL l (ry Prod.fst d) (ry (λx=>x.2.1) d) (ry (λx=>x.2.2) d) i (lB o) j (k▸h)
end
section
variable{m:I}{R:Value->I->Prop}
def uO(cL:O):=cX m R A0 [cS cL] Tryz.func3
def zH(cL:O):=cX m R A0 [cS cL] Tryz.func6
def tO(cL:O):=cX m R A0 [cS cL] Tryz.func7
def wT(cL:O):=cX m R A0 [cS cL] Tryz.func8
def Dl(a b:O)(bA:Int):=cX m R ⟨[(4,[])],[],[(4,[49,47])]⟩ [.agg [.s a,.s b],cI bA] Tryz.func9
def DG(a b:O)(bA:Int):=cX m R A0 [.agg [.s a,.s b],cI bA] Tryz.func10
def vK(a b c:Int)(d:O)(e f g:Int)(h:O):=cX m R A0 [.agg [.i a,.i b,.i c,.s d],.agg [.i e,.i f,.i g,.s h]] Tryz.func11
def BH(a b:O):=cX m R A0 [cS a,cS b] Tryz.func12
def zI(a b:O):=cX m R ⟨[(4,[(5,.I)])],[],[]⟩ [cS a,cS b] Tryz.func15
def yh(a b:O)(c d e f:Int)(g h i:O):=cX m R A0 [.agg [.s a,.s b],.agg [.i c,.i d,.i e,.i f,.s g,.s h,.s i]] Tryz.func17
end
section
variable{m:I}{R:Value->I->Prop}
def yf(a b:O)(bA:Int):=cX m R A0 [.agg [.s a,.s b],cI bA] Tryz.func25
def Bz(a b:O)(d e f g:Int)(h i j:O)(c:Int):=cX m R ⟨[(5,[(9,.I)])],[(4,[(8,.P)])],[(4,[50,48,47]),(5,[50,48,47])]⟩ [.agg [.s a,.s b],.agg [.i d,.i e,.i f,.i g,.s h,.s i,.s j],cI c] Tryz.func26
def tQ(cL:O):=cX m R A0 [cS cL] Tryz.func27
def yg(a b:O):=cX m R ⟨[(5,[(20,.I)]),(13,[(66,.I)])],[(12,[])],[(5,[82,80]),(12,[85,82,80]),(13,[85,82,80])]⟩ [.agg [.s a,.s b]] Tryz.func28
def BD(aT:O):=cX m R ⟨[(3,[(3,.I),(8,.I)])],[],[]⟩ [cS aT] Tryz.func29
def yu(a b:O)(bA:Int):=cX m R A0 [.agg [.s a,.s b],cI bA] Tryz.func30
def vE(a:Nat×Nat):=cX m R ⟨[],[(5,[(4,.T)])],[(5,[91])]⟩ [cP a] Tryz.func31
def yR(a b:O):=cX m R ⟨[(4,[(3,.I)])],[],[(4,[30])]⟩ [.agg [.s a,.s b]] Tryz.func32
def DZ(n fX a:Int):=cX m R A0 [cI n,cI fX,cI a] Tryz.func33
def AF(a b c d:Int)(e f g:O):=cX m R A0 [.agg [.i a,.i b,.i c,.i d,.s e,.s f,.s g]] Tryz.func34
def DU(a b:O)(bA:Int):=cX m R A0 [.agg [.s a,.s b],cI bA] Tryz.func35
def Ay(cL:O):=cX m R A0 [cS cL] Tryz.func37
end
section
variable{m:I}{R:Value->I->Prop}
def yv(a b:O)(c d e f:Int)(g h i:O):=cX m R ⟨[(10,[(95,.I)]),(20,[(158,.I)])],[(3,[]),(16,[]),(24,[])],[(3,[191,190]),(10,[191,190]),(16,[197,191,190]),(20,[191,190]),(24,[191,190])]⟩ [.agg [.s a,.s b],.agg [.i c,.i d,.i e,.i f,.s g,.s h,.s i]] Tryz.func41
def yl(a b c d:Int)(e f g:O):=cX m R ⟨[(3,[(20,.I)])],[],[(3,[52,53])]⟩ [.agg [.i a,.i b,.i c,.i d,.s e,.s f,.s g]] Tryz.func46
def BN(r:Nat×Nat):=cX m R A0 [cP r] Tryz.func47
def Cy(r:Nat×Nat):=cX m R A0 [cP r] Tryz.func48
def zD(a b:O):=cX m R ⟨[(5,[(18,.I)])],[],[(5,[43,42])]⟩ [.agg [.s a,.s b]] Tryz.func49
def pB(f g a b:O)(c d:Int)(e:O)(k h i j l:Int)(n o:O):=cX m R ⟨[(6,[(88,.I)])],[(5,[])],[(5,[147,146,145,144]),(6,[147,146,145,144])]⟩ [.agg [.s f,.s g],.agg [.s a,.s b,.i c,.i d,.s e],cI k,.agg [.i h,.i i,.i j,.i l,.s n,.s o]] Tryz.func50
def BG(b c:O)(eP a:Int):=cX m R A0 [.agg [.s b,.s c],cI eP,cI a] Tryz.func51
def wO(a f:Nat×Nat)(b c d e:Int)(g h:O):=cX m R ⟨[(4,[(28,.I)]),(14,[(65,.I)])],[(13,[])],[(4,[212,211]),(13,[212,211]),(14,[212,211])]⟩ [cP a,cP f,.agg [.i b,.i c,.i d,.i e,.s g,.s h]] Tryz.func52
def yp(a f:Nat×Nat)(b c d e:Int)(g h:O):=cX m R ⟨[(3,[(24,.I)])],[],[(3,[353])]⟩ [cP a,cP f,.agg [.i b,.i c,.i d,.i e,.s g,.s h]] Tryz.func53
def AW(a b:O):=cX m R ⟨[(4,[(3,.I)])],[],[(4,[65])]⟩ [.agg [.s a,.s b]] Tryz.func54
def xu(a b:O):=cX m R ⟨[(3,[(4,.I)])],[],[(3,[37,36])]⟩ [.agg [.s a,.s b]] Tryz.func55
def AU(a b c d:O)(e f:Int)(g:O):=cX m R ⟨[(5,[(6,.I)])],[],[(5,[62,61])]⟩ [.agg [.s a,.s b],.agg [.s c,.s d,.i e,.i f,.s g]] Tryz.func56
def ns(a:O):=cX m R A0 [cS a] Tryz.func57
def yQ(a b:O)(bA:Int):=cX m R A0 [.agg [.s a,.s b],cI bA] Tryz.func58
end
section
variable{m:I}{R:Value->I->Prop}
def xk(a:Nat×Nat)(b:Int):=cX m R ⟨[(2,[(5,.I)])],[],[]⟩ [cP a,cI b] Tryz.func59
def GW(n:Int):=cX m R A0 [cI n] Tryz.func67
def wN(h:O):=cX m R ⟨[(3,[(26,.I)]),(8,[(37,.I)]),(21,[(12,.S),(73,.I)]),(28,[(12,.S),(13,.I)]),(33,[(12,.S),(127,.I)])],[(17,[])],[(8,[165]),(33,[175])]⟩ [cS h] Tryz.func68
def oV(s:O)(f:Fn×Array Value×Array Value):=cX m R A0 [cS s,.c (.fv f)] Tryz.func69
def vJ(n:Int):=cX m R A0 [cI n] Tryz.func70
def ym(g h:O)(a b c:Int)(d e f:O):=cX m R ⟨[(7,[(63,.I)])],[],[(7,[97,95,94])]⟩ [.agg [.s g,.s h],.agg [.i a,.i b,.i c,.s d,.s e,.s f]] Tryz.func71
def wL(a b c:Int)(d e f h g bo:O):=cX m R ⟨[(2,[(17,.I)])],[(9,[])],[(2,[82]),(9,[82])]⟩ [.agg [.i a,.i b,.i c,.s d,.s e,.s f],cS h,cS g,cS bo] Tryz.func72
def wh(a:Nat×Nat):=cX m R A0 [cP a] Tryz.func75
end
section
variable{m:I}{R:Value->I->Prop}
def tm(s:O):=cX m R A0 [cS s] Tryz.func77
def zA(h:O):=cX m R ⟨[(3,[(10,.I)])],[],[]⟩ [cS h] Tryz.func78
def mz(s:O):=cX m R A0 [cS s] Tryz.func79
def Am(r:Nat×Nat):=cX m R A0 [cP r] Tryz.func80
def xp(r:Nat×Nat)(n:Int):=cX m R A0 [cP r,cI n] Tryz.func81
def zZ(r:Nat×Nat)(a b:O):=cX m R ⟨[(3,[(6,.I)])],[],[(3,[57,56,55])]⟩ [cP r,.agg [.s a,.s b]] Tryz.func82
def yO(r:Nat×Nat)(a b:O)(c:Int):=cX m R A0 [cP r,.agg [.s a,.s b],cI c] Tryz.func83
def yM(r:Nat×Nat)(a:O):=cX m R A0 [cP r,cS a] Tryz.func84
def zE(aT mw:O):=cX m R ⟨[(4,[(39,.I)]),(9,[(64,.I)])],[],[(9,[108])]⟩ [cS aT,cS mw] Tryz.func85
def vI(a:Int):=cX m R A0 [cI a] Tryz.func86
def ov(a:Int)(b c:Nat×Nat):=cX m R A0 [cI a,cP b,cP c] Tryz.func87
def oA(a:Int)(b:Nat×Nat):=cX m R A0 [cI a,cP b] Tryz.func88
def qe(b c:O)(d e f g:Int)(h i:O)(a:Fn×Array Value×Array Value):=cX m R A0 [.agg [.s b,.s c],.agg [.i d,.i e,.i f,.i g,.s h,.s i],.c (.fv a)] Tryz.func89
def rK(a b:O)(c d e f:Int)(g h:O):=cX m R A0 [.agg [.s a,.s b],.agg [.i c,.i d,.i e,.i f,.s g,.s h]] Tryz.func90
def sq(a:Nat×Nat)(b c d e:Int)(f g:O):=cX m R ⟨[(15,[(4,.S),(5,.S),(31,.I)])],[],[(15,[62])]⟩ [cP a,.agg [.i b,.i c,.i d,.i e,.s f,.s g]] Tryz.func91
def tL(a:Nat×Nat)(w:Int):=cX m R A0 [cP a,cI w] Tryz.func92
def uL(MM:Int)(a:Nat×Nat):=cX m R A0 [cI MM,cP a] Tryz.func93
def Dp(a:O):=cX m R A0 [cS a] Tryz.func94
end
end Go.Proofs.YtgnjacfobdjeeaaGreat
