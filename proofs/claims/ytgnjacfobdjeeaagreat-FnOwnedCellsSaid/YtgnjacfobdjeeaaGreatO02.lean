/- Part of a proof, joined by a program. -/
import Derived.Test.YtgnjacfobdjeeaaGreatProg
import Derived.Test.YtgnjacfobdjeeaaGreatO01
set_option linter.unusedVariables false
set_option linter.unusedSimpArgs false
set_option linter.defProp false
set_option linter.constructorNameAsVariable false
set_option maxHeartbeats 8000000
set_option maxRecDepth 100000
section
namespace Go.Vc
variable{x y:Operand}{k:SV->Prop}{l h:List Ce}{f:Int->Prop}{r:List Sh}{a:Int}{g:Array (Nat×Operand)}{e:List Oper}{Q:Exit->Fr->I->Prop}{c:Code}
section
variable{P:Program}{T:TT}{G:List Nat}{n:Nat}{A:Mu}{m q:I}{p u:Fr}{b o j i t:Nat}{s:Sh}{d:Option Nat}{v:Value}
def nc(n:Nat):Int:=n
def Yt{n:Nat}:nc n=n:=rfl
def SG:Qr T p .len [t] [x] k=match eM T t,ev p x with
 |some ⟨.slice _,_,_⟩,.c (.s s)=>k (.c (.i (nc s.len)))
 |_,_=>False:=rfl
def SH{l:List Nat}:Qr T p .max l [x,y] k=match ev p x,ev p y with
 | .c (.i a),.c (.i b)=>k (.c (.i (if b>a then b else a)))
 |_,_=>False:=rfl
def SI{l:List Nat}:Qr T p .min l [x,y] k=match ev p x,ev p y with
 | .c (.i a),.c (.i b)=>k (.c (.i (if b<a then b else a)))
 |_,_=>False:=rfl
def Pm(m:I)(k:I->Prop):LX m k=(let q:=m;k q):=rfl
def pa{α:Type}(x:α)(f:α->Prop):Prop:=f x
def P7(s:Sh)(f:s.ty->Prop):Prop:=∃x,f x
def RG(s:Sh)(f:s.ty->Prop):Prop:=∀x,f x
def Yi:P7 .I f=∃x,pa x f:=rfl
def Yl{k:IntKind}:P7 (.U k) f=∃x,pa x f:=rfl
def Yg{f:Bool->Prop}:P7 .T f=∃x,pa x f:=rfl
def Vu{f:O->Prop}:P7 .S f=∃x,pa x f:=rfl
def Yk{f:Nat×Nat->Prop}:P7 .P f=∃x,pa x f:=rfl
def Yh{f:Fn×Array Value×Array Value->Prop}:P7 .F f=∃x,pa x f:=rfl
def Yj{f:Nat->Prop}:P7 .M f=∃x,pa x f:=rfl
def X0:RG .I f=∀x,f x:=rfl
def Yc{k:IntKind}:RG (.U k) f=∀x,f x:=rfl
def XY{f:Bool->Prop}:RG .T f=∀x,f x:=rfl
def Vd{f:O->Prop}:RG .S f=∀x,f x:=rfl
def Yb{f:Nat×Nat->Prop}:RG .P f=∀x,f x:=rfl
def XZ{f:Fn×Array Value×Array Value->Prop}:RG .F f=∀x,f x:=rfl
def Ya{f:Nat->Prop}:RG .M f=∀x,f x:=rfl
def Ye{x:Int}:jC (.int .u8 x)=some (.u .u8 x):=rfl
def z0:lU h 0=[]:=rfl
def z1:lU h (n+1)=h++lU h n:=rfl
def tb{a b:Nat}:Nat.testBit a b=(1&&&(a>>>b)!=0):=rfl
def SA{e:Edge}{a:List Edge}:jY (e::a)=bif Region.binds .any e then 2^e.on|||jY a else jY a:=rfl
def b1:Region.binds .any ⟨i,.data⟩=true:=rfl
def b2:Region.binds .any ⟨i,.chain⟩=true:=rfl
def b3:Region.binds .any ⟨i,.guard⟩=true:=rfl
def b4:Region.binds .any ⟨i,.phase⟩=true:=rfl
def b5{x:Departure}:Region.binds .any ⟨i,.gcOnly x⟩=false:=rfl
def b6{x:Departure}:Region.binds .any ⟨i,.textOnly x⟩=false:=rfl
def Pg(c:Ce)(k:List Ce->Prop)(l:List Ce):Prop:=k (c::l)
def R1(k:SV->Prop)(l:List Ce):Prop:=k (.agg l)
def Xs(m:I)(b o j:Nat)(s:Sh)(r:List Sh)(k:List Ce->Prop)(x:s.ty):Prop:=
 D m b (bif j==0 then o else o+j)=some (s.mk x).v/\SZ m b o (j+1) r (Pg (s.mk x) k)
def Vo{k:List Ce->Prop}:SZ m b o j (s::r) k=P7 s (Xs m b o j s r k):=by
 cases j<;>rfl
def Xr(m:I)(b o:Nat)(s:Sh)(k:SV->Prop)(x:s.ty):Prop:=D m b o=some (s.mk x).v/\k (.c (s.mk x))
def QF{t:Nat}:Ni T m t b o k=match eM T t with
 |some ⟨.struct _,a,_⟩=>SZ m b o 0 a (R1 k)
 |some ⟨.cell,[s],_⟩=>P7 s (Xr m b o s k)
 |some ⟨.slice _,[_],_⟩=>∃x:O,D m b o=some x.v/\k (.c (.s x))
 |_=>False:=rfl
def Yn{b:Int}:Int.le a b=(a<=b):=rfl
def Xq(s:O)(z:Nat)(l:Int)(k:SV->Prop)(h:Int):Prop:=Int.le 0 l/\Int.le l h/\Int.le h (nc s.cap)/\k (.c (.s (s.cut l.toNat h.toNat z)))
def Xt(p:Fr)(a:Option Operand)(s:O)(z:Nat)(k:SV->Prop)(l:Int):Prop:=Kb p a (nc s.len) (Xq s z l k)
def Vm{f:Nat}{mk:Nat->SV}:CX T t f o mk k=match eM T t with
 |some ⟨.struct c,_,_⟩=>match EU c f with
  |some (a,u)=>match eM T u with
   |some b=>bif b.sG||Nat.beq b.sh.length 0 then False else bif a==0 then k (mk o)else k (mk (o+a))
   |none=>False
  |none=>False
 |_=>False:=by
 have h:∀a,(bif a==0 then k (mk o)else k (mk (o+a)))=k (mk (o+a)):=λa=>by cases a<;>rfl
 simp only[h];rfl
def SF{s:O}{n:Int}:Un T t s n k=match eM T t with
 |some ⟨.slice e,_,_⟩=>match eM T e with
  |some a=>bif a.sG then False else Int.le 0 n/\n<nc s.len/\k (.c (.p s.F (s.off+n.toNat*a.sh.length)))
  |none=>False
 |_=>False:=rfl
def O8{s:O}{b a:Option Operand}:OF T p t s b a k=match eM T t with
 |some ⟨.slice e,_,_⟩=>match eM T e with
  |some c=>bif c.sG then False else Kb p b 0 (Xt p a s c.sh.length k)
  |none=>False
 |_=>False:=rfl
def O1:rd T p m k (.build t g)=match eM T t with
 |some ⟨.struct a,b,_⟩=>bif td T a then CR T p a (b.map Sh.zero) g.toList (R1 k)else False
 |_=>False:=rfl
def Xx(s:Sh)(r:List Sh)(k:List Ce->Prop)(x:s.ty):Prop:=Rv r (Pg (s.mk x) k)
def SD{k:List Ce->Prop}:Rv (s::r) k=P7 s (Xx s r k):=rfl
def VB(a:AV)(k:List AV->Prop)(l:List AV):Prop:=k (a::l)
def Xz(T:TT)(r:List Nat)(k:List AV->Prop)(l:List Ce):Prop:=PM T r (VB (.agg l) k)
def Xy(T:TT)(s:Sh)(r:List Nat)(k:List AV->Prop)(x:s.ty):Prop:=PM T r (VB (.c (s.mk x)) k)
def SE{r:List Nat}{k:List AV->Prop}:PM T (t::r) k=match eM T t with
 |some ⟨.struct _,a,_⟩=>Rv a (Xz T r k)
 |some ⟨.cell,[s],_⟩=>P7 s (Xy T s r k)
 |some ⟨.slice _,[_],_⟩=>∃x:O,PM T r (VB (.c (.s x)) k)
 |_=>False:=rfl
def Xw(v:Value)(k:SV->Prop)(l:List AV):Prop:=v=.tuple (l.map AV.v).toArray/\k (.Uy l)
def Xv(v:Value)(k:SV->Prop)(l:List Ce):Prop:=v=.agg (l.map Ce.v).toArray/\k (.agg l)
def Xu(v:Value)(s:Sh)(k:SV->Prop)(x:s.ty):Prop:=v=(s.mk x).v/\k (.c (s.mk x))
def SR:Nq T t v k=match eM T t with
 |some ⟨.tuple [],_,_⟩=>k .hO
 |some ⟨.tuple a,_,_⟩=>PM T a (Xw v k)
 |some ⟨.struct _,a,_⟩=>Rv a (Xv v k)
 |some ⟨.cell,[s],_⟩=>P7 s (Xu v s k)
 |some ⟨.slice _,[_],_⟩=>∃x:O,v=x.v/\k (.c (.s x))
 |_=>False:=rfl
def R8(k:Fr->SV->I->Prop)(p:Fr)(m:I)(x:SV):Prop:=k p x m
def Yo(G:List Nat)(g:Nat):Prop:=G.elem g=true
def Vz{G:List Nat}{g:Nat}:Yo G g=(G.elem g=true):=rfl
def nz(b:Int):Prop:=b≠0
def Yu{b:Int}:nz b=(b≠0):=rfl
def SK{b:Int}:pO .quo a b k=(nz b/\k (.c (.i (cK (a.tdiv b))))):=rfl
def SN{b:Int}:pO .rem a b k=(nz b/\k (.c (.i (a.tmod b)))):=rfl
def QC{c:Nat}{f:Operand}{a:List Operand}{k:Fr->SV->I->Prop}:Qu P T G n p m c f a k=match QK p (a.map (ev p))with
 |none=>False
 |some u=>match ev p f with
  | .c (.fn (.func g) first b)=>bif G.elem g&&a.all (λx=>(ev p x).iP)then
   aN P g (first.toList++(a.map λx=>(ev p x).v)++b.toList) m λv q=>xH (JU n u []) m q (Nq T c v (R8 k u q))
   else False
  | .c (.fv b)=>bif a.all (λx=>(ev p x).iP)then
   ∃g,b.1=.func g/\Yo G g/\aN P g (b.2.1.toList++(a.map λx=>(ev p x).v)++b.2.2.toList) m λv q=>xH (JU n u []) m q (Nq T c v (R8 k u q))
   else False
  |_=>False:=rfl
def p3(m:I)(k:Fr->SV->I->Prop)(p:Fr)(x:SV):Prop:=k p x m
def p2(m:I)(k:SV->I->Prop)(x:SV):Prop:=k x m
def QH{k:Fr->SV->I->Prop}:PT n p none m t l k=LX (m.push (.cells (br l) t)) λq=>p3 q k p (.c (.p m.size 0)):=rfl
def QI{j:Nat}{k:Fr->SV->I->Prop}:PT n p (some j) m t l k=match fP p (n+j)with
 | .wZ _ _ _=>False
 |_=>LX (m.push (.cells (br l) t)) λq=>p3 q k ((n+j,.box m.size t l)::p) (.c (.bp (n+j) m.size 0)):=rfl
def Vr{x:SV}{k:Fr->SV->I->Prop}:Mk n p m x l k=match x with
 | .c (.p b o)=>fm m b o l.length/\LX (aj m b o l) λq=>xH (JU n p []) m q (k p .un q)
 | .c (.bp d b o)=>match fP p d with
  | .box a e c=>bif Nat.ble (o+l.length) c.length then LN a b (LX (aj m b o l) λq=>p3 q k ((d,.box a e (iE c o l))::p) .un)else False
  | .wZ _ _ _=>False
  |_=>fm m b o l.length/\LX (aj m b o l) λq=>xH (JU n p []) m q (k p .un q)
 |_=>False:=rfl
def Vq{b:Nat}{k:Fr->SV->I->Prop}:wr P T G n p m d b k (.makeSlice t x y)=match eM T t,ev p x,ev p y with
 |some ⟨.slice e,_,_⟩,.c (.i l),.c (.i c)=>match eM T e with
  |some a=>bif a.sG then False else Int.le 0 l/\Int.le l c/\Int.le (nc a.bytes*c) 281474976710656/\Int.le c 9223372036854775807/\
   LX (m.push (.cells (br (lU (a.sh.map Sh.zero) c.toNat)) e)) λq=>p3 q k p (.c (.s (.mk m.size 0 l.toNat c.toNat)))
  |none=>False
 |_,_,_=>False:=rfl
def Vp{a:Nat}{k:Fr->SV->I->Prop}:wr P T G n p m d a k (.makeMap t none)=LX (m.push (.map #[] 0)) λq=>p3 q k p (.c (.mp m.size)):=rfl
def SC{z:Nat}{s x:O}{k:SV->I->Prop}:Ui m z s x k=∃a:List Ce,a.length=Nat.min x.len s.len*z/\fQ m x.F x.off a/\fm m s.F s.off a.length/\
 LX (aj m s.F s.off a) λq=>p2 q k (.c (.i (nc (Nat.min x.len s.len)))):=rfl
def Xo(p:Fr)(m:I)(e a:Nat)(k:Fr->SV->I->Prop)(l:List Ce):Prop:=match CV p l with
 |some u=>LX (m.push (.cells (br l) e)) λq=>p3 q k u (.c (.s (.mk m.size 0 a a)))
 |none=>False
def Vl{c a:Nat}{k:Fr->SV->I->Prop}:wr P T G n p m d c k (.buildSlice t a g)=match eM T t with
 |some ⟨.slice e,_,_⟩=>match eM T e with
  |some b=>bif b.sG||!(Nat.ble (a*b.sh.length) 16777216)then False else
   uQ T p b.sh.length (lU (b.sh.map Sh.zero) a) g.toList (Xo p m e a k)
  |none=>False
 |_=>False:=rfl
def Xp(n:Nat)(p:Fr)(m:I)(k:Fr->SV->I->Prop)(x:SV)(q:I):Prop:=xH (JU n p []) m q (k p x q)
def QD{b:Nat}{u:Nat}{c:List Nat}{k:Fr->SV->I->Prop}:wr P T G n p m d b k (.call ⟨.builtin .copy,⟨[x,y]⟩,⟨u::c⟩⟩)=match eM T u,ev p x,ev p y with
 |some ⟨.slice e,_,_⟩,.c (.s s),.c (.s z)=>match eM T e with
  |some a=>bif a.sG then False else Ui m a.sh.length s z (Xp n p m k)
  |none=>False
 |_,_,_=>False:=rfl
def kw(P:Program)(T:TT)(G:List Nat)(n:Nat)(e:List Oper)(d:Option Nat)(jG:List Oper)(k:Fr->I->Prop)(p:Fr)(x:SV)(m:I):Prop:=qu P T G n e jG (rU p d x) m k
def kr(P:Program)(T:TT)(G:List Nat)(n:Nat)(e:List Oper)(d:Option Nat)(jG:List Oper)(k:Fr->I->Prop)(p:Fr)(m:I)(x:SV):Prop:=qu P T G n e jG (rU p d x) m k
def ky(P:Program)(T:TT)(G:List Nat)(n:Nat)(e:List Oper)(o:Oper)(jG:List Oper)(k:Fr->I->Prop)(m:I)(p:Fr):Prop:=
 bif IQ o.op then wr P T G n p m o.dst o.type (kw P T G n e o.dst jG k) o.op else rd T p m (kr P T G n e o.dst jG k p m) o.op
def kn(P:Program)(T:TT)(G:List Nat)(n:Nat)(e:List Oper)(d:Option Nat)(jG:List Oper)(k:Fr->I->Prop)(m:I)(p:Fr):Prop:=qu P T G n e jG (rU p d .un) m k
def SJ{o:Oper}{jG:List Oper}{k:Fr->I->Prop}:qu P T G n e (o::jG) p m k=
 bif qd n o.dst then gd e p o.guard (ky P T G n e o jG k m) (kn P T G n e o.dst jG k m)else False:=rfl
abbrev LL:=List (Nat×List (Nat×Nat))
def Xd(P:Program)(T:TT)(G:List Nat)(n:Nat)(e:List Oper)(c a:List Nat)(b done:Nat)(o:Oper)(i:Nat)(m:I)(L:LL)(k:Fr->I->Prop)(p:Fr)(x:SV):Prop:=
 mW P T G n e c a b (done|||2^i) (rU p o.dst x) m ((i,P8 T p o.op)::L) k
def Xg(P:Program)(T:TT)(G:List Nat)(n:Nat)(e:List Oper)(c a:List Nat)(b done:Nat)(o:Oper)(i:Nat)(m:I)(L:LL)(k:Fr->I->Prop)(p:Fr):Prop:=
 rd T p m (Xd P T G n e c a b done o i m L k p) o.op
def Wu(P:Program)(T:TT)(G:List Nat)(n:Nat)(e:List Oper)(c a:List Nat)(b done:Nat)(o:Oper)(i:Nat)(m:I)(L:LL)(k:Fr->I->Prop)(p:Fr):Prop:=
 mW P T G n e c a b (done|||2^i) (rU p o.dst .un) m L k
def Xe(P:Program)(T:TT)(G:List Nat)(n:Nat)(e:List Oper)(c a:List Nat)(b done:Nat)(o:Oper)(i:Nat)(m:I)(L:LL)(k:Fr->I->Prop)(p:Fr)(x:SV)(q:I):Prop:=
 AU (rV a i) m q L (mW P T G n e c a b (done|||2^i) (rU p o.dst x) q L k)
def Xh(P:Program)(T:TT)(G:List Nat)(n:Nat)(e:List Oper)(c a:List Nat)(b done:Nat)(o:Oper)(i:Nat)(m:I)(L:LL)(k:Fr->I->Prop)(p:Fr):Prop:=
 wr P T G n p m o.dst o.type (Xe P T G n e c a b done o i m L k) o.op
def Xf(P:Program)(T:TT)(G:List Nat)(n:Nat)(e:List Oper)(c a:List Nat)(b done:Nat)(m:I)(L:LL)(k:Fr->I->Prop)(p:Fr)(i:Nat):Prop:=match EU e i with
 |some o=>bif qd n o.dst then gd e p o.guard (Xh P T G n e c a b done o i m L k) (Wu P T G n e c a b done o i m L k)else False
 |none=>False
def QE{a b:List Nat}{c done:Nat}{L:LL}{k:Fr->I->Prop}:mW P T G n e a b (c+1) done p m L k=match uK done 0 e a with
 |some i=>match EU e i with
  |some o=>bif qd n o.dst then gd e p o.guard (Xg P T G n e a b c done o i m L k) (Wu P T G n e a b c done o i m L k)else False
  |none=>False
 |none=>match nU done 0 e a with
  |[]=>k p m
  |d=>Lv d (Xf P T G n e a b c done m L k p):=rfl
def QA{f:Nat->Prop}:Lv [i] f=f i:=rfl
def QB{r:List Nat}{f:Nat->Prop}:Lv (i::j::r) f=(f i/\Lv (j::r) f):=rfl
def kq(Q:Exit->Fr->I->Prop)(p:Fr)(m:I):Prop:=Q .normal p m
def SL{e:Array Oper}{a:Bool}:vc P T G n A (.region i e a) p m Q=
 bif a then mW P T G n e.toList (Sf e.toList) (Qs [] e.toList) e.toList.length 0 p m [] (kq Q)
 else qu P T G n e.toList e.toList p m (kq Q):=rfl
def Xm(t:Nat)(s:Sh)(r:List (Nat×Sh))(a:s.ty->EA r)(p:Fr)(k:Fr->(I->Prop)->Prop)(x:s.ty):Prop:=MK r (a x) ((t,.c (s.mk x))::p) k
def Sy{r:List (Nat×Sh)}{a:s.ty->EA r}{k:Fr->(I->Prop)->Prop}:MK ((t,s)::r) a p k=RG s (Xm t s r a p k):=rfl
def Xn(t:Nat)(s:Sh)(r:List (Nat×Sh))(a:s.ty->EA r)(μ:s.ty->Lq r)(p:Fr)(k:Fr->(I->Prop)->(I->Nat)->Prop)(x:s.ty):Prop:=ML r (a x) (μ x) ((t,.c (s.mk x))::p) k
def Sz{r:List (Nat×Sh)}{a:s.ty->EA r}{μ:s.ty->Lq r}{k:Fr->(I->Prop)->(I->Nat)->Prop}:ML ((t,s)::r) a μ p k=RG s (Xn t s r a μ p k):=rfl
def ks(P:Program)(T:TT)(G:List Nat)(n:Nat)(A:Mu)(b:Code)(Q:Exit->Fr->I->Prop):Exit->Fr->I->Prop
 | .normal,u,q=>vc P T G n A b u q Q
 |e,u,q=>Q e u q
def kc(A:Mu)(b:Code)(p:Fr)(l:List (Nat×Sh))(K:EA l)(Q:Exit->Fr->I->Prop):Exit->Fr->I->Prop
 | .normal,u,q=>Ru p u (jy A b) (EE l K u q)
 |e,u,q=>Q e u q
def ki(P:Program)(T:TT)(G:List Nat)(n:Nat)(A:Mu)(b:Code)(Q:Exit->Fr->I->Prop)(u:Fr)(a:I->Prop):Prop:=∀q,a q->vc P T G n A b u q Q
def SS{a b:Code}:vc P T G n A (.seq a b) p m Q=match S0 A.RU b with
 |none=>vc P T G n A a p m (ks P T G n A b Q)
 |some l=>bif nY (mR a) l then∃K:EA l,vc P T G n A a p m (kc A b p l K Q)/\
  MK l K (mf (mR a) (sC n (jy A b) p)) (ki P T G n A b Q)else False:=by
 unfold ks kc ki;rfl
def kb(i:Nat)(Q:Exit->Fr->I->Prop):Exit->Fr->I->Prop
 | .exit j,u,q=>bif Nat.beq j i then Q .normal u q else Q (.exit j) u q
 |e,u,q=>Q e u q
def O0:vc P T G n A (.block i c) p m Q=vc P T G n A c p m (kb i Q):=by
 unfold kb;rfl
def ke(A:Mu)(c:Code)(p:Fr)(l:List (Nat×Sh))(d:EA l)(μ:Lq l)(N:Nat)(Q:Exit->Fr->I->Prop):Exit->Fr->I->Prop
 | .normal,a,b=>Ru p a (jy A c) (Lz l d μ a b N)
 |e,a,b=>Q e a b
def kl(P:Program)(T:TT)(G:List Nat)(n:Nat)(A:Mu)(c:Code)(p:Fr)(l:List (Nat×Sh))(a:EA l)(μ:Lq l)(Q:Exit->Fr->I->Prop)(u:Fr)(b:I->Prop)(μ':I->Nat):Prop:=
 ∀q,b q->vc P T G n A c u q (ke A c p l a μ (μ' q) Q)
def QG:vc P T G n A (.loop c) p m Q=match S0 A.QT c with
 |none=>False
 |some l=>bif nY (mR c) l then∃(I:EA l)(μ:Lq l),EE l I p m/\
  ML l I μ (mf (mR c) (sC n (jy A c) p)) (kl P T G n A c p l I μ Q)else False:=by
 unfold kl ke;rfl
def kR(m:I)(R:Value->I->Prop)(l:List SV):Prop:=match l with
 |[x]=>R x.v m
 |l=>R (.tuple (l.map SV.v).toArray) m
def kx(x:SV)(k:List SV->Prop)(l:List SV):Prop:=k (x::l)
def kz(T:TT)(p:Fr)(m:I)(r:List ResultVar)(k:List SV->Prop)(x:SV):Prop:=bif x.iP then Ds T p m r (kx x k)else False
def O2{r:List ResultVar}{k:List SV->Prop}:Ds T p m (.tmp t::r) k=bif (fP p t).iP then Ds T p m r (kx (fP p t) k)else False:=rfl
def O6{a:Nat}{r:List ResultVar}{k:List SV->Prop}:Ds T p m (.cell a t::r) k=rd T p m (kz T p m r k) (.load t (.tmp a)):=rfl
def kf(T:TT)(a:List ResultVar)(R:Value->I->Prop):Exit->Fr->I->Prop
 | .normal,p,m=>Ds T p m a (kR m R)
 | .ret,p,m=>Ds T p m a (kR m R)
 |_,_,_=>False
def Vn{b:List ResultVar}{a:List SV}{R:Value->I->Prop}:P3 P T G A n b c a m R=vc P T G n A c (sB 0 a) m (kf T b R):=by
 unfold kf kR;rfl
end
def Tg(_:Prop):Type:=Prop
def Tg.p{q:Prop}(t:Tg q):Prop:=t
def Tg.lf(q:Prop):Tg q:=q
def Tg.pm{a b:Prop}{h:Tg a=Tg b}:Tg.p (Eq.mpr h (Tg.lf b))=b:=rfl
def Yw:List.range 1=[0]:=rfl
def Yx:List.range 2=[0,1]:=rfl
def Yy:List.range 3=[0,1,2]:=rfl
def Yz:List.range 4=[0,1,2,3]:=rfl
def YA:List.range 5=[0,1,2,3,4]:=rfl
def YB:List.range 6=[0,1,2,3,4,5]:=rfl
def YC:List.range 7=[0,1,2,3,4,5,6]:=rfl
def Tg.YV{a b c:Prop}{h:Tg a=Tg b}{d:Tg b=Tg c}:Tg.p (Eq.mpr h (Eq.mpr d (Tg.lf c)))=c:=rfl
def Wi(_ _:Prop):Type:=Unit
def Yp{a X:Prop}(_:Wi a X)(t:Tg a)(_:t.p=X):True:=trivial
end Go.Vc
end
namespace Go.Proofs.YtgnjacfobdjeeaaGreat
open Go.Vc
section
noncomputable abbrev bY:=Tryz.prog
def Ug:TT:=[(0,⟨.tuple [],[],0⟩),
 (3,⟨.cell,[.I],8⟩),
 (4,⟨.cell,[.T],1⟩),
 (5,⟨.cell,[(.U .u8)],1⟩),
 (22,⟨.slice 5,[.S],24⟩),
 (23,⟨.slice 92,[.S],24⟩),
 (24,⟨.slice 78,[.S],24⟩),
 (26,⟨.struct [(0,23),(1,24)],[.S,.S],48⟩),
 (27,⟨.tuple [26,3],[],0⟩),
 (29,⟨.slice 3,[.S],24⟩),
 (31,⟨.struct [(0,3),(1,3),(2,3),(3,29)],[.I,.I,.I,.S],48⟩),
 (32,⟨.tuple [31,4],[],0⟩),
 (37,⟨.slice 47,[.S],24⟩),
 (38,⟨.slice 70,[.S],24⟩),
 (40,⟨.struct [(0,3),(1,3),(2,3),(3,3),(4,29),(5,37),(6,38)],[.I,.I,.I,.I,.S,.S,.S],104⟩),
 (41,⟨.tuple [26,40],[],0⟩),
 (47,⟨.struct [(0,3),(1,3),(2,29)],[.I,.I,.S],40⟩),
 (51,⟨.struct [(0,3),(1,3),(2,3),(3,3),(4,3),(5,3),(6,3),(7,3)],[.I,.I,.I,.I,.I,.I,.I,.I],64⟩),
 (52,⟨.tuple [51,4],[],0⟩),
 (55,⟨.tuple [40,4],[],0⟩),
 (62,⟨.struct [(0,26),(2,3),(3,40)],[.S,.S,.I,.I,.I,.I,.I,.S,.S,.S],160⟩),
 (66,⟨.cell,[.P],8⟩),
 (68,⟨.slice 4,[.S],24⟩),
 (70,⟨.struct [(0,3),(1,3),(2,3),(3,29),(4,29),(5,29)],[.I,.I,.I,.S,.S,.S],96⟩),
 (75,⟨.struct [(0,3),(1,3),(2,3),(3,3),(4,29),(5,29)],[.I,.I,.I,.I,.S,.S],80⟩),
 (76,⟨.slice 75,[.S],24⟩),
 (78,⟨.struct [(0,29),(1,29),(2,3),(3,3),(4,76)],[.S,.S,.I,.I,.S],88⟩),
 (84,⟨.slice 136,[.S],24⟩),
 (86,⟨.struct [(0,23),(1,84)],[.S,.S],48⟩),
 (87,⟨.tuple [86,4],[],0⟩),
 (90,⟨.slice 215,[.S],24⟩),
 (92,⟨.struct [(0,3),(1,3),(2,90)],[.I,.I,.S],40⟩),
 (94,⟨.cell,[.P],8⟩),
 (95,⟨.cell,[.P],8⟩),
 (99,⟨.slice 156,[.S],24⟩),
 (101,⟨.struct [(0,23),(1,99)],[.S,.S],48⟩),
 (105,⟨.cell,[.P],8⟩),
 (107,⟨.struct [(0,26),(2,40)],[.S,.S,.I,.I,.I,.I,.S,.S,.S],152⟩),
 (112,⟨.struct [(0,22),(1,3)],[.S,.I],32⟩),
 (116,⟨.cell,[.F],8⟩),
 (117,⟨.tuple [29,4],[],0⟩),
 (122,⟨.cell,[.P],8⟩),
 (124,⟨.cell,[.P],8⟩),
 (126,⟨.struct [(0,3),(1,3),(2,3),(3,3),(4,3),(5,3),(6,3),(7,3)],[.I,.I,.I,.I,.I,.I,.I,.I],64⟩),
 (127,⟨.tuple [3,3],[],0⟩),
 (136,⟨.struct [(0,29),(1,29),(2,3)],[.S,.S,.I],56⟩),
 (140,⟨.tuple [29,29],[],0⟩),
 (145,⟨.slice 47,[.S],24⟩),
 (152,⟨.slice 154,[.S],24⟩),
 (154,⟨.struct [(0,3),(1,3),(2,152)],[.I,.I,.S],40⟩),
 (156,⟨.struct [(0,29),(1,3),(2,154)],[.S,.I,.I,.I,.S],72⟩),
 (163,⟨.tuple [3,4],[],0⟩),
 (171,⟨.slice 202,[.S],24⟩),
 (173,⟨.struct [(0,23),(1,171)],[.S,.S],48⟩),
 (179,⟨.cell,[.F],8⟩),
 (181,⟨.cell,[.P],8⟩),
 (198,⟨.slice 226,[.S],24⟩),
 (200,⟨.struct [(0,198),(1,3)],[.S,.I],32⟩),
 (202,⟨.struct [(0,29),(1,29),(2,3),(3,200)],[.S,.S,.I,.S,.I],88⟩),
 (203,⟨.cell,[.P],8⟩),
 (205,⟨.struct [(0,76)],[.S],24⟩),
 (215,⟨.struct [(0,29)],[.S],24⟩),
 (217,⟨.tuple [3,215],[],0⟩),
 (219,⟨.map 3 3,[.M],8⟩),
 (224,⟨.slice 200,[.S],24⟩),
 (226,⟨.struct [(0,3),(1,3),(2,3),(3,29),(4,224)],[.I,.I,.I,.S,.S],72⟩),
 (229,⟨.cell,[.P],8⟩),
 (230,⟨.tuple [229,4],[],0⟩),
 (233,⟨.struct [(0,29),(1,29),(2,29),(3,29),(4,29),(5,29),(6,29)],[.S,.S,.S,.S,.S,.S,.S],168⟩),
 (259,⟨.slice 29,[.S],24⟩),
 (275,⟨.cell,[.P],8⟩),
 (277,⟨.struct [(0,198),(1,3)],[.S,.I],32⟩)]
abbrev lT:Nat:=4
abbrev NF:Nat:=22
abbrev cO:Nat:=200
abbrev qL:Nat:=47
abbrev ns:Nat:=215
abbrev jk:Nat:=92
abbrev bz:Nat:=154
abbrev eg:Nat:=70
abbrev eE:Nat:=156
abbrev tv:Nat:=26
abbrev dz:Nat:=75
abbrev lK:Nat:=173
abbrev iB:Nat:=78
abbrev jA:Nat:=101
abbrev iY:Nat:=202
abbrev jP:Nat:=40
abbrev fg:Nat:=226
abbrev HP:Nat:=62
abbrev oh:Nat:=136
abbrev kD:Nat:=86
abbrev aB:Nat:=3
abbrev vz:Nat:=29
abbrev mG:Nat:=205
abbrev yZ:Nat:=233
abbrev j7:Nat:=277
abbrev bF:Nat:=107
abbrev om:Nat:=112
abbrev Rc:Nat:=5
def OK:sA bY Ug:=by
 unfold sA;kernel_rfl
def GL:List Nat:=List.range' 3 335
def Xk:RC bY GL:=by
 unfold RC;kernel_rfl
def XB:bY.follows .mixedOrders=true:=by kernel_rfl
def Yr(a b:Nat):Nat.beq a b=(a==b):=by rw[GN];simp
def Yq(a b:Nat):Nat.ble a b=(a -b==0):=by rw[GN];simp;omega
def Ys(a b:Nat):Nat.blt a b=(a+1 -b==0):=by rw[GN];simp[Nat.blt];omega
def Ym(g:Nat):List.elem g GL=(3 -g==0&&(g -337==0)):=by rw[GN];simp[GL];omega
section
variable{α β:Type}{a:α}{b:β}
def Yd(l:List α):(Array.mk l).toList=l:=rfl
end
section
variable(a b c d e f)
def o1:(Oper.mk a b c d e f).dst=a:=rfl
def o2:(Oper.mk a b c d e f).op=b:=rfl
def o3:(Oper.mk a b c d e f).type=c:=rfl
def o5:(Oper.mk a b c d e f).after=e:=rfl
def o6:(Oper.mk a b c d e f).guard=f:=rfl
end
section
variable(a b c)
def a2:(Mu.mk a b c).QT=a:=rfl
def a3:(Mu.mk a b c).RU=b:=rfl
def a4:(Mu.mk a b c).fu=c:=rfl
def t1:(TI.mk a b c).EP=a:=rfl
def t2:(TI.mk a b c).sh=b:=rfl
def t3:(TI.mk a b c).bytes=c:=rfl
def g1:(Edge.mk a b).on=a:=rfl
def g2:(Edge.mk a b).ground=b:=rfl
end
def A0:Mu:=⟨[],[],[]⟩
def cI(x:Int):SV:=.c (.i x)
def cS(x:O):SV:=.c (.s x)
def cP(x:Nat×Nat):SV:=.c (.p x.1 x.2)
def lx(n:Nat){x:TI}(h:eM Ug n=some x:=by cbv):eM Ug n=some x:=h
def YE:=lx 0
def YF:=lx 3
def YG:=lx 4
def YH:=lx 5
def VL:=lx 22
def VM:=lx 23
def VN:=lx 24
def VO:=lx 26
def VP:=lx 27
def VQ:=lx 29
def VR:=lx 31
def VS:=lx 32
def VT:=lx 37
def VU:=lx 38
def VV:=lx 40
def VW:=lx 41
def VX:=lx 47
def VY:=lx 51
def VZ:=lx 52
def V0:=lx 55
def V1:=lx 62
def V2:=lx 66
def V3:=lx 68
def V5:=lx 70
def V6:=lx 75
def V7:=lx 76
def V8:=lx 78
def V9:=lx 84
def Wa:=lx 86
def Wb:=lx 87
def Wc:=lx 90
def Wd:=lx 92
def We:=lx 94
def Wf:=lx 95
def Wg:=lx 99
def Te:=lx 101
def Tf:=lx 105
def Th:=lx 107
def Ti:=lx 112
def Tj:=lx 116
def Tk:=lx 117
def Tl:=lx 122
def Tm:=lx 124
def Tn:=lx 126
def Tp:=lx 127
def Tq:=lx 136
def Ts:=lx 140
def Tt:=lx 145
def Tu:=lx 152
def Tv:=lx 154
def Tw:=lx 156
def Tx:=lx 163
def Tz:=lx 171
def TA:=lx 173
def TB:=lx 179
def TC:=lx 181
def TD:=lx 198
def TE:=lx 200
def TF:=lx 202
def TG:=lx 203
def TH:=lx 205
def TJ:=lx 215
def TL:=lx 217
def TM:=lx 219
def TN:=lx 224
def TO:=lx 226
def TP:=lx 229
def TQ:=lx 230
def TR:=lx 233
def TS:=lx 259
def TU:=lx 275
def TV:=lx 277
def cQ(m:I)(R:Value->I->Prop)(A:Mu)(a:List SV){f:FuncId}{b:Go.Func}{X:Prop}{c:Code}{n:Nat}{e:List ResultVar}{g:List Value}(l:bY.funcs[f]? =some b)
 (d:(b.body,b.ntmps,b.results)=(some c,n,Array.mk e):=by cbv)
 (i:a.all SV.iP=true:=by kernel_rfl)(o:Nat.ble a.length n=true:=by kernel_rfl)(j:oH c=true:=by kernel_rfl)
 (p:a.map SV.v=g:=by dsimp only[List.map,cI,cS,cP,SV.v,Ce.v])
 (w:Wi (P3 bY Ug GL A n e c a m R) X->True:=by intro w;obtain - :=Yp w (by sym -abstractProof=>simp[Ym,A0.eq_1,cI.eq_1,cS.eq_1,cP.eq_1,YE,YF,YG,YH,VL,VM,VN,VO,VP,VQ,VR,VS,VT,VU,VV,VW,VX,VY,VZ,V0,V1,V2,V3,V5,V6,V7,V8,V9,Wa,Wb,Wc,Wd,We,Wf,Wg,Te,Tf,Th,Ti,Tj,Tk,Tl,Tm,Tn,Tp,Tq,Ts,Tt,Tu,Tv,Tw,Tx,Tz,TA,TB,TC,TD,TE,TF,TG,TH,TJ,TL,TM,TN,TO,TP,TQ,TR,TS,TU,TV,Yr,Yq,Ys,Yd,o1,o2,o3,o5,o6,a2,a3,a4,t1,t2,t3,g1,g2,cg,eI,cR,dT,Li,List.all_nil,bg,eF,List.elem_cons,Lh,Bool.false_and,Ss,Sr,Bool.true_or,Lg,JS,Bool.and_true,mz,Option.map_none,ig,ic,kO,List.flatMap_nil,List.isEmpty_cons,List.isEmpty_nil,List.any_cons,NM,oX,WG,sB.eq_1,sB.eq_2,vc.eq_1,vc.eq_4,vc.eq_6,vc.eq_7,vc.eq_8,sK.eq_def,VG.eq_def,Tb.eq_def,pp.eq_1,pp.eq_2,Ja.eq_def,Ru.eq_1,Ru.eq_2,sC.eq_1,AG.eq_1,AG.eq_2,jy.eq_1,nY.eq_1,nY.eq_2,mR.eq_def,mf.eq_1,mf.eq_2,ML.eq_1,MK.eq_1,Lz.eq_1,Lz.eq_2,EE.eq_1,EE.eq_2,Oj.eq_def,S0.eq_1,AK.eq_def,lk.eq_1,lk.eq_2,mW.eq_1,AU.eq_1,AU.eq_2,Jj.eq_1,Jj.eq_2,nU.eq_def,uK.eq_def,jE.eq_1,mD.eq_1,mD.eq_2,jY.eq_1,rV.eq_1,rV.eq_2,rV.eq_3,qu.eq_1,xh.eq_1,xh.eq_2,gd.eq_1,gd.eq_2,IH.eq_1,qd.eq_1,qd.eq_2,IQ.eq_def,wr.eq_1,wr.eq_2,wr.eq_4,wr.eq_6,wr.eq_8,wr.eq_9,wr.eq_10,wr.eq_11,uQ.eq_1,uQ.eq_2,PM.eq_1,Rv.eq_1,JU.eq_def,xH.eq_def,rd.eq_1,rd.eq_2,rd.eq_3,rd.eq_4,rd.eq_5,rd.eq_6,rd.eq_7,rd.eq_8,rd.eq_9,rd.eq_10,rd.eq_11,rd.eq_12,rd.eq_13,rd.eq_15,P8.eq_def,SG,SH,SI,KJ.eq_1,Ej.eq_1,Ej.eq_2,LP.eq_1,Kb.eq_1,Kb.eq_2,td.eq_1,td.eq_2,CR.eq_1,CR.eq_2,kH.eq_1,kH.eq_2,kH.eq_3,kH.eq_4,kH.eq_5,SV.cells.eq_def,WC.eq_def,Sa.eq_def,RI.eq_def,pO.eq_1,pO.eq_2,pO.eq_3,pO.eq_6,pO.eq_7,pO.eq_8,pO.eq_9,pO.eq_10,pO.eq_11,pO.eq_12,SK,SN,SZ.eq_1,EU.eq_1,EU.eq_2,EU.eq_3,jW.eq_def,SV.iP.eq_def,TI.sG.eq_1,TI.agg.eq_1,Sh.zero.eq_1,Sh.zero.eq_2,Sh.zero.eq_3,Sh.zero.eq_4,Sh.zero.eq_5,Sh.zero.eq_6,Sh.zero.eq_7,ev.eq_1,ev.eq_2,ev.eq_3,ev.eq_4,CT.eq_def,nL.eq_1,nL.eq_2,jC.eq_1,jC.eq_3,jC.eq_4,jC.eq_5,jC.eq_6,jC.eq_7,rU.eq_1,rU.eq_2,SV.nb.eq_def,fP.eq_1,fP.eq_2,AV.sv.eq_1,AV.sv.eq_2,SV.v.eq_1,SV.v.eq_2,SV.v.eq_3,SV.v.eq_4,SV.v.eq_5,SV.v.eq_6,SV.v.eq_7,SV.v.eq_8,SV.v.eq_9,AV.v.eq_1,AV.v.eq_2,Ce.v.eq_1,Ce.v.eq_2,Ce.v.eq_3,Ce.v.eq_4,Ce.v.eq_5,Ce.v.eq_6,Ce.v.eq_7,Ce.v.eq_8,Ce.v.eq_9,Ce.v.eq_10,Ce.v.eq_11,Ce.v.eq_12,Ce.v.eq_13,tc.eq_1,tc.eq_2,QK.eq_1,CV.eq_def,iE.eq_1,iE.eq_2,EA.eq_1,EA.eq_2,Lq.eq_1,Lq.eq_2,Sh.ty.eq_1,Sh.ty.eq_2,Sh.ty.eq_3,Sh.ty.eq_4,Sh.ty.eq_5,Sh.ty.eq_6,Sh.ty.eq_7,Sh.mk.eq_1,Sh.mk.eq_2,Sh.mk.eq_3,Sh.mk.eq_4,Sh.mk.eq_5,Sh.mk.eq_6,Sh.mk.eq_7,NZ.eq_1,SV.RN.eq_def,AV.RN.eq_1,AV.RN.eq_2,Ds.eq_1,Sf.eq_1,Sf.eq_2,Qs.eq_1,Qs.eq_2,Xs.eq_1,Xr.eq_1,Xx.eq_1,Xy.eq_1,Xu.eq_1,Xm.eq_1,Xn.eq_1,pa.eq_1,p3.eq_1,p2.eq_1,Pg.eq_1,R1.eq_1,Xq.eq_1,Xt.eq_1,VB.eq_1,Xz.eq_1,Xw.eq_1,Xv.eq_1,R8.eq_1,Xo.eq_1,Xp.eq_1,kw.eq_1,kr.eq_1,ky.eq_1,kn.eq_1,Xd.eq_1,Xg.eq_1,Wu.eq_1,Xe.eq_1,Xh.eq_1,Xf.eq_1,kq.eq_1,ks.eq_def,kc.eq_def,ki.eq_1,kb.eq_def,ke.eq_def,kl.eq_1,kR.eq_def,kx.eq_1,kz.eq_1,kf.eq_def,Lv.eq_1,Vo,QF,O8,O1,SD,SE,SR,QC,Vl,QD,SJ,QE,QA,QB,SL,SS,O0,QG,O2,O6,Vn,Vm,Sy,Sz,Yi,Yl,Yg,Vu,Yk,Yh,Yj,X0,Yc,XY,Vd,Yb,XZ,Ya,Ye,z0,z1,tb,SA,b1,b2,b3,b4,b5,b6,QH,QI,Vr,Vq,Vp,SC,SF,Yw,Yx,Yy,Yz,YA,YB,YC,iJ];exact Tg.lf _) (by refine Tg.pm.trans ?_;dsimp -zeta+instances only[↓Pm,Yn,↓Vz,Yu,Yt,EA,Lq,Sh.ty,Int.cast_ofNat_Int]);trivial)
 (k:X=P3 bY Ug GL A n e c a m R:=by kernel_rfl)
 :X->aN bY f g m R:=λh=>by
 subst p
 exact CD OK Xk XB l (rQ Prod.fst d) (rQ (λx=>x.2.1) d) (rQ (λx=>x.2.2) d) i (ka o) j (k▸h)
def XO(m:I)(R:Value->I->Prop)(A:Mu)(a:List SV){f:FuncId}{b:Go.Func}{X:Prop}{c:Code}{n:Nat}{e:List ResultVar}{g:List Value}(l:bY.funcs[f]? =some b)
 (d:(b.body,b.ntmps,b.results)=(some c,n,Array.mk e):=by cbv)
 (i:a.all SV.iP=true:=by kernel_rfl)(o:Nat.ble a.length n=true:=by kernel_rfl)(j:oH c=true:=by kernel_rfl)
 (p:a.map SV.v=g:=by dsimp only[List.map,cI,cS,cP,SV.v,Ce.v])
 (w:Wi (P3 bY Ug GL A n e c a m R) X->True:=by intro w;obtain - :=Yp w (by sym -abstractProof=>simp[Ym,A0.eq_1,cI.eq_1,cS.eq_1,cP.eq_1,YE,YF,YG,YH,VL,VM,VN,VO,VP,VQ,VR,VS,VT,VU,VV,VW,VX,VY,VZ,V0,V1,V2,V3,V5,V6,V7,V8,V9,Wa,Wb,Wc,Wd,We,Wf,Wg,Te,Tf,Th,Ti,Tj,Tk,Tl,Tm,Tn,Tp,Tq,Ts,Tt,Tu,Tv,Tw,Tx,Tz,TA,TB,TC,TD,TE,TF,TG,TH,TJ,TL,TM,TN,TO,TP,TQ,TR,TS,TU,TV,Yr,Yq,Ys,Yd,o1,o2,o3,o5,o6,a2,a3,a4,t1,t2,t3,g1,g2,cg,eI,cR,dT,Li,List.all_nil,bg,eF,List.elem_cons,Lh,Bool.false_and,Ss,Sr,Bool.true_or,Lg,JS,Bool.and_true,mz,Option.map_none,ig,ic,kO,List.flatMap_nil,List.isEmpty_cons,List.isEmpty_nil,List.any_cons,NM,oX,WG,sB.eq_1,sB.eq_2,vc.eq_1,vc.eq_4,vc.eq_6,vc.eq_7,vc.eq_8,sK.eq_def,VG.eq_def,Tb.eq_def,pp.eq_1,pp.eq_2,Ja.eq_def,Ru.eq_1,Ru.eq_2,sC.eq_1,AG.eq_1,AG.eq_2,jy.eq_1,nY.eq_1,nY.eq_2,mR.eq_def,mf.eq_1,mf.eq_2,ML.eq_1,MK.eq_1,Lz.eq_1,Lz.eq_2,EE.eq_1,EE.eq_2,Oj.eq_def,S0.eq_1,AK.eq_def,lk.eq_1,lk.eq_2,mW.eq_1,AU.eq_1,AU.eq_2,nU.eq_def,uK.eq_def,jE.eq_1,mD.eq_1,mD.eq_2,jY.eq_1,rV.eq_1,rV.eq_2,rV.eq_3,qu.eq_1,xh.eq_1,xh.eq_2,gd.eq_1,gd.eq_2,IH.eq_1,qd.eq_1,qd.eq_2,IQ.eq_def,wr.eq_1,wr.eq_2,wr.eq_4,wr.eq_6,wr.eq_8,wr.eq_9,wr.eq_10,wr.eq_11,uQ.eq_1,uQ.eq_2,PM.eq_1,Rv.eq_1,JU.eq_def,xH.eq_def,rd.eq_1,rd.eq_2,rd.eq_3,rd.eq_4,rd.eq_5,rd.eq_6,rd.eq_7,rd.eq_8,rd.eq_9,rd.eq_10,rd.eq_11,rd.eq_12,rd.eq_13,rd.eq_15,P8.eq_def,SG,SH,SI,KJ.eq_1,Ej.eq_1,Ej.eq_2,LP.eq_1,Kb.eq_1,Kb.eq_2,td.eq_1,td.eq_2,CR.eq_1,CR.eq_2,kH.eq_1,kH.eq_2,kH.eq_3,kH.eq_4,kH.eq_5,SV.cells.eq_def,WC.eq_def,Sa.eq_def,RI.eq_def,pO.eq_1,pO.eq_2,pO.eq_3,pO.eq_6,pO.eq_7,pO.eq_8,pO.eq_9,pO.eq_10,pO.eq_11,pO.eq_12,SK,SN,SZ.eq_1,EU.eq_1,EU.eq_2,EU.eq_3,jW.eq_def,SV.iP.eq_def,TI.sG.eq_1,TI.agg.eq_1,Sh.zero.eq_1,Sh.zero.eq_2,Sh.zero.eq_3,Sh.zero.eq_4,Sh.zero.eq_5,Sh.zero.eq_6,Sh.zero.eq_7,ev.eq_1,ev.eq_2,ev.eq_3,ev.eq_4,CT.eq_def,nL.eq_1,nL.eq_2,jC.eq_1,jC.eq_3,jC.eq_4,jC.eq_5,jC.eq_6,jC.eq_7,rU.eq_1,rU.eq_2,SV.nb.eq_def,fP.eq_1,fP.eq_2,AV.sv.eq_1,AV.sv.eq_2,SV.v.eq_1,SV.v.eq_2,SV.v.eq_3,SV.v.eq_4,SV.v.eq_5,SV.v.eq_6,SV.v.eq_7,SV.v.eq_8,SV.v.eq_9,AV.v.eq_1,AV.v.eq_2,Ce.v.eq_1,Ce.v.eq_2,Ce.v.eq_3,Ce.v.eq_4,Ce.v.eq_5,Ce.v.eq_6,Ce.v.eq_7,Ce.v.eq_8,Ce.v.eq_9,Ce.v.eq_10,Ce.v.eq_11,Ce.v.eq_12,Ce.v.eq_13,tc.eq_1,tc.eq_2,QK.eq_1,CV.eq_def,iE.eq_1,iE.eq_2,EA.eq_1,EA.eq_2,Lq.eq_1,Lq.eq_2,Sh.ty.eq_1,Sh.ty.eq_2,Sh.ty.eq_3,Sh.ty.eq_4,Sh.ty.eq_5,Sh.ty.eq_6,Sh.ty.eq_7,Sh.mk.eq_1,Sh.mk.eq_2,Sh.mk.eq_3,Sh.mk.eq_4,Sh.mk.eq_5,Sh.mk.eq_6,Sh.mk.eq_7,NZ.eq_1,SV.RN.eq_def,AV.RN.eq_1,AV.RN.eq_2,Ds.eq_1,Sf.eq_1,Sf.eq_2,Qs.eq_1,Qs.eq_2,Xs.eq_1,Xr.eq_1,Xx.eq_1,Xy.eq_1,Xu.eq_1,Xm.eq_1,Xn.eq_1,pa.eq_1,p3.eq_1,p2.eq_1,Pg.eq_1,R1.eq_1,Xq.eq_1,Xt.eq_1,VB.eq_1,Xz.eq_1,Xw.eq_1,Xv.eq_1,R8.eq_1,Xo.eq_1,Xp.eq_1,kw.eq_1,kr.eq_1,ky.eq_1,kn.eq_1,Xd.eq_1,Xg.eq_1,Wu.eq_1,Xe.eq_1,Xh.eq_1,Xf.eq_1,kq.eq_1,ks.eq_def,kc.eq_def,ki.eq_1,kb.eq_def,ke.eq_def,kl.eq_1,kR.eq_def,kx.eq_1,kz.eq_1,kf.eq_def,Lv.eq_1,Vo,QF,O8,O1,SD,SE,SR,QC,Vl,QD,SJ,QE,QA,QB,SL,SS,O0,QG,O2,O6,Vn,Vm,Sy,Sz,Yi,Yl,Yg,Vu,Yk,Yh,Yj,X0,Yc,XY,Vd,Yb,XZ,Ya,Ye,z0,z1,tb,SA,b1,b2,b3,b4,b5,b6,QH,QI,Vr,Vq,Vp,SC,SF];simp[cg,eI,iJ,Jj.eq_1,Jj.eq_2,Yw,Yx,Yy,Yz,YA,YB,YC];exact Tg.lf _) (by refine Tg.YV.trans ?_;dsimp -zeta+instances only[↓Pm,Yn,↓Vz,Yu,Yt,EA,Lq,Sh.ty,Int.cast_ofNat_Int]);trivial)
 (k:X=P3 bY Ug GL A n e c a m R:=by kernel_rfl)
 :X->aN bY f g m R:=λh=>by
 subst p
 exact CD OK Xk XB l (rQ Prod.fst d) (rQ (λx=>x.2.1) d) (rQ (λx=>x.2.2) d) i (ka o) j (k▸h)
end
section
variable{m:I}{R:Value->I->Prop}
def tQ(cE:O):=cQ m R ⟨[(8,[(6,.I)])],[],[(8,[66,65])]⟩ [cS cE] Tryz.func4
def rW(cE:O):=cQ m R A0 [cS cE] Tryz.func13
def vU(a b:O)(c d e f:Int)(g h i:O):=cQ m R ⟨[(5,[(21,.I)]),(8,[(28,.I)])],[],[(5,[50,49]),(8,[54,50,49])]⟩ [.agg [.s a,.s b],.agg [.i c,.i d,.i e,.i f,.s g,.s h,.s i]] Tryz.func14
def xA(a b:O):=cQ m R ⟨[(4,[(5,.I)])],[],[]⟩ [cS a,cS b] Tryz.func15
def wc(a b:O)(c d e f:Int)(g h i:O):=cQ m R ⟨[(6,[(6,.S),(7,.I)])],[],[(6,[34,33])]⟩ [.agg [.s a,.s b],.agg [.i c,.i d,.i e,.i f,.s g,.s h,.s i]] Tryz.func16
def vW(a b:O)(c d e f:Int)(g h i:O):=cQ m R A0 [.agg [.s a,.s b],.agg [.i c,.i d,.i e,.i f,.s g,.s h,.s i]] Tryz.func17
def Hc(a:O)(n:Int):=cQ m R ⟨[(2,[(5,.I)])],[],[]⟩ [cS a,cI n] Tryz.func18
def EQ(h:O)(a:Int):=cQ m R A0 [cS h,cI a] Tryz.func19
def Bt(a:O):=cQ m R ⟨[(2,[(3,.I)])],[],[]⟩ [cS a] Tryz.func20
end
section
variable{m:I}{R:Value->I->Prop}
def vV(a b:O):=cQ m R ⟨[(5,[(20,.I)]),(13,[(66,.I)])],[(12,[])],[(5,[82,80]),(12,[85,82,80]),(13,[85,82,80])]⟩ [.agg [.s a,.s b]] Tryz.func28
def zC(aT:O):=cQ m R ⟨[(3,[(3,.I),(8,.I)])],[],[]⟩ [cS aT] Tryz.func29
def wJ(a b:O):=cQ m R ⟨[(4,[(3,.I)])],[],[(4,[30])]⟩ [.agg [.s a,.s b]] Tryz.func32
def BV(n fq a:Int):=cQ m R A0 [cI n,cI fq,cI a] Tryz.func33
def wh(r:Nat×Nat):=cQ m R A0 [cP r] Tryz.func36
def yz(cE:O):=cQ m R A0 [cS cE] Tryz.func37
def xt(a:O):=cQ m R ⟨[(3,[(3,.S),(8,.I)])],[],[]⟩ [cS a] Tryz.func38
def wM(a b:O)(c d e f:Int)(g h i:O):=cQ m R ⟨[(8,[(5,.I)])],[(5,[])],[(5,[93,92]),(8,[93,92])]⟩ [.agg [.s a,.s b],.agg [.i c,.i d,.i e,.i f,.s g,.s h,.s i]] Tryz.func39
def An(a b c d:Int)(e f g:O):=cQ m R ⟨[(3,[(4,.I)]),(7,[(6,.I)])],[],[(3,[61]),(7,[65,61])]⟩ [.agg [.i a,.i b,.i c,.i d,.s e,.s f,.s g]] Tryz.func40
end
section
variable{m:I}{R:Value->I->Prop}
def vZ(a b:O)(c d e f:Int)(g h i:O):=cQ m R ⟨[(10,[(95,.I)]),(20,[(158,.I)])],[(3,[]),(16,[]),(24,[])],[(3,[191,190]),(10,[191,190]),(16,[197,191,190]),(20,[191,190]),(24,[191,190])]⟩ [.agg [.s a,.s b],.agg [.i c,.i d,.i e,.i f,.s g,.s h,.s i]] Tryz.func41
def Db(h:O)(a:Int):=cQ m R A0 [cS h,cI a] Tryz.func42
def zJ(r:Nat×Nat):=cQ m R A0 [cP r] Tryz.func47
def xr(a b:O):=cQ m R ⟨[(5,[(18,.I)])],[],[(5,[43,42])]⟩ [.agg [.s a,.s b]] Tryz.func49
def nP(f g a b:O)(c d:Int)(e:O)(k h i j l:Int)(n o:O):=cQ m R ⟨[(6,[(88,.I)])],[(5,[])],[(5,[147,146,145,144]),(6,[147,146,145,144])]⟩ [.agg [.s f,.s g],.agg [.s a,.s b,.i c,.i d,.s e],cI k,.agg [.i h,.i i,.i j,.i l,.s n,.s o]] Tryz.func50
def yW(a b:O):=cQ m R ⟨[(4,[(3,.I)])],[],[(4,[65])]⟩ [.agg [.s a,.s b]] Tryz.func54
def vo(a b:O):=cQ m R ⟨[(3,[(4,.I)])],[],[(3,[37,36])]⟩ [.agg [.s a,.s b]] Tryz.func55
def yU(a b c d:O)(e f:Int)(g:O):=cQ m R ⟨[(5,[(6,.I)])],[],[(5,[62,61])]⟩ [.agg [.s a,.s b],.agg [.s c,.s d,.i e,.i f,.s g]] Tryz.func56
def me(a:O):=cQ m R A0 [cS a] Tryz.func57
def wH(a b:O)(dK:Int):=cQ m R A0 [.agg [.s a,.s b],cI dK] Tryz.func58
end
section
variable{m:I}{R:Value->I->Prop}
def vh(a:Nat×Nat)(b:Int):=cQ m R ⟨[(2,[(5,.I)])],[],[]⟩ [cP a,cI b] Tryz.func59
def wG(r:Nat×Nat)(a b c d:Int)(e f g:O):=cQ m R A0 [cP r,.agg [.i a,.i b,.i c,.i d,.s e,.s f,.s g]] Tryz.func60
def yi(r:Nat×Nat)(a b:O):=cQ m R A0 [cP r,.agg [.s a,.s b]] Tryz.func61
def we(a:O):=cQ m R ⟨[(2,[(3,.I)])],[],[]⟩ [cS a] Tryz.func62
def yR(h:O):=cQ m R ⟨[(4,[(3,.I)]),(10,[(5,.I)])],[(3,[])],[]⟩ [cS h] Tryz.func63
def wI(a b:O)(c d e f:Int)(g h i:O)(k:Int):=cQ m R A0 [.agg [.s a,.s b],.agg [.i c,.i d,.i e,.i f,.s g,.s h,.s i],cI k] Tryz.func64
def Ac(a b c d:Int)(e f g:O):=cQ m R ⟨[(3,[(4,.I)]),(6,[(5,.I)]),(14,[(7,.I)])],[],[(3,[101]),(6,[101]),(14,[101])]⟩ [.agg [.i a,.i b,.i c,.i d,.s e,.s f,.s g]] Tryz.func65
def uY(a b c d:Int)(e f g:O):=cQ m R ⟨[(4,[(5,.I)])],[],[(4,[44])]⟩ [.agg [.i a,.i b,.i c,.i d,.s e,.s f,.s g]] Tryz.func66
def EN(n:Int):=cQ m R A0 [cI n] Tryz.func67
def uO(h:O):=cQ m R ⟨[(3,[(26,.I)]),(8,[(37,.I)]),(21,[(12,.S),(73,.I)]),(28,[(12,.S),(13,.I)]),(33,[(12,.S),(127,.I)])],[(17,[])],[(8,[165]),(33,[175])]⟩ [cS h] Tryz.func68
def nu(s:O)(f:Fn×Array Value×Array Value):=cQ m R A0 [cS s,.c (.fv f)] Tryz.func69
def tP(n:Int):=cQ m R A0 [cI n] Tryz.func70
def vY(g h:O)(a b c:Int)(d e f:O):=cQ m R ⟨[(7,[(63,.I)])],[],[(7,[97,95,94])]⟩ [.agg [.s g,.s h],.agg [.i a,.i b,.i c,.s d,.s e,.s f]] Tryz.func71
def uN(a b c:Int)(d e f h g bn:O):=cQ m R ⟨[(2,[(17,.I)])],[(9,[])],[(2,[82]),(9,[82])]⟩ [.agg [.i a,.i b,.i c,.s d,.s e,.s f],cS h,cS g,cS bn] Tryz.func72
def um(a:Nat×Nat):=cQ m R A0 [cP a] Tryz.func75
end
section
variable{m:I}{R:Value->I->Prop}
def rm(s:O):=cQ m R A0 [cS s] Tryz.func77
def yh(r:Nat×Nat):=cQ m R A0 [cP r] Tryz.func80
def vk(r:Nat×Nat)(n:Int):=cQ m R A0 [cP r,cI n] Tryz.func81
def xQ(r:Nat×Nat)(a b:O):=cQ m R ⟨[(3,[(6,.I)])],[],[(3,[57,56,55])]⟩ [cP r,.agg [.s a,.s b]] Tryz.func82
def wE(r:Nat×Nat)(a b:O)(c:Int):=cQ m R A0 [cP r,.agg [.s a,.s b],cI c] Tryz.func83
def wC(r:Nat×Nat)(a:O):=cQ m R A0 [cP r,cS a] Tryz.func84
def xw(aT pC:O):=cQ m R ⟨[(4,[(39,.I)]),(9,[(64,.I)])],[],[(9,[108])]⟩ [cS aT,cS pC] Tryz.func85
def tO(a:Int):=cQ m R A0 [cI a] Tryz.func86
def mO(a:Int)(b c:Nat×Nat):=cQ m R A0 [cI a,cP b,cP c] Tryz.func87
def mP(a:Int)(b:Nat×Nat):=cQ m R A0 [cI a,cP b] Tryz.func88
def oK(b c:O)(d e f g:Int)(h i:O)(a:Fn×Array Value×Array Value):=cQ m R A0 [.agg [.s b,.s c],.agg [.i d,.i e,.i f,.i g,.s h,.s i],.c (.fv a)] Tryz.func89
def pQ(a b:O)(c d e f:Int)(g h:O):=cQ m R A0 [.agg [.s a,.s b],.agg [.i c,.i d,.i e,.i f,.s g,.s h]] Tryz.func90
end
section
variable{m:I}{R:Value->I->Prop}
def Dd(aT:O)(t:Int):=cQ m R ⟨[(6,[(6,.S),(28,.I)])],[],[]⟩ [cS aT,cI t] Tryz.func106
def wN(aT:O):=cQ m R ⟨[(4,[(3,.I)])],[],[]⟩ [cS aT] Tryz.func110
def zH(aT a:O):=cQ m R ⟨[(2,[(5,.I)])],[],[]⟩ [cS aT,cS a] Tryz.func111
def yT(a cW:O):=cQ m R ⟨[(2,[(5,.I)])],[],[]⟩ [cS a,cS cW] Tryz.func112
end
end Go.Proofs.YtgnjacfobdjeeaaGreat
