/- Part of a proof. -/
import Derived.Test.YtkicoahejfbjhaaGreatProg
import Derived.Test.YtkicoahejfbjhaaGreatSA01
set_option linter.all false
set_option maxHeartbeats 8000000
set_option maxRecDepth 100000
section
namespace Go.Vc
variable{x y:Operand}{k:SV->Prop}{l h:List Ce}{f:Int->Prop}{r:List Sh}{a:Int}{g:Array (Nat×Operand)}{e:List Oper}{Q:Exit->Fr->E->Prop}{c:Code}
section
variable{P:Program}{T:TT}{G:List Nat}{n:Nat}{A:O0}{m q:E}{p u:Fr}{b o j i t:Nat}{s:Sh}{d:Option Nat}{v:Value}
def nc(n:Nat):Int:=n
def nce{n:Nat}:nc n=n:=rfl
def Vy:Te T p .len [t] [x] k=match fI T t,ev p x with
 |some ⟨.slice _,_,_⟩,.c (.s s)=>k (.c (.i (nc s.len)))
 |_,_=>False:=rfl
def Vz{l:List Nat}:Te T p .max l [x,y] k=match ev p x,ev p y with
 | .c (.i a),.c (.i b)=>k (.c (.i (if b>a then b else a)))
 |_,_=>False:=rfl
def VA{l:List Nat}:Te T p .min l [x,y] k=match ev p x,ev p y with
 | .c (.i a),.c (.i b)=>k (.c (.i (if b<a then b else a)))
 |_,_=>False:=rfl
def RG(m:E)(k:E->Prop):OD m k=(let q:=m;k q):=rfl
def pa{α:Type}(x:α)(f:α->Prop):Prop:=f x
def SC(s:Sh)(f:s.ty->Prop):Prop:=∃x,f x
def Uz(s:Sh)(f:s.ty->Prop):Prop:=∀x,f x
def exI:SC .I f=∃x,pa x f:=rfl
def exU{k:IntKind}:SC (.U k) f=∃x,pa x f:=rfl
def exB{f:Bool->Prop}:SC .T f=∃x,pa x f:=rfl
def Yn{f:O->Prop}:SC .S f=∃x,pa x f:=rfl
def exP{f:Nat×Nat->Prop}:SC .P f=∃x,pa x f:=rfl
def exF{f:Fn×Array Value×Array Value->Prop}:SC .F f=∃x,pa x f:=rfl
def exM{f:Nat->Prop}:SC .M f=∃x,pa x f:=rfl
def alI:Uz .I f=∀x,f x:=rfl
def alU{k:IntKind}:Uz (.U k) f=∀x,f x:=rfl
def alB{f:Bool->Prop}:Uz .T f=∀x,f x:=rfl
def XT{f:O->Prop}:Uz .S f=∀x,f x:=rfl
def alP{f:Nat×Nat->Prop}:Uz .P f=∀x,f x:=rfl
def alF{f:Fn×Array Value×Array Value->Prop}:Uz .F f=∀x,f x:=rfl
def alM{f:Nat->Prop}:Uz .M f=∀x,f x:=rfl
def cU8{x:Int}:kJ (.int .u8 x)=some (.u .u8 x):=rfl
def z0:mF h 0=[]:=rfl
def z1:mF h (n+1)=h++mF h n:=rfl
def tb{a b:Nat}:Nat.testBit a b=(1&&&(a>>>b)!=0):=rfl
def Vt{e:Edge}{a:List Edge}:lz (e::a)=bif Region.binds .any e then 2^e.on|||lz a else lz a:=rfl
def b1:Region.binds .any ⟨i,.data⟩=true:=rfl
def b2:Region.binds .any ⟨i,.chain⟩=true:=rfl
def b3:Region.binds .any ⟨i,.guard⟩=true:=rfl
def b4:Region.binds .any ⟨i,.phase⟩=true:=rfl
def b5{x:Departure}:Region.binds .any ⟨i,.gcOnly x⟩=false:=rfl
def b6{x:Departure}:Region.binds .any ⟨i,.textOnly x⟩=false:=rfl
def RB(c:Ce)(k:List Ce->Prop)(l:List Ce):Prop:=k (c::l)
def UT(k:SV->Prop)(l:List Ce):Prop:=k (.agg l)
def Z2(m:E)(b o j:Nat)(s:Sh)(r:List Sh)(k:List Ce->Prop)(x:s.ty):Prop:=
 af m b (bif j==0 then o else o+j)=some (s.mk x).v/\VN m b o (j+1) r (RB (s.mk x) k)
def Yi{k:List Ce->Prop}:VN m b o j (s::r) k=SC s (Z2 m b o j s r k):=by
 cases j<;>rfl
def Z1(m:E)(b o:Nat)(s:Sh)(k:SV->Prop)(x:s.ty):Prop:=af m b o=some (s.mk x).v/\k (.c (s.mk x))
def Tw{t:Nat}:PI T m t b o k=match fI T t with
 |some ⟨.struct _,a,_⟩=>VN m b o 0 a (UT k)
 |some ⟨.cell,[s],_⟩=>SC s (Z1 m b o s k)
 |some ⟨.slice _,[_],_⟩=>∃x:O,af m b o=some x.v/\k (.c (.s x))
 |_=>False:=rfl
def ile{b:Int}:Int.le a b=(a<=b):=rfl
def Z0(s:O)(z:Nat)(l:Int)(k:SV->Prop)(h:Int):Prop:=Int.le 0 l/\Int.le l h/\Int.le h (nc s.cap)/\k (.c (.s (s.cut l.toNat h.toNat z)))
def Z3(p:Fr)(a:Option Operand)(s:O)(z:Nat)(k:SV->Prop)(l:Int):Prop:=MG p a (nc s.len) (Z0 s z l k)
def Yg{f:Nat}{mk:Nat->SV}:Fx T t f o mk k=match fI T t with
 |some ⟨.struct c,_,_⟩=>match HO c f with
  |some (a,u)=>match fI T u with
   |some b=>bif b.uw||Nat.beq b.sh.length 0 then False else bif a==0 then k (mk o)else k (mk (o+a))
   |none=>False
  |none=>False
 |_=>False:=by
 have h:∀a,(bif a==0 then k (mk o)else k (mk (o+a)))=k (mk (o+a)):=λa=>by cases a<;>rfl
 simp only[h];rfl
def Vx{s:O}{n:Int}:W0 T t s n k=match fI T t with
 |some ⟨.slice e,_,_⟩=>match fI T e with
  |some a=>bif a.uw then False else Int.le 0 n/\n<nc s.len/\k (.c (.p s.D (s.off+n.toNat*a.sh.length)))
  |none=>False
 |_=>False:=rfl
def Ru{s:O}{b a:Option Operand}:Q5 T p t s b a k=match fI T t with
 |some ⟨.slice e,_,_⟩=>match fI T e with
  |some c=>bif c.uw then False else MG p b 0 (Z3 p a s c.sh.length k)
  |none=>False
 |_=>False:=rfl
def Rq:rd T p m k (.build t g)=match fI T t with
 |some ⟨.struct a,b,_⟩=>bif uX T a then Fq T p a (b.map Sh.zero) g.toList (UT k)else False
 |_=>False:=rfl
def Z7(s:Sh)(r:List Sh)(k:List Ce->Prop)(x:s.ty):Prop:=Uq r (RB (s.mk x) k)
def Vv{k:List Ce->Prop}:Uq (s::r) k=SC s (Z7 s r k):=rfl
def Yv(a:AV)(k:List AV->Prop)(l:List AV):Prop:=k (a::l)
def Z9(T:TT)(r:List Nat)(k:List AV->Prop)(l:List Ce):Prop:=Se T r (Yv (.agg l) k)
def Z8(T:TT)(s:Sh)(r:List Nat)(k:List AV->Prop)(x:s.ty):Prop:=Se T r (Yv (.c (s.mk x)) k)
def Vw{r:List Nat}{k:List AV->Prop}:Se T (t::r) k=match fI T t with
 |some ⟨.struct _,a,_⟩=>Uq a (Z9 T r k)
 |some ⟨.cell,[s],_⟩=>SC s (Z8 T s r k)
 |some ⟨.slice _,[_],_⟩=>∃x:O,Se T r (Yv (.c (.s x)) k)
 |_=>False:=rfl
def Z6(v:Value)(k:SV->Prop)(l:List AV):Prop:=v=.tuple (l.map AV.v).toArray/\k (.Xj l)
def Z5(v:Value)(k:SV->Prop)(l:List Ce):Prop:=v=.agg (l.map Ce.v).toArray/\k (.agg l)
def Z4(v:Value)(s:Sh)(k:SV->Prop)(x:s.ty):Prop:=v=(s.mk x).v/\k (.c (s.mk x))
def VF:PR T t v k=match fI T t with
 |some ⟨.tuple [],_,_⟩=>k .fS
 |some ⟨.tuple a,_,_⟩=>Se T a (Z6 v k)
 |some ⟨.struct _,a,_⟩=>Uq a (Z5 v k)
 |some ⟨.cell,[s],_⟩=>SC s (Z4 v s k)
 |some ⟨.slice _,[_],_⟩=>∃x:O,v=x.v/\k (.c (.s x))
 |_=>False:=rfl
def UU(k:Fr->SV->E->Prop)(p:Fr)(m:E)(x:SV):Prop:=k p x m
def inG(G:List Nat)(g:Nat):Prop:=G.elem g=true
def Yt{G:List Nat}{g:Nat}:inG G g=(G.elem g=true):=rfl
def nz(b:Int):Prop:=b≠0
def nze{b:Int}:nz b=(b≠0):=rfl
def VC{b:Int}:rK .quo a b k=(nz b/\k (.c (.i (cT (a.tdiv b))))):=rfl
def VE{b:Int}:rK .rem a b k=(nz b/\k (.c (.i (a.tmod b)))):=rfl
def Tt{c:Nat}{f:Operand}{a:List Operand}{k:Fr->SV->E->Prop}:Ti P T G n p m c f a k=match TC p (a.map (ev p))with
 |none=>False
 |some u=>match ev p f with
  | .c (.fn (.func g) first b)=>bif G.elem g&&a.all (λx=>(ev p x).jH)then
   aN P g (first.toList++(a.map λx=>(ev p x).v)++b.toList) m λv q=>Ae (Ml n u []) m q (PR T c v (UU k u q))
   else False
  | .c (.fv b)=>bif a.all (λx=>(ev p x).jH)then
   ∃g,b.1=.func g/\inG G g/\aN P g (b.2.1.toList++(a.map λx=>(ev p x).v)++b.2.2.toList) m λv q=>Ae (Ml n u []) m q (PR T c v (UU k u q))
   else False
  |_=>False:=rfl
def p3(m:E)(k:Fr->SV->E->Prop)(p:Fr)(x:SV):Prop:=k p x m
def p2(m:E)(k:SV->E->Prop)(x:SV):Prop:=k x m
def Tz{k:Fr->SV->E->Prop}:So n p none m t l k=OD (m.push (.cells (bt l) t)) λq=>p3 q k p (.c (.p m.size 0)):=rfl
def TA{j:Nat}{k:Fr->SV->E->Prop}:So n p (some j) m t l k=match ic p (n+j)with
 | .zt _ _ _=>False
 |_=>OD (m.push (.cells (bt l) t)) λq=>p3 q k ((n+j,.box m.size t l)::p) (.c (.bp (n+j) m.size 0)):=rfl
def Yl{x:SV}{k:Fr->SV->E->Prop}:OR n p m x l k=match x with
 | .c (.p b o)=>fJ m b o l.length/\OD (ah m b o l) λq=>Ae (Ml n p []) m q (k p .un q)
 | .c (.bp d b o)=>match ic p d with
  | .box a e c=>bif Nat.ble (o+l.length) c.length then Mt a b (OD (ah m b o l) λq=>p3 q k ((d,.box a e (iZ c o l))::p) .un)else False
  | .zt _ _ _=>False
  |_=>fJ m b o l.length/\OD (ah m b o l) λq=>Ae (Ml n p []) m q (k p .un q)
 |_=>False:=rfl
def Yk{b:Nat}{k:Fr->SV->E->Prop}:wr P T G n p m d b k (.makeSlice t x y)=match fI T t,ev p x,ev p y with
 |some ⟨.slice e,_,_⟩,.c (.i l),.c (.i c)=>match fI T e with
  |some a=>bif a.uw then False else Int.le 0 l/\Int.le l c/\Int.le (nc a.bytes*c) 281474976710656/\Int.le c 9223372036854775807/\
   OD (m.push (.cells (bt (mF (a.sh.map Sh.zero) c.toNat)) e)) λq=>p3 q k p (.c (.s (.mk m.size 0 l.toNat c.toNat)))
  |none=>False
 |_,_,_=>False:=rfl
def Yj{a:Nat}{k:Fr->SV->E->Prop}:wr P T G n p m d a k (.makeMap t none)=OD (m.push (.map #[] 0)) λq=>p3 q k p (.c (.mp m.size)):=rfl
def Vu{z:Nat}{s x:O}{k:SV->E->Prop}:WR m z s x k=∃a:List Ce,a.length=Nat.min x.len s.len*z/\fP m x.D x.off a/\fJ m s.D s.off a.length/\
 OD (ah m s.D s.off a) λq=>p2 q k (.c (.i (nc (Nat.min x.len s.len)))):=rfl
def ZY(p:Fr)(m:E)(e a:Nat)(k:Fr->SV->E->Prop)(l:List Ce):Prop:=match Fv p l with
 |some u=>OD (m.push (.cells (bt l) e)) λq=>p3 q k u (.c (.s (.mk m.size 0 a a)))
 |none=>False
def Yf{c a:Nat}{k:Fr->SV->E->Prop}:wr P T G n p m d c k (.buildSlice t a g)=match fI T t with
 |some ⟨.slice e,_,_⟩=>match fI T e with
  |some b=>bif b.uw||!(Nat.ble (a*b.sh.length) 16777216)then False else
   wU T p b.sh.length (mF (b.sh.map Sh.zero) a) g.toList (ZY p m e a k)
  |none=>False
 |_=>False:=rfl
def ZZ(n:Nat)(p:Fr)(m:E)(k:Fr->SV->E->Prop)(x:SV)(q:E):Prop:=Ae (Ml n p []) m q (k p x q)
def Tu{b:Nat}{u:Nat}{c:List Nat}{k:Fr->SV->E->Prop}:wr P T G n p m d b k (.call ⟨.builtin .copy,⟨[x,y]⟩,⟨u::c⟩⟩)=match fI T u,ev p x,ev p y with
 |some ⟨.slice e,_,_⟩,.c (.s s),.c (.s z)=>match fI T e with
  |some a=>bif a.uw then False else WR m a.sh.length s z (ZZ n p m k)
  |none=>False
 |_,_,_=>False:=rfl
def kw(P:Program)(T:TT)(G:List Nat)(n:Nat)(e:List Oper)(d:Option Nat)(jM:List Oper)(k:Fr->E->Prop)(p:Fr)(x:SV)(m:E):Prop:=sg P T G n e jM (tW p d x) m k
def kr(P:Program)(T:TT)(G:List Nat)(n:Nat)(e:List Oper)(d:Option Nat)(jM:List Oper)(k:Fr->E->Prop)(p:Fr)(m:E)(x:SV):Prop:=sg P T G n e jM (tW p d x) m k
def ky(P:Program)(T:TT)(G:List Nat)(n:Nat)(e:List Oper)(o:Oper)(jM:List Oper)(k:Fr->E->Prop)(m:E)(p:Fr):Prop:=
 bif KV o.op then wr P T G n p m o.dst o.type (kw P T G n e o.dst jM k) o.op else rd T p m (kr P T G n e o.dst jM k p m) o.op
def kn(P:Program)(T:TT)(G:List Nat)(n:Nat)(e:List Oper)(d:Option Nat)(jM:List Oper)(k:Fr->E->Prop)(m:E)(p:Fr):Prop:=sg P T G n e jM (tW p d .un) m k
def VB{o:Oper}{jM:List Oper}{k:Fr->E->Prop}:sg P T G n e (o::jM) p m k=
 bif rX n o.dst then gd e p o.guard (ky P T G n e o jM k m) (kn P T G n e o.dst jM k m)else False:=rfl
abbrev LL:=List (Nat×List (Nat×Nat))
def ZP(P:Program)(T:TT)(G:List Nat)(n:Nat)(e:List Oper)(c a:List Nat)(b done:Nat)(o:Oper)(i:Nat)(m:E)(L:LL)(k:Fr->E->Prop)(p:Fr)(x:SV):Prop:=
 oG P T G n e c a b (done|||2^i) (tW p o.dst x) m ((i,SD T p o.op)::L) k
def ZS(P:Program)(T:TT)(G:List Nat)(n:Nat)(e:List Oper)(c a:List Nat)(b done:Nat)(o:Oper)(i:Nat)(m:E)(L:LL)(k:Fr->E->Prop)(p:Fr):Prop:=
 rd T p m (ZP P T G n e c a b done o i m L k p) o.op
def Zk(P:Program)(T:TT)(G:List Nat)(n:Nat)(e:List Oper)(c a:List Nat)(b done:Nat)(o:Oper)(i:Nat)(m:E)(L:LL)(k:Fr->E->Prop)(p:Fr):Prop:=
 oG P T G n e c a b (done|||2^i) (tW p o.dst .un) m L k
def ZQ(P:Program)(T:TT)(G:List Nat)(n:Nat)(e:List Oper)(c a:List Nat)(b done:Nat)(o:Oper)(i:Nat)(m:E)(L:LL)(k:Fr->E->Prop)(p:Fr)(x:SV)(q:E):Prop:=
 Dy (tY a i) m q L (oG P T G n e c a b (done|||2^i) (tW p o.dst x) q L k)
def ZT(P:Program)(T:TT)(G:List Nat)(n:Nat)(e:List Oper)(c a:List Nat)(b done:Nat)(o:Oper)(i:Nat)(m:E)(L:LL)(k:Fr->E->Prop)(p:Fr):Prop:=
 wr P T G n p m o.dst o.type (ZQ P T G n e c a b done o i m L k) o.op
def ZR(P:Program)(T:TT)(G:List Nat)(n:Nat)(e:List Oper)(c a:List Nat)(b done:Nat)(m:E)(L:LL)(k:Fr->E->Prop)(p:Fr)(i:Nat):Prop:=match HO e i with
 |some o=>bif rX n o.dst then gd e p o.guard (ZT P T G n e c a b done o i m L k) (Zk P T G n e c a b done o i m L k)else False
 |none=>False
def Tv{a b:List Nat}{c done:Nat}{L:LL}{k:Fr->E->Prop}:oG P T G n e a b (c+1) done p m L k=match wM done 0 e a with
 |some i=>match HO e i with
  |some o=>bif rX n o.dst then gd e p o.guard (ZS P T G n e a b c done o i m L k) (Zk P T G n e a b c done o i m L k)else False
  |none=>False
 |none=>match pG done 0 e a with
  |[]=>k p m
  |d=>Od d (ZR P T G n e a b c done m L k p):=rfl
def Tq{f:Nat->Prop}:Od [i] f=f i:=rfl
def Ts{r:List Nat}{f:Nat->Prop}:Od (i::j::r) f=(f i/\Od (j::r) f):=rfl
def kq(Q:Exit->Fr->E->Prop)(p:Fr)(m:E):Prop:=Q .normal p m
def VD{e:Array Oper}{a:Bool}:vc P T G n A (.region i e a) p m Q=
 bif a then oG P T G n e.toList (U1 e.toList) (Tf [] e.toList) e.toList.length 0 p m [] (kq Q)
 else sg P T G n e.toList e.toList p m (kq Q):=rfl
def ZW(t:Nat)(s:Sh)(r:List (Nat×Sh))(I:s.ty->Hq r)(p:Fr)(k:Fr->(E->Prop)->Prop)(x:s.ty):Prop:=Ph r (I x) ((t,.c (s.mk x))::p) k
def Vr{r:List (Nat×Sh)}{I:s.ty->Hq r}{k:Fr->(E->Prop)->Prop}:Ph ((t,s)::r) I p k=Uz s (ZW t s r I p k):=rfl
def ZX(t:Nat)(s:Sh)(r:List (Nat×Sh))(I:s.ty->Hq r)(μ:s.ty->Oa r)(p:Fr)(k:Fr->(E->Prop)->(E->Nat)->Prop)(x:s.ty):Prop:=Pj r (I x) (μ x) ((t,.c (s.mk x))::p) k
def Vs{r:List (Nat×Sh)}{I:s.ty->Hq r}{μ:s.ty->Oa r}{k:Fr->(E->Prop)->(E->Nat)->Prop}:Pj ((t,s)::r) I μ p k=Uz s (ZX t s r I μ p k):=rfl
def ks(P:Program)(T:TT)(G:List Nat)(n:Nat)(A:O0)(b:Code)(Q:Exit->Fr->E->Prop):Exit->Fr->E->Prop
 | .normal,u,q=>vc P T G n A b u q Q
 |e,u,q=>Q e u q
def kc(A:O0)(b:Code)(p:Fr)(l:List (Nat×Sh))(K:Hq l)(Q:Exit->Fr->E->Prop):Exit->Fr->E->Prop
 | .normal,u,q=>Up p u (kZ A b) (Ht l K u q)
 |e,u,q=>Q e u q
def ki(P:Program)(T:TT)(G:List Nat)(n:Nat)(A:O0)(b:Code)(Q:Exit->Fr->E->Prop)(u:Fr)(a:E->Prop):Prop:=∀q,a q->vc P T G n A b u q Q
def VG{a b:Code}:vc P T G n A (.seq a b) p m Q=match VP A.UQ b with
 |none=>vc P T G n A a p m (ks P T G n A b Q)
 |some l=>bif pM (oD a) l then∃K:Hq l,vc P T G n A a p m (kc A b p l K Q)/\
  Ph l K (nA (oD a) (um n (kZ A b) p)) (ki P T G n A b Q)else False:=by
 unfold ks kc ki;rfl
def kb(i:Nat)(Q:Exit->Fr->E->Prop):Exit->Fr->E->Prop
 | .exit j,u,q=>bif Nat.beq j i then Q .normal u q else Q (.exit j) u q
 |e,u,q=>Q e u q
def Rp:vc P T G n A (.block i c) p m Q=vc P T G n A c p m (kb i Q):=by
 unfold kb;rfl
def ke(A:O0)(c:Code)(p:Fr)(l:List (Nat×Sh))(I:Hq l)(μ:Oa l)(N:Nat)(Q:Exit->Fr->E->Prop):Exit->Fr->E->Prop
 | .normal,a,b=>Up p a (kZ A c) (Of l I μ a b N)
 |e,a,b=>Q e a b
def kl(P:Program)(T:TT)(G:List Nat)(n:Nat)(A:O0)(c:Code)(p:Fr)(l:List (Nat×Sh))(I:Hq l)(μ:Oa l)(Q:Exit->Fr->E->Prop)(u:Fr)(a:E->Prop)(μ':E->Nat):Prop:=
 ∀q,a q->vc P T G n A c u q (ke A c p l I μ (μ' q) Q)
def Tx:vc P T G n A (.loop c) p m Q=match VP A.TN c with
 |none=>False
 |some l=>bif pM (oD c) l then∃(I:Hq l)(μ:Oa l),Ht l I p m/\
  Pj l I μ (nA (oD c) (um n (kZ A c) p)) (kl P T G n A c p l I μ Q)else False:=by
 unfold kl ke;rfl
def kR(m:E)(R:Value->E->Prop)(l:List SV):Prop:=match l with
 |[x]=>R x.v m
 |l=>R (.tuple (l.map SV.v).toArray) m
def kx(x:SV)(k:List SV->Prop)(l:List SV):Prop:=k (x::l)
def kz(T:TT)(p:Fr)(m:E)(r:List ResultVar)(k:List SV->Prop)(x:SV):Prop:=bif x.jH then Gc T p m r (kx x k)else False
def Rr{r:List ResultVar}{k:List SV->Prop}:Gc T p m (.tmp t::r) k=bif (ic p t).jH then Gc T p m r (kx (ic p t) k)else False:=rfl
def Rt{a:Nat}{r:List ResultVar}{k:List SV->Prop}:Gc T p m (.cell a t::r) k=rd T p m (kz T p m r k) (.load t (.tmp a)):=rfl
def kf(T:TT)(a:List ResultVar)(R:Value->E->Prop):Exit->Fr->E->Prop
 | .normal,p,m=>Gc T p m a (kR m R)
 | .ret,p,m=>Gc T p m a (kR m R)
 |_,_,_=>False
def Yh{b:List ResultVar}{a:List SV}{R:Value->E->Prop}:Sy P T G A n b c a m R=vc P T G n A c (uj 0 a) m (kf T b R):=by
 unfold kf kR;rfl
end
def Tg(_:Prop):Type:=Prop
def Tg.p{q:Prop}(t:Tg q):Prop:=t
def Tg.lf(q:Prop):Tg q:=q
def Tg.pm{a b:Prop}{h:Tg a=Tg b}:Tg.p (Eq.mpr h (Tg.lf b))=b:=rfl
def rg1:List.range 1=[0]:=rfl
def rg2:List.range 2=[0,1]:=rfl
def rg3:List.range 3=[0,1,2]:=rfl
def rg4:List.range 4=[0,1,2,3]:=rfl
def rg5:List.range 5=[0,1,2,3,4]:=rfl
def rg6:List.range 6=[0,1,2,3,4,5]:=rfl
def rg7:List.range 7=[0,1,2,3,4,5,6]:=rfl
def Tg.pm2{a b c:Prop}{h:Tg a=Tg b}{d:Tg b=Tg c}:Tg.p (Eq.mpr h (Eq.mpr d (Tg.lf c)))=c:=rfl
def Wi(_ _:Prop):Type:=Unit
def mkT{a X:Prop}(_:Wi a X)(t:Tg a)(_:t.p=X):True:=trivial
end Go.Vc
end
namespace Go.Proofs.YtkicoahejfbjhaaGreat
open Go.Vc
section
noncomputable abbrev cg:=Tryz.prog
def WO:TT:=[(0,⟨.tuple [],[],0⟩),
 (3,⟨.cell,[.I],8⟩),
 (4,⟨.cell,[.T],1⟩),
 (5,⟨.cell,[(.U .u8)],1⟩),
 (22,⟨.slice 5,[.S],24⟩),
 (23,⟨.slice 90,[.S],24⟩),
 (24,⟨.slice 45,[.S],24⟩),
 (26,⟨.struct [(0,23),(1,24)],[.S,.S],48⟩),
 (27,⟨.slice 3,[.S],24⟩),
 (28,⟨.slice 48,[.S],24⟩),
 (29,⟨.slice 40,[.S],24⟩),
 (31,⟨.struct [(0,3),(1,3),(2,3),(3,3),(4,27),(5,28),(6,29)],[.I,.I,.I,.I,.S,.S,.S],104⟩),
 (32,⟨.tuple [26,31],[],0⟩),
 (34,⟨.tuple [31,4],[],0⟩),
 (40,⟨.struct [(0,3),(1,3),(2,3),(3,27),(4,27),(5,27)],[.I,.I,.I,.S,.S,.S],96⟩),
 (42,⟨.struct [(0,3),(1,3),(2,3),(3,3),(4,27),(5,27)],[.I,.I,.I,.I,.S,.S],80⟩),
 (43,⟨.slice 42,[.S],24⟩),
 (45,⟨.struct [(0,27),(1,27),(2,3),(3,3),(4,43)],[.S,.S,.I,.I,.S],88⟩),
 (48,⟨.struct [(0,3),(1,3),(2,27)],[.I,.I,.S],40⟩),
 (50,⟨.tuple [26,31,3],[],0⟩),
 (54,⟨.tuple [26,3],[],0⟩),
 (57,⟨.struct [(0,3),(1,3),(2,3),(3,3),(4,3),(5,3),(6,3),(7,3)],[.I,.I,.I,.I,.I,.I,.I,.I],64⟩),
 (58,⟨.tuple [57,4],[],0⟩),
 (63,⟨.cell,[.P],8⟩),
 (68,⟨.struct [(0,26),(2,3),(3,31)],[.S,.S,.I,.I,.I,.I,.I,.S,.S,.S],160⟩),
 (69,⟨.cell,[.P],8⟩),
 (71,⟨.struct [(0,26),(2,31)],[.S,.S,.I,.I,.I,.I,.S,.S,.S],152⟩),
 (87,⟨.struct [(0,22),(1,3)],[.S,.I],32⟩),
 (88,⟨.slice 218,[.S],24⟩),
 (90,⟨.struct [(0,3),(1,3),(2,88)],[.I,.I,.S],40⟩),
 (94,⟨.cell,[.P],8⟩),
 (95,⟨.cell,[.P],8⟩),
 (101,⟨.cell,[.F],8⟩),
 (107,⟨.slice 163,[.S],24⟩),
 (109,⟨.struct [(0,23),(1,107)],[.S,.S],48⟩),
 (110,⟨.tuple [109,4],[],0⟩),
 (113,⟨.tuple [27,4],[],0⟩),
 (120,⟨.cell,[.P],8⟩),
 (122,⟨.slice 175,[.S],24⟩),
 (124,⟨.struct [(0,23),(1,122)],[.S,.S],48⟩),
 (127,⟨.cell,[.P],8⟩),
 (129,⟨.struct [(0,3),(1,3),(2,3),(3,3),(4,3),(5,3),(6,3),(7,3)],[.I,.I,.I,.I,.I,.I,.I,.I],64⟩),
 (130,⟨.tuple [3,3],[],0⟩),
 (135,⟨.tuple [27,27],[],0⟩),
 (140,⟨.slice 48,[.S],24⟩),
 (163,⟨.struct [(0,27),(1,27),(2,3)],[.S,.S,.I],56⟩),
 (167,⟨.tuple [3,4],[],0⟩),
 (171,⟨.slice 173,[.S],24⟩),
 (173,⟨.struct [(0,3),(1,3),(2,171)],[.I,.I,.S],40⟩),
 (175,⟨.struct [(0,27),(1,3),(2,173)],[.S,.I,.I,.I,.S],72⟩),
 (181,⟨.slice 205,[.S],24⟩),
 (183,⟨.struct [(0,23),(1,181)],[.S,.S],48⟩),
 (188,⟨.cell,[.F],8⟩),
 (189,⟨.cell,[.P],8⟩),
 (191,⟨.slice 4,[.S],24⟩),
 (201,⟨.slice 226,[.S],24⟩),
 (203,⟨.struct [(0,201),(1,3)],[.S,.I],32⟩),
 (205,⟨.struct [(0,27),(1,27),(2,3),(3,203)],[.S,.S,.I,.S,.I],88⟩),
 (206,⟨.cell,[.P],8⟩),
 (208,⟨.struct [(0,43)],[.S],24⟩),
 (218,⟨.struct [(0,27)],[.S],24⟩),
 (220,⟨.map 3 3,[.M],8⟩),
 (222,⟨.tuple [3,218],[],0⟩),
 (224,⟨.slice 203,[.S],24⟩),
 (226,⟨.struct [(0,3),(1,3),(2,3),(3,27),(4,224)],[.I,.I,.I,.S,.S],72⟩),
 (229,⟨.cell,[.P],8⟩),
 (230,⟨.tuple [229,4],[],0⟩),
 (233,⟨.struct [(0,27),(1,27),(2,27),(3,27),(4,27),(5,27),(6,27)],[.S,.S,.S,.S,.S,.S,.S],168⟩),
 (259,⟨.slice 27,[.S],24⟩),
 (275,⟨.cell,[.P],8⟩),
 (277,⟨.struct [(0,201),(1,3)],[.S,.I],32⟩)]
abbrev sP:Nat:=4
abbrev Qa:Nat:=22
abbrev di:Nat:=203
abbrev lW:Nat:=48
abbrev oT:Nat:=218
abbrev jV:Nat:=90
abbrev bF:Nat:=173
abbrev dO:Nat:=40
abbrev fm:Nat:=175
abbrev vk:Nat:=26
abbrev dW:Nat:=42
abbrev na:Nat:=183
abbrev jz:Nat:=45
abbrev kG:Nat:=124
abbrev jO:Nat:=205
abbrev iu:Nat:=31
abbrev gB:Nat:=226
abbrev eC:Nat:=140
abbrev bR:Nat:=68
abbrev pS:Nat:=163
abbrev lX:Nat:=109
abbrev aA:Nat:=3
abbrev xK:Nat:=27
abbrev nW:Nat:=208
abbrev By:Nat:=233
abbrev lD:Nat:=277
abbrev bJ:Nat:=71
abbrev pT:Nat:=87
abbrev Ua:Nat:=5
def OU:ui cg WO:=by
 unfold ui;kernel_rfl
def GL:List Nat:=List.range' 3 339
def Zm:Uw cg GL:=by
 unfold Uw;kernel_rfl
def Zn:cg.follows .mixedOrders=true:=by kernel_rfl
def nbq(a b:Nat):Nat.beq a b=(a==b):=by rw[Ju];simp
def nbl(a b:Nat):Nat.ble a b=(a -b==0):=by rw[Ju];simp;omega
def nbt(a b:Nat):Nat.blt a b=(a+1 -b==0):=by rw[Ju];simp[Nat.blt];omega
def gel(g:Nat):List.elem g GL=(3 -g==0&&(g -341==0)):=by rw[Ju];simp[GL];omega
section
variable{α β:Type}{a:α}{b:β}
def atl(l:List α):(Array.mk l).toList=l:=rfl
end
section
variable(a b c d e f)
def o1:(Oper.mk a b c d e f).dst=a:=rfl
def o2:(Oper.mk a b c d e f).op=b:=rfl
def o3:(Oper.mk a b c d e f).type=c:=rfl
def o5:(Oper.mk a b c d e f).after=e:=rfl
def o6:(Oper.mk a b c d e f).guard=f:=rfl
end
section
variable(a b c)
def a2:(O0.mk a b c).TN=a:=rfl
def a3:(O0.mk a b c).UQ=b:=rfl
def a4:(O0.mk a b c).eA=c:=rfl
def t1:(TI.mk a b c).HK=a:=rfl
def t2:(TI.mk a b c).sh=b:=rfl
def t3:(TI.mk a b c).bytes=c:=rfl
def g1:(Edge.mk a b).on=a:=rfl
def g2:(Edge.mk a b).ground=b:=rfl
end
def A0:O0:=⟨[],[],[]⟩
def cI(x:Int):SV:=.c (.i x)
def cS(x:O):SV:=.c (.s x)
def cP(x:Nat×Nat):SV:=.c (.p x.1 x.2)
instance:Coe Int SV:=⟨cI⟩
instance:Coe O SV:=⟨cS⟩
instance:Coe (Nat×Nat) SV:=⟨cP⟩
instance:Coe Int Ce:=⟨.i⟩
instance:Coe O Ce:=⟨.s⟩
def mX(n:Nat){x:TI}(h:fI WO n=some x:=by cbv):fI WO n=some x:=h
def tg0:=mX 0
def tg3:=mX 3
def tg4:=mX 4
def tg5:=mX 5
def YH:=mX 22
def YI:=mX 23
def YJ:=mX 24
def YK:=mX 26
def YL:=mX 27
def YM:=mX 28
def YN:=mX 29
def YO:=mX 31
def YP:=mX 32
def YQ:=mX 34
def YR:=mX 40
def YS:=mX 42
def YT:=mX 43
def YU:=mX 45
def YV:=mX 48
def YW:=mX 50
def YX:=mX 54
def YY:=mX 57
def YZ:=mX 58
def Y0:=mX 63
def Y1:=mX 68
def Y2:=mX 69
def Y3:=mX 71
def Y4:=mX 87
def Y5:=mX 88
def Y6:=mX 90
def Y7:=mX 94
def Y8:=mX 95
def VU:=mX 101
def VV:=mX 107
def VW:=mX 109
def VX:=mX 110
def VY:=mX 113
def VZ:=mX 120
def V0:=mX 122
def V1:=mX 124
def V2:=mX 127
def V3:=mX 129
def V5:=mX 130
def V6:=mX 135
def V7:=mX 140
def V8:=mX 163
def V9:=mX 167
def Wa:=mX 171
def Wb:=mX 173
def Wc:=mX 175
def Wd:=mX 181
def We:=mX 183
def Wf:=mX 188
def Wg:=mX 189
def Wh:=mX 191
def Wj:=mX 201
def Wk:=mX 203
def Wl:=mX 205
def Wm:=mX 206
def Wn:=mX 208
def Wo:=mX 218
def Wp:=mX 220
def Wq:=mX 222
def Wr:=mX 224
def Ws:=mX 226
def Wt:=mX 229
def Wu:=mX 230
def Wv:=mX 233
def Ww:=mX 259
def Wx:=mX 275
def Wy:=mX 277
def cY(m:E)(R:Value->E->Prop)(A:O0)(a:List SV){f:FuncId}{b:Go.Func}{X:Prop}{c:Code}{n:Nat}{e:List ResultVar}{g:List Value}(k:cg.funcs[f]? =some b)
 (d:(b.body,b.ntmps,b.results)=(some c,n,Array.mk e):=by cbv)
 (i:a.all SV.jH=true:=by kernel_rfl)(l:Nat.ble a.length n=true:=by kernel_rfl)(hd:qd c=true:=by kernel_rfl)
 (o:a.map SV.v=g:=by dsimp only[List.map,cI,cS,cP,SV.v,Ce.v])
 (w:Wi (Sy cg WO GL A n e c a m R) X->True:=by intro w;obtain - :=mkT w (by sym -abstractProof=>simp[gel,A0.eq_1,cI.eq_1,cS.eq_1,cP.eq_1,tg0,tg3,tg4,tg5,YH,YI,YJ,YK,YL,YM,YN,YO,YP,YQ,YR,YS,YT,YU,YV,YW,YX,YY,YZ,Y0,Y1,Y2,Y3,Y4,Y5,Y6,Y7,Y8,VU,VV,VW,VX,VY,VZ,V0,V1,V2,V3,V5,V6,V7,V8,V9,Wa,Wb,Wc,Wd,We,Wf,Wg,Wh,Wj,Wk,Wl,Wm,Wn,Wo,Wp,Wq,Wr,Ws,Wt,Wu,Wv,Ww,Wx,Wy,nbq,nbl,nbt,atl,o1,o2,o3,o5,o6,a2,a3,a4,t1,t2,t3,g1,g2,cK,fD,cZ,eE,NU,List.all_nil,aZ,eV,List.elem_cons,NS,Bool.false_and,Vk,Vj,Bool.true_or,NR,Mh,Bool.and_true,nQ,Option.map_none,iy,jm,mu,List.flatMap_nil,List.isEmpty_cons,List.isEmpty_nil,List.any_cons,Qh,qJ,Na,uj.eq_1,uj.eq_2,vc.eq_1,vc.eq_4,vc.eq_6,vc.eq_7,vc.eq_8,uz.eq_def,YA.eq_def,VR.eq_def,qQ.eq_1,qQ.eq_2,Lh.eq_def,Up.eq_1,Up.eq_2,um.eq_1,Dh.eq_1,Dh.eq_2,kZ.eq_1,pM.eq_1,pM.eq_2,oD.eq_def,nA.eq_1,nA.eq_2,Pj.eq_1,Ph.eq_1,Of.eq_1,Of.eq_2,Ht.eq_1,Ht.eq_2,QK.eq_def,VP.eq_1,Dl.eq_def,lk.eq_1,lk.eq_2,oG.eq_1,Dy.eq_1,Dy.eq_2,Ln.eq_1,Ln.eq_2,pG.eq_def,wM.eq_def,kL.eq_1,nT.eq_1,nT.eq_2,lz.eq_1,tY.eq_1,tY.eq_2,tY.eq_3,sg.eq_1,zC.eq_1,zC.eq_2,gd.eq_1,gd.eq_2,KP.eq_1,rX.eq_1,rX.eq_2,KV.eq_def,wr.eq_1,wr.eq_2,wr.eq_4,wr.eq_6,wr.eq_8,wr.eq_9,wr.eq_10,wr.eq_11,wU.eq_1,wU.eq_2,Se.eq_1,Uq.eq_1,Ml.eq_def,Ae.eq_def,rd.eq_1,rd.eq_2,rd.eq_3,rd.eq_4,rd.eq_5,rd.eq_6,rd.eq_7,rd.eq_8,rd.eq_9,rd.eq_10,rd.eq_11,rd.eq_12,rd.eq_13,rd.eq_15,SD.eq_def,Vy,Vz,VA,Np.eq_1,Hb.eq_1,Hb.eq_2,Ot.eq_1,MG.eq_1,MG.eq_2,uX.eq_1,uX.eq_2,Fq.eq_1,Fq.eq_2,mf.eq_1,mf.eq_2,mf.eq_3,mf.eq_4,mf.eq_5,SV.cells.eq_def,Zs.eq_def,UW.eq_def,UC.eq_def,rK.eq_1,rK.eq_2,rK.eq_3,rK.eq_6,rK.eq_7,rK.eq_8,rK.eq_9,rK.eq_10,rK.eq_11,rK.eq_12,VC,VE,VN.eq_1,HO.eq_1,HO.eq_2,HO.eq_3,lp.eq_def,SV.jH.eq_def,TI.uw.eq_1,TI.agg.eq_1,Sh.zero.eq_1,Sh.zero.eq_2,Sh.zero.eq_3,Sh.zero.eq_4,Sh.zero.eq_5,Sh.zero.eq_6,Sh.zero.eq_7,ev.eq_1,ev.eq_2,ev.eq_3,ev.eq_4,Fu.eq_def,px.eq_1,px.eq_2,kJ.eq_1,kJ.eq_3,kJ.eq_4,kJ.eq_5,kJ.eq_6,kJ.eq_7,tW.eq_1,tW.eq_2,SV.nb.eq_def,ic.eq_1,ic.eq_2,AV.sv.eq_1,AV.sv.eq_2,SV.v.eq_1,SV.v.eq_2,SV.v.eq_3,SV.v.eq_4,SV.v.eq_5,SV.v.eq_6,SV.v.eq_7,SV.v.eq_8,SV.v.eq_9,AV.v.eq_1,AV.v.eq_2,Ce.v.eq_1,Ce.v.eq_2,Ce.v.eq_3,Ce.v.eq_4,Ce.v.eq_5,Ce.v.eq_6,Ce.v.eq_7,Ce.v.eq_8,Ce.v.eq_9,Ce.v.eq_10,Ce.v.eq_11,Ce.v.eq_12,Ce.v.eq_13,uV.eq_1,uV.eq_2,TC.eq_1,Fv.eq_def,iZ.eq_1,iZ.eq_2,Hq.eq_1,Hq.eq_2,Oa.eq_1,Oa.eq_2,Sh.ty.eq_1,Sh.ty.eq_2,Sh.ty.eq_3,Sh.ty.eq_4,Sh.ty.eq_5,Sh.ty.eq_6,Sh.ty.eq_7,Sh.mk.eq_1,Sh.mk.eq_2,Sh.mk.eq_3,Sh.mk.eq_4,Sh.mk.eq_5,Sh.mk.eq_6,Sh.mk.eq_7,Og.eq_1,SV.UJ.eq_def,AV.UJ.eq_1,AV.UJ.eq_2,Gc.eq_1,U1.eq_1,U1.eq_2,Tf.eq_1,Tf.eq_2,Z2.eq_1,Z1.eq_1,Z7.eq_1,Z8.eq_1,Z4.eq_1,ZW.eq_1,ZX.eq_1,pa.eq_1,p3.eq_1,p2.eq_1,RB.eq_1,UT.eq_1,Z0.eq_1,Z3.eq_1,Yv.eq_1,Z9.eq_1,Z6.eq_1,Z5.eq_1,UU.eq_1,ZY.eq_1,ZZ.eq_1,kw.eq_1,kr.eq_1,ky.eq_1,kn.eq_1,ZP.eq_1,ZS.eq_1,Zk.eq_1,ZQ.eq_1,ZT.eq_1,ZR.eq_1,kq.eq_1,ks.eq_def,kc.eq_def,ki.eq_1,kb.eq_def,ke.eq_def,kl.eq_1,kR.eq_def,kx.eq_1,kz.eq_1,kf.eq_def,Od.eq_1,Yi,Tw,Ru,Rq,Vv,Vw,VF,Tt,Yf,Tu,VB,Tv,Tq,Ts,VD,VG,Rp,Tx,Rr,Rt,Yh,Yg,Vr,Vs,exI,exU,exB,Yn,exP,exF,exM,alI,alU,alB,XT,alP,alF,alM,cU8,z0,z1,tb,Vt,b1,b2,b3,b4,b5,b6,Tz,TA,Yl,Yk,Yj,Vu,Vx,rg1,rg2,rg3,rg4,rg5,rg6,rg7,jE];exact Tg.lf _) (by refine Tg.pm.trans ?_;dsimp -zeta+instances only[↓RG,ile,↓Yt,nze,nce,Hq,Oa,Sh.ty,Int.cast_ofNat_Int]);trivial)
 (j:X=Sy cg WO GL A n e c a m R:=by kernel_rfl)
 :X->aN cg f g m R:=λh=>by
 subst o
 exact xL OU Zm Zn k (pV Prod.fst d) (pV (λx=>x.2.1) d) (pV (λx=>x.2.2) d) i (lI l) hd (j▸h)
def aah(m:E)(R:Value->E->Prop)(A:O0)(a:List SV){f:FuncId}{b:Go.Func}{X:Prop}{c:Code}{n:Nat}{e:List ResultVar}{g:List Value}(k:cg.funcs[f]? =some b)
 (d:(b.body,b.ntmps,b.results)=(some c,n,Array.mk e):=by cbv)
 (i:a.all SV.jH=true:=by kernel_rfl)(l:Nat.ble a.length n=true:=by kernel_rfl)(hd:qd c=true:=by kernel_rfl)
 (o:a.map SV.v=g:=by dsimp only[List.map,cI,cS,cP,SV.v,Ce.v])
 (w:Wi (Sy cg WO GL A n e c a m R) X->True:=by intro w;obtain - :=mkT w (by sym -abstractProof=>simp[gel,A0.eq_1,cI.eq_1,cS.eq_1,cP.eq_1,tg0,tg3,tg4,tg5,YH,YI,YJ,YK,YL,YM,YN,YO,YP,YQ,YR,YS,YT,YU,YV,YW,YX,YY,YZ,Y0,Y1,Y2,Y3,Y4,Y5,Y6,Y7,Y8,VU,VV,VW,VX,VY,VZ,V0,V1,V2,V3,V5,V6,V7,V8,V9,Wa,Wb,Wc,Wd,We,Wf,Wg,Wh,Wj,Wk,Wl,Wm,Wn,Wo,Wp,Wq,Wr,Ws,Wt,Wu,Wv,Ww,Wx,Wy,nbq,nbl,nbt,atl,o1,o2,o3,o5,o6,a2,a3,a4,t1,t2,t3,g1,g2,cK,fD,cZ,eE,NU,List.all_nil,aZ,eV,List.elem_cons,NS,Bool.false_and,Vk,Vj,Bool.true_or,NR,Mh,Bool.and_true,nQ,Option.map_none,iy,jm,mu,List.flatMap_nil,List.isEmpty_cons,List.isEmpty_nil,List.any_cons,Qh,qJ,Na,uj.eq_1,uj.eq_2,vc.eq_1,vc.eq_4,vc.eq_6,vc.eq_7,vc.eq_8,uz.eq_def,YA.eq_def,VR.eq_def,qQ.eq_1,qQ.eq_2,Lh.eq_def,Up.eq_1,Up.eq_2,um.eq_1,Dh.eq_1,Dh.eq_2,kZ.eq_1,pM.eq_1,pM.eq_2,oD.eq_def,nA.eq_1,nA.eq_2,Pj.eq_1,Ph.eq_1,Of.eq_1,Of.eq_2,Ht.eq_1,Ht.eq_2,QK.eq_def,VP.eq_1,Dl.eq_def,lk.eq_1,lk.eq_2,oG.eq_1,Dy.eq_1,Dy.eq_2,pG.eq_def,wM.eq_def,kL.eq_1,nT.eq_1,nT.eq_2,lz.eq_1,tY.eq_1,tY.eq_2,tY.eq_3,sg.eq_1,zC.eq_1,zC.eq_2,gd.eq_1,gd.eq_2,KP.eq_1,rX.eq_1,rX.eq_2,KV.eq_def,wr.eq_1,wr.eq_2,wr.eq_4,wr.eq_6,wr.eq_8,wr.eq_9,wr.eq_10,wr.eq_11,wU.eq_1,wU.eq_2,Se.eq_1,Uq.eq_1,Ml.eq_def,Ae.eq_def,rd.eq_1,rd.eq_2,rd.eq_3,rd.eq_4,rd.eq_5,rd.eq_6,rd.eq_7,rd.eq_8,rd.eq_9,rd.eq_10,rd.eq_11,rd.eq_12,rd.eq_13,rd.eq_15,SD.eq_def,Vy,Vz,VA,Np.eq_1,Hb.eq_1,Hb.eq_2,Ot.eq_1,MG.eq_1,MG.eq_2,uX.eq_1,uX.eq_2,Fq.eq_1,Fq.eq_2,mf.eq_1,mf.eq_2,mf.eq_3,mf.eq_4,mf.eq_5,SV.cells.eq_def,Zs.eq_def,UW.eq_def,UC.eq_def,rK.eq_1,rK.eq_2,rK.eq_3,rK.eq_6,rK.eq_7,rK.eq_8,rK.eq_9,rK.eq_10,rK.eq_11,rK.eq_12,VC,VE,VN.eq_1,HO.eq_1,HO.eq_2,HO.eq_3,lp.eq_def,SV.jH.eq_def,TI.uw.eq_1,TI.agg.eq_1,Sh.zero.eq_1,Sh.zero.eq_2,Sh.zero.eq_3,Sh.zero.eq_4,Sh.zero.eq_5,Sh.zero.eq_6,Sh.zero.eq_7,ev.eq_1,ev.eq_2,ev.eq_3,ev.eq_4,Fu.eq_def,px.eq_1,px.eq_2,kJ.eq_1,kJ.eq_3,kJ.eq_4,kJ.eq_5,kJ.eq_6,kJ.eq_7,tW.eq_1,tW.eq_2,SV.nb.eq_def,ic.eq_1,ic.eq_2,AV.sv.eq_1,AV.sv.eq_2,SV.v.eq_1,SV.v.eq_2,SV.v.eq_3,SV.v.eq_4,SV.v.eq_5,SV.v.eq_6,SV.v.eq_7,SV.v.eq_8,SV.v.eq_9,AV.v.eq_1,AV.v.eq_2,Ce.v.eq_1,Ce.v.eq_2,Ce.v.eq_3,Ce.v.eq_4,Ce.v.eq_5,Ce.v.eq_6,Ce.v.eq_7,Ce.v.eq_8,Ce.v.eq_9,Ce.v.eq_10,Ce.v.eq_11,Ce.v.eq_12,Ce.v.eq_13,uV.eq_1,uV.eq_2,TC.eq_1,Fv.eq_def,iZ.eq_1,iZ.eq_2,Hq.eq_1,Hq.eq_2,Oa.eq_1,Oa.eq_2,Sh.ty.eq_1,Sh.ty.eq_2,Sh.ty.eq_3,Sh.ty.eq_4,Sh.ty.eq_5,Sh.ty.eq_6,Sh.ty.eq_7,Sh.mk.eq_1,Sh.mk.eq_2,Sh.mk.eq_3,Sh.mk.eq_4,Sh.mk.eq_5,Sh.mk.eq_6,Sh.mk.eq_7,Og.eq_1,SV.UJ.eq_def,AV.UJ.eq_1,AV.UJ.eq_2,Gc.eq_1,U1.eq_1,U1.eq_2,Tf.eq_1,Tf.eq_2,Z2.eq_1,Z1.eq_1,Z7.eq_1,Z8.eq_1,Z4.eq_1,ZW.eq_1,ZX.eq_1,pa.eq_1,p3.eq_1,p2.eq_1,RB.eq_1,UT.eq_1,Z0.eq_1,Z3.eq_1,Yv.eq_1,Z9.eq_1,Z6.eq_1,Z5.eq_1,UU.eq_1,ZY.eq_1,ZZ.eq_1,kw.eq_1,kr.eq_1,ky.eq_1,kn.eq_1,ZP.eq_1,ZS.eq_1,Zk.eq_1,ZQ.eq_1,ZT.eq_1,ZR.eq_1,kq.eq_1,ks.eq_def,kc.eq_def,ki.eq_1,kb.eq_def,ke.eq_def,kl.eq_1,kR.eq_def,kx.eq_1,kz.eq_1,kf.eq_def,Od.eq_1,Yi,Tw,Ru,Rq,Vv,Vw,VF,Tt,Yf,Tu,VB,Tv,Tq,Ts,VD,VG,Rp,Tx,Rr,Rt,Yh,Yg,Vr,Vs,exI,exU,exB,Yn,exP,exF,exM,alI,alU,alB,XT,alP,alF,alM,cU8,z0,z1,tb,Vt,b1,b2,b3,b4,b5,b6,Tz,TA,Yl,Yk,Yj,Vu,Vx];simp[cK,fD,jE,Ln.eq_1,Ln.eq_2,rg1,rg2,rg3,rg4,rg5,rg6,rg7];exact Tg.lf _) (by refine Tg.pm2.trans ?_;dsimp -zeta+instances only[↓RG,ile,↓Yt,nze,nce,Hq,Oa,Sh.ty,Int.cast_ofNat_Int]);trivial)
 (j:X=Sy cg WO GL A n e c a m R:=by kernel_rfl)
 :X->aN cg f g m R:=λh=>by
 subst o
 exact xL OU Zm Zn k (pV Prod.fst d) (pV (λx=>x.2.1) d) (pV (λx=>x.2.2) d) i (lI l) hd (j▸h)
end
section
open Tryz
variable{m:E}{R:Value->E->Prop}
variable{a b c d e f g h p q r u v w x y:O}{i j k l n o s t z A B C D F G H:Int}
def uY(a:O):=cY m R A0 [a] func14
def zJ(a:O):=cY m R ⟨[],[(4,[(6,.P)])],[(4,[26,25,24])]⟩ [.agg [a,b],.agg [i,j,k,l,c,d,e]] func15
def Ak(a:O):=cY m R A0 [.agg [a,b],.agg [i,j,k,l,c,d,e]] func16
def yA(i:Int):=cY m R A0 [.agg [i,j,k,l,a,b,c],.agg [n,o,s,t,d,e,f]] func17
def yo(a:O):=cY m R A0 [.agg [a,b],.agg [i,j,k,l,c,d,e]] func18
def zV(a:O):=cY m R ⟨[(4,[(5,.I)])],[],[]⟩ [a,b] func19
def yz(i:Int):=cY m R A0 [.agg [i,j,k,a,b,c],.agg [l,n,o,d,e,f]] func20
end
section
open Tryz
variable{m:E}{R:Value->E->Prop}
variable{a b c d e f g h p q r u v w x y:O}{i j k l n o s t z A B C D F G H:Int}
def yG(p:Nat×Nat):=cY m R A0 [p] func31
def AW(a:O):=cY m R A0 [a] func32
def Cf(a:O):=cY m R ⟨[(3,[(3,.I),(8,.I)])],[],[]⟩ [a] func33
def yr(i:Int):=cY m R ⟨[(3,[(20,.I)])],[],[(3,[52,53])]⟩ [.agg [i,j,k,l,a,b,c]] func34
def vK(p:Nat×Nat):=cY m R ⟨[],[(5,[(4,.T)])],[(5,[91])]⟩ [p] func35
def zc(a:O):=cY m R ⟨[(8,[(5,.I)])],[(5,[])],[(5,[93,92]),(8,[93,92])]⟩ [.agg [a,b],.agg [i,j,k,l,c,d,e]] func36
def Ay(i:Int):=cY m R ⟨[(3,[(4,.I)])],[(2,[(3,.P)])],[(2,[58,57]),(3,[58,57])]⟩ [.agg [i,j,k,l,a,b,c]] func37
def wq(p:Nat×Nat):=cY m R A0 [p] func38
def zU(a:O):=cY m R ⟨[(4,[(5,.I)])],[],[]⟩ [a,b] func39
def wT(a:O):=cY m R ⟨[(4,[(5,.I)])],[],[]⟩ [a,b] func40
end
section
open Tryz
variable{m:E}{R:Value->E->Prop}
variable{a b c d e f g h p q r u v w x y:O}{i j k l n o s t z A B C D F G H:Int}
def ym(a:O):=cY m R ⟨[(5,[(20,.I)]),(13,[(66,.I)])],[(12,[])],[(5,[82,80]),(12,[85,82,80]),(13,[85,82,80])]⟩ [.agg [a,b]] func41
def yy(a:O):=cY m R ⟨[(10,[(95,.I)]),(20,[(158,.I)])],[(3,[]),(16,[]),(24,[])],[(3,[191,190]),(10,[191,190]),(16,[197,191,190]),(20,[191,190]),(24,[191,190])]⟩ [.agg [a,b],.agg [i,j,k,l,c,d,e]] func42
def yS(p:Nat×Nat):=cY m R A0 [p,a] func43
def xy(p:Nat×Nat):=cY m R A0 [p,i] func44
def Ew(i:Int):=cY m R A0 [i,j,k] func45
def xu(p:Nat×Nat):=cY m R ⟨[(2,[(5,.I)])],[],[]⟩ [p,i] func46
def yZ(a:O):=cY m R ⟨[(4,[(3,.I)])],[],[(4,[30])]⟩ [.agg [a,b]] func53
def Co(p:Nat×Nat):=cY m R A0 [p] func55
def yW(p:Nat×Nat):=cY m R A0 [p,.agg [i,j,k,l,a,b,c]] func56
def AI(p:Nat×Nat):=cY m R A0 [p,.agg [a,b]] func57
def tw(a:O):=cY m R A0 [a] func58
end
section
open Tryz
variable{m:E}{R:Value->E->Prop}
variable{a b c d e f g h p q r u v w x y:O}{i j k l n o s t z A B C D F G H:Int}
def zN(a:O):=cY m R ⟨[(3,[(10,.I)])],[],[]⟩ [a] func59
def mE(a:O):=cY m R A0 [a] func60
def wR(p q:Nat×Nat):=cY m R ⟨[(4,[(28,.I)]),(14,[(65,.I)])],[(13,[])],[(4,[212,211]),(13,[212,211]),(14,[212,211])]⟩ [p,q,.agg [i,j,k,l,a,b]] func61
def yw(p q:Nat×Nat):=cY m R ⟨[(3,[(24,.I)])],[],[(3,[353])]⟩ [p,q,.agg [i,j,k,l,a,b]] func62
def yE(a:O):=cY m R ⟨[(2,[(3,.I)])],[],[]⟩ [a] func63
def Bo(a:O):=cY m R ⟨[(4,[(3,.I)]),(10,[(5,.I)])],[(3,[])],[]⟩ [a] func64
def yY(a:O):=cY m R A0 [.agg [a,b],.agg [i,j,k,l,c,d,e],n] func65
def CH(i:Int):=cY m R ⟨[(3,[(4,.I)]),(6,[(5,.I)]),(14,[(7,.I)])],[],[(3,[101]),(6,[101]),(14,[101])]⟩ [.agg [i,j,k,l,a,b,c]] func66
def xg(i:Int):=cY m R ⟨[(4,[(5,.I)])],[],[(4,[44])]⟩ [.agg [i,j,k,l,a,b,c]] func67
def ny(a:O):=cY m R A0 [a] func68
def Cv(a:O):=cY m R ⟨[(3,[(3,.S),(4,.I)])],[],[]⟩ [a] func69
def Gw(i:Int):=cY m R A0 [i] func70
def CS(i:Int):=cY m R ⟨[(3,[(6,.I)])],[],[(3,[42])]⟩ [.agg [i,j,k,a,b,c],d] func71
def EO(a:O):=cY m R ⟨[(4,[(5,.S),(6,.I)])],[(3,[(30,.T)])],[(3,[70,69]),(4,[70,69])]⟩ [.agg [a,b],.agg [i,j,k,l,c,d]] func72
def ud(p:Nat×Nat):=cY m R ⟨[],[(3,[])],[(3,[226,225])]⟩ [p,.agg [i,j,k,a,b,c],.agg [l,n,o,s,d,e],f] func73
def tD(p:Nat×Nat):=cY m R A0 [p,.agg [i,j,k,a,b,c],.agg [l,n,o,s,d,e]] func74
def zT(i:Int):=cY m R A0 [.agg [i,j,a],.agg [k,l,b]] func75
def zQ(a:O):=cY m R ⟨[(5,[(18,.I)])],[],[(5,[43,42])]⟩ [.agg [a,b]] func76
end
section
open Tryz
variable{m:E}{R:Value->E->Prop}
variable{a b c d e f g h p q r u v w x y:O}{i j k l n o s t z A B C D F G H:Int}
def pC(a:O):=cY m R ⟨[(6,[(88,.I)])],[(5,[])],[(5,[147,146,145,144]),(6,[147,146,145,144])]⟩ [.agg [a,b],.agg [c,d,i,j,e],k,.agg [l,n,o,s,f,g]] func77
def HG(i:Int):=cY m R A0 [i] func78
def wQ(a:O):=cY m R ⟨[(3,[(26,.I)]),(8,[(37,.I)]),(21,[(12,.S),(73,.I)]),(28,[(12,.S),(13,.I)]),(33,[(12,.S),(127,.I)])],[(17,[])],[(8,[165]),(33,[175])]⟩ [a] func79
def oV(s:O)(f:Fn×Array Value×Array Value):=cY m R A0 [s,.c (.fv f)] func80
def vP(i:Int):=cY m R A0 [i] func81
def yu(a:O):=cY m R ⟨[(7,[(63,.I)])],[],[(7,[97,95,94])]⟩ [.agg [a,b],.agg [i,j,k,c,d,e]] func82
def wO(i:Int):=cY m R ⟨[(2,[(17,.I)])],[(9,[])],[(2,[82]),(9,[82])]⟩ [.agg [i,j,k,a,b,c],d,e,f] func83
def Ci(a:O):=cY m R A0 [.agg [a,b],i,j] func85
def Bu(a:O):=cY m R ⟨[(4,[(3,.I)])],[],[(4,[65])]⟩ [.agg [a,b]] func86
def xD(a:O):=cY m R ⟨[(3,[(4,.I)])],[],[(3,[37,36])]⟩ [.agg [a,b]] func87
def Br(a:O):=cY m R ⟨[(5,[(6,.I)])],[],[(5,[62,61])]⟩ [.agg [a,b],.agg [c,d,i,j,e]] func88
def yX(a:O):=cY m R A0 [.agg [a,b],i] func89
def AH(p:Nat×Nat):=cY m R A0 [p] func92
def Ap(p:Nat×Nat):=cY m R ⟨[(3,[(6,.I)])],[],[(3,[57,56,55])]⟩ [p,.agg [a,b]] func93
def yU(p:Nat×Nat):=cY m R A0 [p,.agg [a,b],i] func94
end
section
open Tryz
variable{m:E}{R:Value->E->Prop}
variable{a b c d e f g h p q r u v w x y:O}{i j k l n o s t z A B C D F G H:Int}
def sM(p:Nat×Nat):=cY m R A0 [p,a] func95
def mU(a:O):=cY m R A0 [a] func96
def sC(p:Nat×Nat):=cY m R ⟨[(15,[(4,.S),(5,.S),(31,.I)])],[],[(15,[62])]⟩ [p,.agg [i,j,k,l,a,b]] func97
def vO(i:Int):=cY m R A0 [i] func98
def tX(p:Nat×Nat):=cY m R A0 [p,i] func99
def uT(p:Nat×Nat):=cY m R A0 [i,p] func100
def DP(a:O):=cY m R A0 [a] func101
def sE(p q:Nat×Nat):=cY m R A0 [p,q,.agg [i,j,k,l,a,b]] func102
def qY(p q:Nat×Nat):=cY m R ⟨[(14,[(10,.S),(74,.I)])],[],[(14,[125,121])]⟩ [p,q,.agg [i,j,k,l,a,b]] func103
def tg(p q:Nat×Nat):=cY m R A0 [p,q,.agg [i,j,k,l,a,b]] func104
def zI(p:Nat×Nat):=cY m R A0 [p,i,j,k] func105
def rO(p q:Nat×Nat):=cY m R A0 [p,q,.agg [i,j,k,l,a,b]] func106
def uR(p:Nat×Nat):=cY m R A0 [p,i,a] func107
def wP(p:Nat×Nat):=cY m R ⟨[(3,[(13,.I)])],[],[]⟩ [p,a] func108
def zO(p:Nat×Nat):=cY m R ⟨[(1,[(4,.S)])],[],[]⟩ [p,i] func109
def vJ(p q:Nat×Nat):=cY m R ⟨[(5,[(39,.I)])],[],[(5,[58])]⟩ [p,q,.agg [i,j,k,l,a,b]] func110
def vM(i:Int):=cY m R A0 [i] func111
def tz(a:O):=cY m R ⟨[(2,[(8,.I)])],[],[]⟩ [a,i] func112
end
end Go.Proofs.YtkicoahejfbjhaaGreat
