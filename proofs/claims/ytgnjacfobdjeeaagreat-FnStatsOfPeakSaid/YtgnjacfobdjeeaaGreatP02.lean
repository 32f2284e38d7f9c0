/- Part of a proof, joined by a program. -/
import Derived.Test.YtgnjacfobdjeeaaGreatProg
import Derived.Test.YtgnjacfobdjeeaaGreatP01
set_option linter.unusedVariables false
set_option linter.unusedSimpArgs false
set_option linter.defProp false
set_option linter.constructorNameAsVariable false
set_option maxHeartbeats 8000000
set_option maxRecDepth 100000
section
namespace Go.Vc
variable{x y:Operand}{k:SV->Prop}{l h:List Ce}{f:Int->Prop}{r:List Sh}{a:Int}{g:Array (Nat×Operand)}{e:List Oper}{Q:Exit->Fr->J->Prop}{c:Code}
section
variable{P:Program}{T:TT}{G:List Nat}{n:Nat}{A:No}{m q:J}{p u:Fr}{b o j i t:Nat}{s:Sh}{d:Option Nat}{v:Value}
def nc(n:Nat):Int:=n
def Zn{n:Nat}:nc n=n:=rfl
def TZ:Rq T p .len [t] [x] k=match fu T t,ev p x with
 |some ⟨.slice _,_,_⟩,.c (.s s)=>k (.c (.i (nc s.len)))
 |_,_=>False:=rfl
def T0{l:List Nat}:Rq T p .max l [x,y] k=match ev p x,ev p y with
 | .c (.i a),.c (.i b)=>k (.c (.i (if b>a then b else a)))
 |_,_=>False:=rfl
def T4{l:List Nat}:Rq T p .min l [x,y] k=match ev p x,ev p y with
 | .c (.i a),.c (.i b)=>k (.c (.i (if b<a then b else a)))
 |_,_=>False:=rfl
def Qi(m:J)(k:J->Prop):MG m k=(let q:=m;k q):=rfl
def pa{α:Type}(x:α)(f:α->Prop):Prop:=f x
def Q3(s:Sh)(f:s.ty->Prop):Prop:=∃x,f x
def SS(s:Sh)(f:s.ty->Prop):Prop:=∀x,f x
def Zc:Q3 .I f=∃x,pa x f:=rfl
def Zf{k:IntKind}:Q3 (.U k) f=∃x,pa x f:=rfl
def Za{f:Bool->Prop}:Q3 .T f=∃x,pa x f:=rfl
def Ws{f:O->Prop}:Q3 .S f=∃x,pa x f:=rfl
def Ze{f:Nat×Nat->Prop}:Q3 .P f=∃x,pa x f:=rfl
def Zb{f:Fn×Array Value×Array Value->Prop}:Q3 .F f=∃x,pa x f:=rfl
def Zd{f:Nat->Prop}:Q3 .M f=∃x,pa x f:=rfl
def Y3:SS .I f=∀x,f x:=rfl
def Y6{k:IntKind}:SS (.U k) f=∀x,f x:=rfl
def Y1{f:Bool->Prop}:SS .T f=∀x,f x:=rfl
def Wa{f:O->Prop}:SS .S f=∀x,f x:=rfl
def Y5{f:Nat×Nat->Prop}:SS .P f=∀x,f x:=rfl
def Y2{f:Fn×Array Value×Array Value->Prop}:SS .F f=∀x,f x:=rfl
def Y4{f:Nat->Prop}:SS .M f=∀x,f x:=rfl
def Y8{x:Int}:jQ (.int .u8 x)=some (.u .u8 x):=rfl
def z0:nj h 0=[]:=rfl
def z1:nj h (n+1)=h++nj h n:=rfl
def tb{a b:Nat}:Nat.testBit a b=(1&&&(a>>>b)!=0):=rfl
def TU{e:Edge}{a:List Edge}:kO (e::a)=bif Region.binds .any e then 2^e.on|||kO a else kO a:=rfl
def b1:Region.binds .any ⟨i,.data⟩=true:=rfl
def b2:Region.binds .any ⟨i,.chain⟩=true:=rfl
def b3:Region.binds .any ⟨i,.guard⟩=true:=rfl
def b4:Region.binds .any ⟨i,.phase⟩=true:=rfl
def b5{x:Departure}:Region.binds .any ⟨i,.gcOnly x⟩=false:=rfl
def b6{x:Departure}:Region.binds .any ⟨i,.textOnly x⟩=false:=rfl
def Qe(c:Ce)(k:List Ce->Prop)(l:List Ce):Prop:=k (c::l)
def Tk(k:SV->Prop)(l:List Ce):Prop:=k (.agg l)
def YD(m:J)(b o j:Nat)(s:Sh)(r:List Sh)(k:List Ce->Prop)(x:s.ty):Prop:=
 af m b (bif j==0 then o else o+j)=some (s.mk x).v/\Uh m b o (j+1) r (Qe (s.mk x) k)
def Wn{k:List Ce->Prop}:Uh m b o j (s::r) k=Q3 s (YD m b o j s r k):=by
 cases j<;>rfl
def YC(m:J)(b o:Nat)(s:Sh)(k:SV->Prop)(x:s.ty):Prop:=af m b o=some (s.mk x).v/\k (.c (s.mk x))
def RF{t:Nat}:Og T m t b o k=match fu T t with
 |some ⟨.struct _,a,_⟩=>Uh m b o 0 a (Tk k)
 |some ⟨.cell,[s],_⟩=>Q3 s (YC m b o s k)
 |some ⟨.slice _,[_],_⟩=>∃x:O,af m b o=some x.v/\k (.c (.s x))
 |_=>False:=rfl
def Zh{b:Int}:Int.le a b=(a<=b):=rfl
def YB(s:O)(z:Nat)(l:Int)(k:SV->Prop)(h:Int):Prop:=Int.le 0 l/\Int.le l h/\Int.le h (nc s.cap)/\k (.c (.s (s.cut l.toNat h.toNat z)))
def YE(p:Fr)(a:Option Operand)(s:O)(z:Nat)(k:SV->Prop)(l:Int):Prop:=KR p a (nc s.len) (YB s z l k)
def Wl{f:Nat}{mk:Nat->SV}:Ej T t f o mk k=match fu T t with
 |some ⟨.struct c,_,_⟩=>match Gb c f with
  |some (a,u)=>match fu T u with
   |some b=>bif b.tP||Nat.beq b.sh.length 0 then False else bif a==0 then k (mk o)else k (mk (o+a))
   |none=>False
  |none=>False
 |_=>False:=by
 have h:∀a,(bif a==0 then k (mk o)else k (mk (o+a)))=k (mk (o+a)):=λa=>by cases a<;>rfl
 simp only[h];rfl
def TY{s:O}{n:Int}:Vr T t s n k=match fu T t with
 |some ⟨.slice e,_,_⟩=>match fu T e with
  |some a=>bif a.tP then False else Int.le 0 n/\n<nc s.len/\k (.c (.p s.E (s.off+n.toNat*a.sh.length)))
  |none=>False
 |_=>False:=rfl
def P8{s:O}{b a:Option Operand}:PH T p t s b a k=match fu T t with
 |some ⟨.slice e,_,_⟩=>match fu T e with
  |some c=>bif c.tP then False else KR p b 0 (YE p a s c.sh.length k)
  |none=>False
 |_=>False:=rfl
def P5:rd T p m k (.build t g)=match fu T t with
 |some ⟨.struct a,b,_⟩=>bif uw T a then Ee T p a (b.map Sh.zero) g.toList (Tk k)else False
 |_=>False:=rfl
def YI(s:Sh)(r:List Sh)(k:List Ce->Prop)(x:s.ty):Prop:=SD r (Qe (s.mk x) k)
def TW{k:List Ce->Prop}:SD (s::r) k=Q3 s (YI s r k):=rfl
def Wz(a:AV)(k:List AV->Prop)(l:List AV):Prop:=k (a::l)
def YK(T:TT)(r:List Nat)(k:List AV->Prop)(l:List Ce):Prop:=QH T r (Wz (.agg l) k)
def YJ(T:TT)(s:Sh)(r:List Nat)(k:List AV->Prop)(x:s.ty):Prop:=QH T r (Wz (.c (s.mk x)) k)
def TX{r:List Nat}{k:List AV->Prop}:QH T (t::r) k=match fu T t with
 |some ⟨.struct _,a,_⟩=>SD a (YK T r k)
 |some ⟨.cell,[s],_⟩=>Q3 s (YJ T s r k)
 |some ⟨.slice _,[_],_⟩=>∃x:O,QH T r (Wz (.c (.s x)) k)
 |_=>False:=rfl
def YH(v:Value)(k:SV->Prop)(l:List AV):Prop:=v=.tuple (l.map AV.v).toArray/\k (.VD l)
def YG(v:Value)(k:SV->Prop)(l:List Ce):Prop:=v=.agg (l.map Ce.v).toArray/\k (.agg l)
def YF(v:Value)(s:Sh)(k:SV->Prop)(x:s.ty):Prop:=v=(s.mk x).v/\k (.c (s.mk x))
def Ua:Ov T t v k=match fu T t with
 |some ⟨.tuple [],_,_⟩=>k .fI
 |some ⟨.tuple a,_,_⟩=>QH T a (YH v k)
 |some ⟨.struct _,a,_⟩=>SD a (YG v k)
 |some ⟨.cell,[s],_⟩=>Q3 s (YF v s k)
 |some ⟨.slice _,[_],_⟩=>∃x:O,v=x.v/\k (.c (.s x))
 |_=>False:=rfl
def Tl(k:Fr->SV->J->Prop)(p:Fr)(m:J)(x:SV):Prop:=k p x m
def Zi(G:List Nat)(g:Nat):Prop:=G.elem g=true
def Wx{G:List Nat}{g:Nat}:Zi G g=(G.elem g=true):=rfl
def nz(b:Int):Prop:=b≠0
def Zo{b:Int}:nz b=(b≠0):=rfl
def T7{b:Int}:qS .quo a b k=(nz b/\k (.c (.i (cR (a.tdiv b))))):=rfl
def T9{b:Int}:qS .rem a b k=(nz b/\k (.c (.i (a.tmod b)))):=rfl
def RC{c:Nat}{f:Operand}{a:List Operand}{k:Fr->SV->J->Prop}:Ru P T G n p m c f a k=match RK p (a.map (ev p))with
 |none=>False
 |some u=>match ev p f with
  | .c (.fn (.func g) first b)=>bif G.elem g&&a.all (λx=>(ev p x).iZ)then
   aL P g (first.toList++(a.map λx=>(ev p x).v)++b.toList) m λv q=>zm (KD n u []) m q (Ov T c v (Tl k u q))
   else False
  | .c (.fv b)=>bif a.all (λx=>(ev p x).iZ)then
   ∃g,b.1=.func g/\Zi G g/\aL P g (b.2.1.toList++(a.map λx=>(ev p x).v)++b.2.2.toList) m λv q=>zm (KD n u []) m q (Ov T c v (Tl k u q))
   else False
  |_=>False:=rfl
def p3(m:J)(k:Fr->SV->J->Prop)(p:Fr)(x:SV):Prop:=k p x m
def p2(m:J)(k:SV->J->Prop)(x:SV):Prop:=k x m
def RH{k:Fr->SV->J->Prop}:QN n p none m t l k=MG (m.push (.cells (bC l) t)) λq=>p3 q k p (.c (.p m.size 0)):=rfl
def RI{j:Nat}{k:Fr->SV->J->Prop}:QN n p (some j) m t l k=match gJ p (n+j)with
 | .yL _ _ _=>False
 |_=>MG (m.push (.cells (bC l) t)) λq=>p3 q k ((n+j,.box m.size t l)::p) (.c (.bp (n+j) m.size 0)):=rfl
def Wq{x:SV}{k:Fr->SV->J->Prop}:Nc n p m x l k=match x with
 | .c (.p b o)=>dZ m b o l.length/\MG (ah m b o l) λq=>zm (KD n p []) m q (k p .un q)
 | .c (.bp d b o)=>match gJ p d with
  | .box a e c=>bif Nat.ble (o+l.length) c.length then qP a b (MG (ah m b o l) λq=>p3 q k ((d,.box a e (iK c o l))::p) .un)else False
  | .yL _ _ _=>False
  |_=>dZ m b o l.length/\MG (ah m b o l) λq=>zm (KD n p []) m q (k p .un q)
 |_=>False:=rfl
def Wp{b:Nat}{k:Fr->SV->J->Prop}:wr P T G n p m d b k (.makeSlice t x y)=match fu T t,ev p x,ev p y with
 |some ⟨.slice e,_,_⟩,.c (.i l),.c (.i c)=>match fu T e with
  |some a=>bif a.tP then False else Int.le 0 l/\Int.le l c/\Int.le (nc a.bytes*c) 281474976710656/\Int.le c 9223372036854775807/\
   MG (m.push (.cells (bC (nj (a.sh.map Sh.zero) c.toNat)) e)) λq=>p3 q k p (.c (.s (.mk m.size 0 l.toNat c.toNat)))
  |none=>False
 |_,_,_=>False:=rfl
def Wo{a:Nat}{k:Fr->SV->J->Prop}:wr P T G n p m d a k (.makeMap t none)=MG (m.push (.map #[] 0)) λq=>p3 q k p (.c (.mp m.size)):=rfl
def TV{z:Nat}{s x:O}{k:SV->J->Prop}:Vn m z s x k=∃a:List Ce,a.length=Nat.min x.len s.len*z/\fZ m x.E x.off a/\dZ m s.E s.off a.length/\
 MG (ah m s.E s.off a) λq=>p2 q k (.c (.i (nc (Nat.min x.len s.len)))):=rfl
def Yz(p:Fr)(m:J)(e a:Nat)(k:Fr->SV->J->Prop)(l:List Ce):Prop:=match Eh p l with
 |some u=>MG (m.push (.cells (bC l) e)) λq=>p3 q k u (.c (.s (.mk m.size 0 a a)))
 |none=>False
def Wk{c a:Nat}{k:Fr->SV->J->Prop}:wr P T G n p m d c k (.buildSlice t a g)=match fu T t with
 |some ⟨.slice e,_,_⟩=>match fu T e with
  |some b=>bif b.tP||!(Nat.ble (a*b.sh.length) 16777216)then False else
   wz T p b.sh.length (nj (b.sh.map Sh.zero) a) g.toList (Yz p m e a k)
  |none=>False
 |_=>False:=rfl
def YA(n:Nat)(p:Fr)(m:J)(k:Fr->SV->J->Prop)(x:SV)(q:J):Prop:=zm (KD n p []) m q (k p x q)
def RD{b:Nat}{u:Nat}{c:List Nat}{k:Fr->SV->J->Prop}:wr P T G n p m d b k (.call ⟨.builtin .copy,⟨[x,y]⟩,⟨u::c⟩⟩)=match fu T u,ev p x,ev p y with
 |some ⟨.slice e,_,_⟩,.c (.s s),.c (.s z)=>match fu T e with
  |some a=>bif a.tP then False else Vn m a.sh.length s z (YA n p m k)
  |none=>False
 |_,_,_=>False:=rfl
def kw(P:Program)(T:TT)(G:List Nat)(n:Nat)(e:List Oper)(d:Option Nat)(mo:List Oper)(k:Fr->J->Prop)(p:Fr)(x:SV)(m:J):Prop:=rD P T G n e mo (tr p d x) m k
def kr(P:Program)(T:TT)(G:List Nat)(n:Nat)(e:List Oper)(d:Option Nat)(mo:List Oper)(k:Fr->J->Prop)(p:Fr)(m:J)(x:SV):Prop:=rD P T G n e mo (tr p d x) m k
def ky(P:Program)(T:TT)(G:List Nat)(n:Nat)(e:List Oper)(o:Oper)(mo:List Oper)(k:Fr->J->Prop)(m:J)(p:Fr):Prop:=
 bif JA o.op then wr P T G n p m o.dst o.type (kw P T G n e o.dst mo k) o.op else rd T p m (kr P T G n e o.dst mo k p m) o.op
def kn(P:Program)(T:TT)(G:List Nat)(n:Nat)(e:List Oper)(d:Option Nat)(mo:List Oper)(k:Fr->J->Prop)(m:J)(p:Fr):Prop:=rD P T G n e mo (tr p d .un) m k
def T6{o:Oper}{mo:List Oper}{k:Fr->J->Prop}:rD P T G n e (o::mo) p m k=
 bif rp n o.dst then gd e p o.guard (ky P T G n e o mo k m) (kn P T G n e o.dst mo k m)else False:=rfl
abbrev LL:=List (Nat×List (Nat×Nat))
def Yo(P:Program)(T:TT)(G:List Nat)(n:Nat)(e:List Oper)(c a:List Nat)(b done:Nat)(o:Oper)(i:Nat)(m:J)(L:LL)(k:Fr->J->Prop)(p:Fr)(x:SV):Prop:=
 nY P T G n e c a b (done|||2^i) (tr p o.dst x) m ((i,Q4 T p o.op)::L) k
def Yr(P:Program)(T:TT)(G:List Nat)(n:Nat)(e:List Oper)(c a:List Nat)(b done:Nat)(o:Oper)(i:Nat)(m:J)(L:LL)(k:Fr->J->Prop)(p:Fr):Prop:=
 rd T p m (Yo P T G n e c a b done o i m L k p) o.op
def Xz(P:Program)(T:TT)(G:List Nat)(n:Nat)(e:List Oper)(c a:List Nat)(b done:Nat)(o:Oper)(i:Nat)(m:J)(L:LL)(k:Fr->J->Prop)(p:Fr):Prop:=
 nY P T G n e c a b (done|||2^i) (tr p o.dst .un) m L k
def Yp(P:Program)(T:TT)(G:List Nat)(n:Nat)(e:List Oper)(c a:List Nat)(b done:Nat)(o:Oper)(i:Nat)(m:J)(L:LL)(k:Fr->J->Prop)(p:Fr)(x:SV)(q:J):Prop:=
 CA (tw a i) m q L (nY P T G n e c a b (done|||2^i) (tr p o.dst x) q L k)
def Ys(P:Program)(T:TT)(G:List Nat)(n:Nat)(e:List Oper)(c a:List Nat)(b done:Nat)(o:Oper)(i:Nat)(m:J)(L:LL)(k:Fr->J->Prop)(p:Fr):Prop:=
 wr P T G n p m o.dst o.type (Yp P T G n e c a b done o i m L k) o.op
def Yq(P:Program)(T:TT)(G:List Nat)(n:Nat)(e:List Oper)(c a:List Nat)(b done:Nat)(m:J)(L:LL)(k:Fr->J->Prop)(p:Fr)(i:Nat):Prop:=match Gb e i with
 |some o=>bif rp n o.dst then gd e p o.guard (Ys P T G n e c a b done o i m L k) (Xz P T G n e c a b done o i m L k)else False
 |none=>False
def RE{a b:List Nat}{c done:Nat}{L:LL}{k:Fr->J->Prop}:nY P T G n e a b (c+1) done p m L k=match wh done 0 e a with
 |some i=>match Gb e i with
  |some o=>bif rp n o.dst then gd e p o.guard (Yr P T G n e a b c done o i m L k) (Xz P T G n e a b c done o i m L k)else False
  |none=>False
 |none=>match pb done 0 e a with
  |[]=>k p m
  |d=>Mh d (Yq P T G n e a b c done m L k p):=rfl
def Rz{f:Nat->Prop}:Mh [i] f=f i:=rfl
def RB{r:List Nat}{f:Nat->Prop}:Mh (i::j::r) f=(f i/\Mh (j::r) f):=rfl
def kq(Q:Exit->Fr->J->Prop)(p:Fr)(m:J):Prop:=Q .normal p m
def T8{e:Array Oper}{a:Bool}:vc P T G n A (.region i e a) p m Q=
 bif a then nY P T G n e.toList (Tt e.toList) (Rr [] e.toList) e.toList.length 0 p m [] (kq Q)
 else rD P T G n e.toList e.toList p m (kq Q):=rfl
def Yx(t:Nat)(s:Sh)(r:List (Nat×Sh))(I:s.ty->FD r)(p:Fr)(k:Fr->(J->Prop)->Prop)(x:s.ty):Prop:=NG r (I x) ((t,.c (s.mk x))::p) k
def TR{r:List (Nat×Sh)}{I:s.ty->FD r}{k:Fr->(J->Prop)->Prop}:NG ((t,s)::r) I p k=SS s (Yx t s r I p k):=rfl
def Yy(t:Nat)(s:Sh)(r:List (Nat×Sh))(I:s.ty->FD r)(μ:s.ty->Mf r)(p:Fr)(k:Fr->(J->Prop)->(J->Nat)->Prop)(x:s.ty):Prop:=NH r (I x) (μ x) ((t,.c (s.mk x))::p) k
def TS{r:List (Nat×Sh)}{I:s.ty->FD r}{μ:s.ty->Mf r}{k:Fr->(J->Prop)->(J->Nat)->Prop}:NH ((t,s)::r) I μ p k=SS s (Yy t s r I μ p k):=rfl
def ks(P:Program)(T:TT)(G:List Nat)(n:Nat)(A:No)(b:Code)(Q:Exit->Fr->J->Prop):Exit->Fr->J->Prop
 | .normal,u,q=>vc P T G n A b u q Q
 |e,u,q=>Q e u q
def kc(A:No)(b:Code)(p:Fr)(l:List (Nat×Sh))(K:FD l)(Q:Exit->Fr->J->Prop):Exit->Fr->J->Prop
 | .normal,u,q=>SC p u (kD A b) (FF l K u q)
 |e,u,q=>Q e u q
def ki(P:Program)(T:TT)(G:List Nat)(n:Nat)(A:No)(b:Code)(Q:Exit->Fr->J->Prop)(u:Fr)(a:J->Prop):Prop:=∀q,a q->vc P T G n A b u q Q
def Ub{a b:Code}:vc P T G n A (.seq a b) p m Q=match Ui A.Tf b with
 |none=>vc P T G n A a p m (ks P T G n A b Q)
 |some l=>bif po (nV a) l then∃K:FD l,vc P T G n A a p m (kc A b p l K Q)/\
  NG l K (ni (nV a) (tJ n (kD A b) p)) (ki P T G n A b Q)else False:=by
 unfold ks kc ki;rfl
def kb(i:Nat)(Q:Exit->Fr->J->Prop):Exit->Fr->J->Prop
 | .exit j,u,q=>bif Nat.beq j i then Q .normal u q else Q (.exit j) u q
 |e,u,q=>Q e u q
def P4:vc P T G n A (.block i c) p m Q=vc P T G n A c p m (kb i Q):=by
 unfold kb;rfl
def ke(A:No)(c:Code)(p:Fr)(l:List (Nat×Sh))(I:FD l)(μ:Mf l)(N:Nat)(Q:Exit->Fr->J->Prop):Exit->Fr->J->Prop
 | .normal,a,b=>SC p a (kD A c) (Mj l I μ a b N)
 |e,a,b=>Q e a b
def kl(P:Program)(T:TT)(G:List Nat)(n:Nat)(A:No)(c:Code)(p:Fr)(l:List (Nat×Sh))(I:FD l)(μ:Mf l)(Q:Exit->Fr->J->Prop)(u:Fr)(a:J->Prop)(μ':J->Nat):Prop:=
 ∀q,a q->vc P T G n A c u q (ke A c p l I μ (μ' q) Q)
def RG:vc P T G n A (.loop c) p m Q=match Ui A.RT c with
 |none=>False
 |some l=>bif po (nV c) l then∃(I:FD l)(μ:Mf l),FF l I p m/\
  NH l I μ (ni (nV c) (tJ n (kD A c) p)) (kl P T G n A c p l I μ Q)else False:=by
 unfold kl ke;rfl
def kR(m:J)(R:Value->J->Prop)(l:List SV):Prop:=match l with
 |[x]=>R x.v m
 |l=>R (.tuple (l.map SV.v).toArray) m
def kx(x:SV)(k:List SV->Prop)(l:List SV):Prop:=k (x::l)
def kz(T:TT)(p:Fr)(m:J)(r:List ResultVar)(k:List SV->Prop)(x:SV):Prop:=bif x.iZ then EG T p m r (kx x k)else False
def P6{r:List ResultVar}{k:List SV->Prop}:EG T p m (.tmp t::r) k=bif (gJ p t).iZ then EG T p m r (kx (gJ p t) k)else False:=rfl
def P7{a:Nat}{r:List ResultVar}{k:List SV->Prop}:EG T p m (.cell a t::r) k=rd T p m (kz T p m r k) (.load t (.tmp a)):=rfl
def kf(T:TT)(a:List ResultVar)(R:Value->J->Prop):Exit->Fr->J->Prop
 | .normal,p,m=>EG T p m a (kR m R)
 | .ret,p,m=>EG T p m a (kR m R)
 |_,_,_=>False
def Wm{b:List ResultVar}{a:List SV}{R:Value->J->Prop}:QZ P T G A n b c a m R=vc P T G n A c (tI 0 a) m (kf T b R):=by
 unfold kf kR;rfl
end
def Tg(_:Prop):Type:=Prop
def Tg.p{q:Prop}(t:Tg q):Prop:=t
def Tg.lf(q:Prop):Tg q:=q
def Tg.pm{a b:Prop}{h:Tg a=Tg b}:Tg.p (Eq.mpr h (Tg.lf b))=b:=rfl
def Zq:List.range 1=[0]:=rfl
def Zr:List.range 2=[0,1]:=rfl
def Zs:List.range 3=[0,1,2]:=rfl
def Zt:List.range 4=[0,1,2,3]:=rfl
def Zu:List.range 5=[0,1,2,3,4]:=rfl
def Zv:List.range 6=[0,1,2,3,4,5]:=rfl
def Zw:List.range 7=[0,1,2,3,4,5,6]:=rfl
def Tg.ZQ{a b c:Prop}{h:Tg a=Tg b}{d:Tg b=Tg c}:Tg.p (Eq.mpr h (Eq.mpr d (Tg.lf c)))=c:=rfl
def Wi(_ _:Prop):Type:=Unit
def Zj{a X:Prop}(_:Wi a X)(t:Tg a)(_:t.p=X):True:=trivial
end Go.Vc
end
namespace Go.Proofs.YtgnjacfobdjeeaaGreat
open Go.Vc
section
noncomputable abbrev cp:=Tryz.prog
def TP:TT:=[(0,⟨.tuple [],[],0⟩),
 (3,⟨.cell,[.I],8⟩),
 (4,⟨.cell,[.T],1⟩),
 (5,⟨.cell,[(.U .u8)],1⟩),
 (22,⟨.slice 5,[.S],24⟩),
 (23,⟨.slice 92,[.S],24⟩),
 (24,⟨.slice 78,[.S],24⟩),
 (26,⟨.struct [(0,23),(1,24)],[.S,.S],48⟩),
 (27,⟨.tuple [26,3],[],0⟩),
 (29,⟨.slice 3,[.S],24⟩),
 (31,⟨.struct [(0,3),(1,3),(2,3),(3,29)],[.I,.I,.I,.S],48⟩),
 (32,⟨.tuple [31,4],[],0⟩),
 (37,⟨.slice 47,[.S],24⟩),
 (38,⟨.slice 70,[.S],24⟩),
 (40,⟨.struct [(0,3),(1,3),(2,3),(3,3),(4,29),(5,37),(6,38)],[.I,.I,.I,.I,.S,.S,.S],104⟩),
 (41,⟨.tuple [26,40],[],0⟩),
 (47,⟨.struct [(0,3),(1,3),(2,29)],[.I,.I,.S],40⟩),
 (51,⟨.struct [(0,3),(1,3),(2,3),(3,3),(4,3),(5,3),(6,3),(7,3)],[.I,.I,.I,.I,.I,.I,.I,.I],64⟩),
 (52,⟨.tuple [51,4],[],0⟩),
 (55,⟨.tuple [40,4],[],0⟩),
 (62,⟨.struct [(0,26),(2,3),(3,40)],[.S,.S,.I,.I,.I,.I,.I,.S,.S,.S],160⟩),
 (66,⟨.cell,[.P],8⟩),
 (68,⟨.slice 4,[.S],24⟩),
 (70,⟨.struct [(0,3),(1,3),(2,3),(3,29),(4,29),(5,29)],[.I,.I,.I,.S,.S,.S],96⟩),
 (75,⟨.struct [(0,3),(1,3),(2,3),(3,3),(4,29),(5,29)],[.I,.I,.I,.I,.S,.S],80⟩),
 (76,⟨.slice 75,[.S],24⟩),
 (78,⟨.struct [(0,29),(1,29),(2,3),(3,3),(4,76)],[.S,.S,.I,.I,.S],88⟩),
 (84,⟨.slice 136,[.S],24⟩),
 (86,⟨.struct [(0,23),(1,84)],[.S,.S],48⟩),
 (87,⟨.tuple [86,4],[],0⟩),
 (90,⟨.slice 215,[.S],24⟩),
 (92,⟨.struct [(0,3),(1,3),(2,90)],[.I,.I,.S],40⟩),
 (94,⟨.cell,[.P],8⟩),
 (95,⟨.cell,[.P],8⟩),
 (99,⟨.slice 156,[.S],24⟩),
 (101,⟨.struct [(0,23),(1,99)],[.S,.S],48⟩),
 (105,⟨.cell,[.P],8⟩),
 (107,⟨.struct [(0,26),(2,40)],[.S,.S,.I,.I,.I,.I,.S,.S,.S],152⟩),
 (112,⟨.struct [(0,22),(1,3)],[.S,.I],32⟩),
 (116,⟨.cell,[.F],8⟩),
 (117,⟨.tuple [29,4],[],0⟩),
 (122,⟨.cell,[.P],8⟩),
 (124,⟨.cell,[.P],8⟩),
 (126,⟨.struct [(0,3),(1,3),(2,3),(3,3),(4,3),(5,3),(6,3),(7,3)],[.I,.I,.I,.I,.I,.I,.I,.I],64⟩),
 (127,⟨.tuple [3,3],[],0⟩),
 (136,⟨.struct [(0,29),(1,29),(2,3)],[.S,.S,.I],56⟩),
 (140,⟨.tuple [29,29],[],0⟩),
 (145,⟨.slice 47,[.S],24⟩),
 (152,⟨.slice 154,[.S],24⟩),
 (154,⟨.struct [(0,3),(1,3),(2,152)],[.I,.I,.S],40⟩),
 (156,⟨.struct [(0,29),(1,3),(2,154)],[.S,.I,.I,.I,.S],72⟩),
 (163,⟨.tuple [3,4],[],0⟩),
 (171,⟨.slice 202,[.S],24⟩),
 (173,⟨.struct [(0,23),(1,171)],[.S,.S],48⟩),
 (179,⟨.cell,[.F],8⟩),
 (181,⟨.cell,[.P],8⟩),
 (198,⟨.slice 226,[.S],24⟩),
 (200,⟨.struct [(0,198),(1,3)],[.S,.I],32⟩),
 (202,⟨.struct [(0,29),(1,29),(2,3),(3,200)],[.S,.S,.I,.S,.I],88⟩),
 (203,⟨.cell,[.P],8⟩),
 (205,⟨.struct [(0,76)],[.S],24⟩),
 (215,⟨.struct [(0,29)],[.S],24⟩),
 (217,⟨.tuple [3,215],[],0⟩),
 (219,⟨.map 3 3,[.M],8⟩),
 (224,⟨.slice 200,[.S],24⟩),
 (226,⟨.struct [(0,3),(1,3),(2,3),(3,29),(4,224)],[.I,.I,.I,.S,.S],72⟩),
 (229,⟨.cell,[.P],8⟩),
 (230,⟨.tuple [229,4],[],0⟩),
 (233,⟨.struct [(0,29),(1,29),(2,29),(3,29),(4,29),(5,29),(6,29)],[.S,.S,.S,.S,.S,.S,.S],168⟩),
 (259,⟨.slice 29,[.S],24⟩),
 (275,⟨.cell,[.P],8⟩),
 (277,⟨.struct [(0,198),(1,3)],[.S,.I],32⟩)]
abbrev ON:Nat:=22
abbrev da:Nat:=200
abbrev wZ:Nat:=47
abbrev oC:Nat:=215
abbrev jw:Nat:=92
abbrev bI:Nat:=154
abbrev cQ:Nat:=70
abbrev eT:Nat:=156
abbrev dK:Nat:=26
abbrev cV:Nat:=75
abbrev mN:Nat:=173
abbrev iO:Nat:=78
abbrev jP:Nat:=101
abbrev jf:Nat:=202
abbrev uI:Nat:=40
abbrev db:Nat:=51
abbrev fJ:Nat:=226
abbrev dT:Nat:=145
abbrev ba:Nat:=62
abbrev pv:Nat:=136
abbrev lF:Nat:=86
abbrev aI:Nat:=3
abbrev xc:Nat:=29
abbrev vW:Nat:=126
abbrev nK:Nat:=205
abbrev Az:Nat:=233
abbrev kU:Nat:=277
abbrev bO:Nat:=107
abbrev pw:Nat:=112
abbrev Sj:Nat:=5
def Kq:tp cp TP:=by
 unfold tp;kernel_rfl
def GL:List Nat:=List.range' 3 335
def VO:SK cp GL:=by
 unfold SK;kernel_rfl
def VT:cp.follows .mixedOrders=true:=by kernel_rfl
def Zl(a b:Nat):Nat.beq a b=(a==b):=by rw[xf];simp
def Zk(a b:Nat):Nat.ble a b=(a -b==0):=by rw[xf];simp;omega
def Zm(a b:Nat):Nat.blt a b=(a+1 -b==0):=by rw[xf];simp[Nat.blt];omega
def Zg(g:Nat):List.elem g GL=(3 -g==0&&(g -337==0)):=by rw[xf];simp[GL];omega
section
variable{α β:Type}{a:α}{b:β}
def Y7(l:List α):(Array.mk l).toList=l:=rfl
end
section
variable(a b c d e f)
def o1:(Oper.mk a b c d e f).dst=a:=rfl
def o2:(Oper.mk a b c d e f).op=b:=rfl
def o3:(Oper.mk a b c d e f).type=c:=rfl
def o5:(Oper.mk a b c d e f).after=e:=rfl
def o6:(Oper.mk a b c d e f).guard=f:=rfl
end
section
variable(a b c)
def a2:(No.mk a b c).RT=a:=rfl
def a3:(No.mk a b c).Tf=b:=rfl
def a4:(No.mk a b c).dO=c:=rfl
def t1:(TI.mk a b c).FW=a:=rfl
def t2:(TI.mk a b c).sh=b:=rfl
def t3:(TI.mk a b c).bytes=c:=rfl
def g1:(Edge.mk a b).on=a:=rfl
def g2:(Edge.mk a b).ground=b:=rfl
end
def A0:No:=⟨[],[],[]⟩
def cI(x:Int):SV:=.c (.i x)
def cS(x:O):SV:=.c (.s x)
def cP(x:Nat×Nat):SV:=.c (.p x.1 x.2)
def mr(n:Nat){x:TI}(h:fu TP n=some x:=by cbv):fu TP n=some x:=h
def Zz:=mr 0
def ZA:=mr 3
def ZB:=mr 4
def ZC:=mr 5
def WQ:=mr 22
def WR:=mr 23
def WT:=mr 24
def WU:=mr 26
def WV:=mr 27
def WW:=mr 29
def WY:=mr 31
def WZ:=mr 32
def W0:=mr 37
def W2:=mr 38
def W3:=mr 40
def W4:=mr 41
def W5:=mr 47
def W6:=mr 51
def W7:=mr 52
def W8:=mr 55
def W9:=mr 62
def Xa:=mr 66
def Xb:=mr 68
def Xc:=mr 70
def Xd:=mr 75
def Xe:=mr 76
def Xf:=mr 78
def Xg:=mr 84
def Xh:=mr 86
def Xi:=mr 87
def Xj:=mr 90
def Xk:=mr 92
def Xl:=mr 94
def Xm:=mr 95
def Xn:=mr 99
def Un:=mr 101
def Uo:=mr 105
def Up:=mr 107
def Uq:=mr 112
def Ur:=mr 116
def Us:=mr 117
def Ut:=mr 122
def Uu:=mr 124
def Uv:=mr 126
def Uw:=mr 127
def Ux:=mr 136
def Uy:=mr 140
def Uz:=mr 145
def UA:=mr 152
def UB:=mr 154
def UC:=mr 156
def UD:=mr 163
def UE:=mr 171
def UF:=mr 173
def UG:=mr 179
def UH:=mr 181
def UJ:=mr 198
def UK:=mr 200
def UL:=mr 202
def UM:=mr 203
def UO:=mr 205
def UP:=mr 215
def UQ:=mr 217
def UR:=mr 219
def US:=mr 224
def UT:=mr 226
def UU:=mr 229
def UW:=mr 230
def UX:=mr 233
def UY:=mr 259
def UZ:=mr 275
def U0:=mr 277
def cY(m:J)(R:Value->J->Prop)(A:No)(a:List SV){f:FuncId}{b:Go.Func}{X:Prop}{c:Code}{n:Nat}{e:List ResultVar}{g:List Value}(k:cp.funcs[f]? =some b)
 (d:(b.body,b.ntmps,b.results)=(some c,n,Array.mk e):=by cbv)
 (i:a.all SV.iZ=true:=by kernel_rfl)(l:Nat.ble a.length n=true:=by kernel_rfl)(hd:pJ c=true:=by kernel_rfl)
 (o:a.map SV.v=g:=by dsimp only[List.map,cI,cS,cP,SV.v,Ce.v])
 (w:Wi (QZ cp TP GL A n e c a m R) X->True:=by intro w;obtain - :=Zj w (by sym -abstractProof=>simp[Zg,A0.eq_1,cI.eq_1,cS.eq_1,cP.eq_1,Zz,ZA,ZB,ZC,WQ,WR,WT,WU,WV,WW,WY,WZ,W0,W2,W3,W4,W5,W6,W7,W8,W9,Xa,Xb,Xc,Xd,Xe,Xf,Xg,Xh,Xi,Xj,Xk,Xl,Xm,Xn,Un,Uo,Up,Uq,Ur,Us,Ut,Uu,Uv,Uw,Ux,Uy,Uz,UA,UB,UC,UD,UE,UF,UG,UH,UJ,UK,UL,UM,UO,UP,UQ,UR,US,UT,UU,UW,UX,UY,UZ,U0,Zl,Zk,Zm,Y7,o1,o2,o3,o5,o6,a2,a3,a4,t1,t2,t3,g1,g2,cE,eX,cA,dN,LZ,List.all_nil,aZ,eG,List.elem_cons,LY,Bool.false_and,TG,TF,Bool.true_or,LX,Ky,Bool.and_true,nG,Option.map_none,fj,fO,lR,List.flatMap_nil,List.isEmpty_cons,List.isEmpty_nil,List.any_cons,OV,pY,Lc,tI.eq_1,tI.eq_2,vc.eq_1,vc.eq_4,vc.eq_6,vc.eq_7,vc.eq_8,tR.eq_def,WG.eq_def,Ul.eq_def,ql.eq_1,ql.eq_2,JN.eq_def,SC.eq_1,SC.eq_2,tJ.eq_1,Ck.eq_1,Ck.eq_2,kD.eq_1,po.eq_1,po.eq_2,nV.eq_def,ni.eq_1,ni.eq_2,NH.eq_1,NG.eq_1,Mj.eq_1,Mj.eq_2,FF.eq_1,FF.eq_2,Pm.eq_def,Ui.eq_1,Cn.eq_def,lk.eq_1,lk.eq_2,nY.eq_1,CA.eq_1,CA.eq_2,JW.eq_1,JW.eq_2,pb.eq_def,wh.eq_def,jS.eq_1,nH.eq_1,nH.eq_2,kO.eq_1,tw.eq_1,tw.eq_2,tw.eq_3,rD.eq_1,yP.eq_1,yP.eq_2,gd.eq_1,gd.eq_2,Jx.eq_1,rp.eq_1,rp.eq_2,JA.eq_def,wr.eq_1,wr.eq_2,wr.eq_4,wr.eq_6,wr.eq_8,wr.eq_9,wr.eq_10,wr.eq_11,wz.eq_1,wz.eq_2,QH.eq_1,SD.eq_1,KD.eq_def,zm.eq_def,rd.eq_1,rd.eq_2,rd.eq_3,rd.eq_4,rd.eq_5,rd.eq_6,rd.eq_7,rd.eq_8,rd.eq_9,rd.eq_10,rd.eq_11,rd.eq_12,rd.eq_13,rd.eq_15,Q4.eq_def,TZ,T0,T4,Lp.eq_1,Fp.eq_1,Fp.eq_2,Mt.eq_1,KR.eq_1,KR.eq_2,uw.eq_1,uw.eq_2,Ee.eq_1,Ee.eq_2,lH.eq_1,lH.eq_2,lH.eq_3,lH.eq_4,lH.eq_5,SV.cells.eq_def,XE.eq_def,Tp.eq_def,SX.eq_def,qS.eq_1,qS.eq_2,qS.eq_3,qS.eq_6,qS.eq_7,qS.eq_8,qS.eq_9,qS.eq_10,qS.eq_11,qS.eq_12,T7,T9,Uh.eq_1,Gb.eq_1,Gb.eq_2,Gb.eq_3,kK.eq_def,SV.iZ.eq_def,TI.tP.eq_1,TI.agg.eq_1,Sh.zero.eq_1,Sh.zero.eq_2,Sh.zero.eq_3,Sh.zero.eq_4,Sh.zero.eq_5,Sh.zero.eq_6,Sh.zero.eq_7,ev.eq_1,ev.eq_2,ev.eq_3,ev.eq_4,Eg.eq_def,oR.eq_1,oR.eq_2,jQ.eq_1,jQ.eq_3,jQ.eq_4,jQ.eq_5,jQ.eq_6,jQ.eq_7,tr.eq_1,tr.eq_2,SV.nb.eq_def,gJ.eq_1,gJ.eq_2,AV.sv.eq_1,AV.sv.eq_2,SV.v.eq_1,SV.v.eq_2,SV.v.eq_3,SV.v.eq_4,SV.v.eq_5,SV.v.eq_6,SV.v.eq_7,SV.v.eq_8,SV.v.eq_9,AV.v.eq_1,AV.v.eq_2,Ce.v.eq_1,Ce.v.eq_2,Ce.v.eq_3,Ce.v.eq_4,Ce.v.eq_5,Ce.v.eq_6,Ce.v.eq_7,Ce.v.eq_8,Ce.v.eq_9,Ce.v.eq_10,Ce.v.eq_11,Ce.v.eq_12,Ce.v.eq_13,ur.eq_1,ur.eq_2,RK.eq_1,Eh.eq_def,iK.eq_1,iK.eq_2,FD.eq_1,FD.eq_2,Mf.eq_1,Mf.eq_2,Sh.ty.eq_1,Sh.ty.eq_2,Sh.ty.eq_3,Sh.ty.eq_4,Sh.ty.eq_5,Sh.ty.eq_6,Sh.ty.eq_7,Sh.mk.eq_1,Sh.mk.eq_2,Sh.mk.eq_3,Sh.mk.eq_4,Sh.mk.eq_5,Sh.mk.eq_6,Sh.mk.eq_7,FH.eq_1,SV.Ta.eq_def,AV.Ta.eq_1,AV.Ta.eq_2,EG.eq_1,Tt.eq_1,Tt.eq_2,Rr.eq_1,Rr.eq_2,YD.eq_1,YC.eq_1,YI.eq_1,YJ.eq_1,YF.eq_1,Yx.eq_1,Yy.eq_1,pa.eq_1,p3.eq_1,p2.eq_1,Qe.eq_1,Tk.eq_1,YB.eq_1,YE.eq_1,Wz.eq_1,YK.eq_1,YH.eq_1,YG.eq_1,Tl.eq_1,Yz.eq_1,YA.eq_1,kw.eq_1,kr.eq_1,ky.eq_1,kn.eq_1,Yo.eq_1,Yr.eq_1,Xz.eq_1,Yp.eq_1,Ys.eq_1,Yq.eq_1,kq.eq_1,ks.eq_def,kc.eq_def,ki.eq_1,kb.eq_def,ke.eq_def,kl.eq_1,kR.eq_def,kx.eq_1,kz.eq_1,kf.eq_def,Mh.eq_1,Wn,RF,P8,P5,TW,TX,Ua,RC,Wk,RD,T6,RE,Rz,RB,T8,Ub,P4,RG,P6,P7,Wm,Wl,TR,TS,Zc,Zf,Za,Ws,Ze,Zb,Zd,Y3,Y6,Y1,Wa,Y5,Y2,Y4,Y8,z0,z1,tb,TU,b1,b2,b3,b4,b5,b6,RH,RI,Wq,Wp,Wo,TV,TY,Zq,Zr,Zs,Zt,Zu,Zv,Zw,jF];exact Tg.lf _) (by refine Tg.pm.trans ?_;dsimp -zeta+instances only[↓Qi,Zh,↓Wx,Zo,Zn,FD,Mf,Sh.ty,Int.cast_ofNat_Int]);trivial)
 (j:X=QZ cp TP GL A n e c a m R:=by kernel_rfl)
 :X->aL cp f g m R:=λh=>by
 subst o
 exact pV Kq VO VT k (pB Prod.fst d) (pB (λx=>x.2.1) d) (pB (λx=>x.2.2) d) i (k8 l) hd (j▸h)
def YS(m:J)(R:Value->J->Prop)(A:No)(a:List SV){f:FuncId}{b:Go.Func}{X:Prop}{c:Code}{n:Nat}{e:List ResultVar}{g:List Value}(k:cp.funcs[f]? =some b)
 (d:(b.body,b.ntmps,b.results)=(some c,n,Array.mk e):=by cbv)
 (i:a.all SV.iZ=true:=by kernel_rfl)(l:Nat.ble a.length n=true:=by kernel_rfl)(hd:pJ c=true:=by kernel_rfl)
 (o:a.map SV.v=g:=by dsimp only[List.map,cI,cS,cP,SV.v,Ce.v])
 (w:Wi (QZ cp TP GL A n e c a m R) X->True:=by intro w;obtain - :=Zj w (by sym -abstractProof=>simp[Zg,A0.eq_1,cI.eq_1,cS.eq_1,cP.eq_1,Zz,ZA,ZB,ZC,WQ,WR,WT,WU,WV,WW,WY,WZ,W0,W2,W3,W4,W5,W6,W7,W8,W9,Xa,Xb,Xc,Xd,Xe,Xf,Xg,Xh,Xi,Xj,Xk,Xl,Xm,Xn,Un,Uo,Up,Uq,Ur,Us,Ut,Uu,Uv,Uw,Ux,Uy,Uz,UA,UB,UC,UD,UE,UF,UG,UH,UJ,UK,UL,UM,UO,UP,UQ,UR,US,UT,UU,UW,UX,UY,UZ,U0,Zl,Zk,Zm,Y7,o1,o2,o3,o5,o6,a2,a3,a4,t1,t2,t3,g1,g2,cE,eX,cA,dN,LZ,List.all_nil,aZ,eG,List.elem_cons,LY,Bool.false_and,TG,TF,Bool.true_or,LX,Ky,Bool.and_true,nG,Option.map_none,fj,fO,lR,List.flatMap_nil,List.isEmpty_cons,List.isEmpty_nil,List.any_cons,OV,pY,Lc,tI.eq_1,tI.eq_2,vc.eq_1,vc.eq_4,vc.eq_6,vc.eq_7,vc.eq_8,tR.eq_def,WG.eq_def,Ul.eq_def,ql.eq_1,ql.eq_2,JN.eq_def,SC.eq_1,SC.eq_2,tJ.eq_1,Ck.eq_1,Ck.eq_2,kD.eq_1,po.eq_1,po.eq_2,nV.eq_def,ni.eq_1,ni.eq_2,NH.eq_1,NG.eq_1,Mj.eq_1,Mj.eq_2,FF.eq_1,FF.eq_2,Pm.eq_def,Ui.eq_1,Cn.eq_def,lk.eq_1,lk.eq_2,nY.eq_1,CA.eq_1,CA.eq_2,pb.eq_def,wh.eq_def,jS.eq_1,nH.eq_1,nH.eq_2,kO.eq_1,tw.eq_1,tw.eq_2,tw.eq_3,rD.eq_1,yP.eq_1,yP.eq_2,gd.eq_1,gd.eq_2,Jx.eq_1,rp.eq_1,rp.eq_2,JA.eq_def,wr.eq_1,wr.eq_2,wr.eq_4,wr.eq_6,wr.eq_8,wr.eq_9,wr.eq_10,wr.eq_11,wz.eq_1,wz.eq_2,QH.eq_1,SD.eq_1,KD.eq_def,zm.eq_def,rd.eq_1,rd.eq_2,rd.eq_3,rd.eq_4,rd.eq_5,rd.eq_6,rd.eq_7,rd.eq_8,rd.eq_9,rd.eq_10,rd.eq_11,rd.eq_12,rd.eq_13,rd.eq_15,Q4.eq_def,TZ,T0,T4,Lp.eq_1,Fp.eq_1,Fp.eq_2,Mt.eq_1,KR.eq_1,KR.eq_2,uw.eq_1,uw.eq_2,Ee.eq_1,Ee.eq_2,lH.eq_1,lH.eq_2,lH.eq_3,lH.eq_4,lH.eq_5,SV.cells.eq_def,XE.eq_def,Tp.eq_def,SX.eq_def,qS.eq_1,qS.eq_2,qS.eq_3,qS.eq_6,qS.eq_7,qS.eq_8,qS.eq_9,qS.eq_10,qS.eq_11,qS.eq_12,T7,T9,Uh.eq_1,Gb.eq_1,Gb.eq_2,Gb.eq_3,kK.eq_def,SV.iZ.eq_def,TI.tP.eq_1,TI.agg.eq_1,Sh.zero.eq_1,Sh.zero.eq_2,Sh.zero.eq_3,Sh.zero.eq_4,Sh.zero.eq_5,Sh.zero.eq_6,Sh.zero.eq_7,ev.eq_1,ev.eq_2,ev.eq_3,ev.eq_4,Eg.eq_def,oR.eq_1,oR.eq_2,jQ.eq_1,jQ.eq_3,jQ.eq_4,jQ.eq_5,jQ.eq_6,jQ.eq_7,tr.eq_1,tr.eq_2,SV.nb.eq_def,gJ.eq_1,gJ.eq_2,AV.sv.eq_1,AV.sv.eq_2,SV.v.eq_1,SV.v.eq_2,SV.v.eq_3,SV.v.eq_4,SV.v.eq_5,SV.v.eq_6,SV.v.eq_7,SV.v.eq_8,SV.v.eq_9,AV.v.eq_1,AV.v.eq_2,Ce.v.eq_1,Ce.v.eq_2,Ce.v.eq_3,Ce.v.eq_4,Ce.v.eq_5,Ce.v.eq_6,Ce.v.eq_7,Ce.v.eq_8,Ce.v.eq_9,Ce.v.eq_10,Ce.v.eq_11,Ce.v.eq_12,Ce.v.eq_13,ur.eq_1,ur.eq_2,RK.eq_1,Eh.eq_def,iK.eq_1,iK.eq_2,FD.eq_1,FD.eq_2,Mf.eq_1,Mf.eq_2,Sh.ty.eq_1,Sh.ty.eq_2,Sh.ty.eq_3,Sh.ty.eq_4,Sh.ty.eq_5,Sh.ty.eq_6,Sh.ty.eq_7,Sh.mk.eq_1,Sh.mk.eq_2,Sh.mk.eq_3,Sh.mk.eq_4,Sh.mk.eq_5,Sh.mk.eq_6,Sh.mk.eq_7,FH.eq_1,SV.Ta.eq_def,AV.Ta.eq_1,AV.Ta.eq_2,EG.eq_1,Tt.eq_1,Tt.eq_2,Rr.eq_1,Rr.eq_2,YD.eq_1,YC.eq_1,YI.eq_1,YJ.eq_1,YF.eq_1,Yx.eq_1,Yy.eq_1,pa.eq_1,p3.eq_1,p2.eq_1,Qe.eq_1,Tk.eq_1,YB.eq_1,YE.eq_1,Wz.eq_1,YK.eq_1,YH.eq_1,YG.eq_1,Tl.eq_1,Yz.eq_1,YA.eq_1,kw.eq_1,kr.eq_1,ky.eq_1,kn.eq_1,Yo.eq_1,Yr.eq_1,Xz.eq_1,Yp.eq_1,Ys.eq_1,Yq.eq_1,kq.eq_1,ks.eq_def,kc.eq_def,ki.eq_1,kb.eq_def,ke.eq_def,kl.eq_1,kR.eq_def,kx.eq_1,kz.eq_1,kf.eq_def,Mh.eq_1,Wn,RF,P8,P5,TW,TX,Ua,RC,Wk,RD,T6,RE,Rz,RB,T8,Ub,P4,RG,P6,P7,Wm,Wl,TR,TS,Zc,Zf,Za,Ws,Ze,Zb,Zd,Y3,Y6,Y1,Wa,Y5,Y2,Y4,Y8,z0,z1,tb,TU,b1,b2,b3,b4,b5,b6,RH,RI,Wq,Wp,Wo,TV,TY];simp[cE,eX,jF,JW.eq_1,JW.eq_2,Zq,Zr,Zs,Zt,Zu,Zv,Zw];exact Tg.lf _) (by refine Tg.ZQ.trans ?_;dsimp -zeta+instances only[↓Qi,Zh,↓Wx,Zo,Zn,FD,Mf,Sh.ty,Int.cast_ofNat_Int]);trivial)
 (j:X=QZ cp TP GL A n e c a m R:=by kernel_rfl)
 :X->aL cp f g m R:=λh=>by
 subst o
 exact pV Kq VO VT k (pB Prod.fst d) (pB (λx=>x.2.1) d) (pB (λx=>x.2.2) d) i (k8 l) hd (j▸h)
end
section
variable{m:J}{R:Value->J->Prop}
def uq(cJ:O):=cY m R A0 [cS cJ] Tryz.func5
def CP(a b:O)(aY:Int):=cY m R ⟨[(4,[])],[],[(4,[49,47])]⟩ [.agg [.s a,.s b],cI aY] Tryz.func9
end
section
variable{m:J}{R:Value->J->Prop}
def wC(cJ:O):=cY m R A0 [cS cJ] Tryz.func21
def C4(a b:O)(aY:Int):=cY m R A0 [.agg [.s a,.s b],cI aY] Tryz.func23
def tx(cJ:O):=cY m R A0 [cS cJ] Tryz.func27
def xI(a b:O):=cY m R ⟨[(5,[(20,.I)]),(13,[(66,.I)])],[(12,[])],[(5,[82,80]),(12,[85,82,80]),(13,[85,82,80])]⟩ [.agg [.s a,.s b]] Tryz.func28
def Bc(aT:O):=cY m R ⟨[(3,[(3,.I),(8,.I)])],[],[]⟩ [cS aT] Tryz.func29
def xO(a b:O)(aY:Int):=cY m R A0 [.agg [.s a,.s b],cI aY] Tryz.func30
def vj(a:Nat×Nat):=cY m R ⟨[],[(5,[(4,.T)])],[(5,[91])]⟩ [cP a] Tryz.func31
def yr(a b:O):=cY m R ⟨[(4,[(3,.I)])],[],[(4,[30])]⟩ [.agg [.s a,.s b]] Tryz.func32
def Dl(n fW a:Int):=cY m R A0 [cI n,cI fW,cI a] Tryz.func33
def zY(cJ:O):=cY m R A0 [cS cJ] Tryz.func37
end
section
variable{m:J}{R:Value->J->Prop}
def yV(s:Nat×Nat)(a b c d:Int)(e f g:O):=cY m R ⟨[(4,[(31,.I)])],[],[(4,[49])]⟩ [cP s,.agg [.i a,.i b,.i c,.i d,.s e,.s f,.s g]] Tryz.func43
def wk(s:Nat×Nat)(a:Int)(iI:Bool):=cY m R A0 [cP s,cI a,.c (.t iI)] Tryz.func44
def DC(a b:O)(aY:Int):=cY m R ⟨[(3,[])],[],[(3,[73,71])]⟩ [.agg [.s a,.s b],cI aY] Tryz.func45
def Bj(r:Nat×Nat):=cY m R A0 [cP r] Tryz.func47
def BZ(r:Nat×Nat):=cY m R A0 [cP r] Tryz.func48
def yZ(a b:O):=cY m R ⟨[(5,[(18,.I)])],[],[(5,[43,42])]⟩ [.agg [.s a,.s b]] Tryz.func49
def oV(f g a b:O)(c d:Int)(e:O)(k h i j l:Int)(n o:O):=cY m R ⟨[(6,[(88,.I)])],[(5,[])],[(5,[147,146,145,144]),(6,[147,146,145,144])]⟩ [.agg [.s f,.s g],.agg [.s a,.s b,.i c,.i d,.s e],cI k,.agg [.i h,.i i,.i j,.i l,.s n,.s o]] Tryz.func50
def Be(b c:O)(eu a:Int):=cY m R A0 [.agg [.s b,.s c],cI eu,cI a] Tryz.func51
def wm(a f:Nat×Nat)(b c d e:Int)(g h:O):=cY m R ⟨[(4,[(28,.I)]),(14,[(65,.I)])],[(13,[])],[(4,[212,211]),(13,[212,211]),(14,[212,211])]⟩ [cP a,cP f,.agg [.i b,.i c,.i d,.i e,.s g,.s h]] Tryz.func52
def xL(a f:Nat×Nat)(b c d e:Int)(g h:O):=cY m R ⟨[(3,[(24,.I)])],[],[(3,[353])]⟩ [cP a,cP f,.agg [.i b,.i c,.i d,.i e,.s g,.s h]] Tryz.func53
def Ar(a b:O):=cY m R ⟨[(4,[(3,.I)])],[],[(4,[65])]⟩ [.agg [.s a,.s b]] Tryz.func54
def wS(a b:O):=cY m R ⟨[(3,[(4,.I)])],[],[(3,[37,36])]⟩ [.agg [.s a,.s b]] Tryz.func55
def Aq(a b c d:O)(e f:Int)(g:O):=cY m R ⟨[(5,[(6,.I)])],[],[(5,[62,61])]⟩ [.agg [.s a,.s b],.agg [.s c,.s d,.i e,.i f,.s g]] Tryz.func56
def ng(a:O):=cY m R A0 [cS a] Tryz.func57
def yp(a b:O)(aY:Int):=cY m R A0 [.agg [.s a,.s b],cI aY] Tryz.func58
end
section
variable{m:J}{R:Value->J->Prop}
def oF(s:O)(f:Fn×Array Value×Array Value):=cY m R A0 [cS s,.c (.fv f)] Tryz.func69
def y8(h:O):=cY m R ⟨[(3,[(3,.I),(8,.I)])],[],[]⟩ [cS h] Tryz.func73
def uy(c a:Nat×Nat):=cY m R A0 [cP c,cP a] Tryz.func74
def vK(a:Nat×Nat):=cY m R A0 [cP a] Tryz.func75
def uz(c a:Nat×Nat)(b mf:Int):=cY m R A0 [cP c,cP a,cI b,cI mf] Tryz.func76
end
section
variable{m:J}{R:Value->J->Prop}
def sO(s:O):=cY m R A0 [cS s] Tryz.func77
def zN(r:Nat×Nat):=cY m R A0 [cP r] Tryz.func80
def wP(r:Nat×Nat)(n:Int):=cY m R A0 [cP r,cI n] Tryz.func81
def zw(r:Nat×Nat)(a b:O):=cY m R ⟨[(3,[(6,.I)])],[],[(3,[57,56,55])]⟩ [cP r,.agg [.s a,.s b]] Tryz.func82
def ym(r:Nat×Nat)(a b:O)(c:Int):=cY m R A0 [cP r,.agg [.s a,.s b],cI c] Tryz.func83
def yi(r:Nat×Nat)(a:O):=cY m R A0 [cP r,cS a] Tryz.func84
def y9(aT lY:O):=cY m R ⟨[(4,[(39,.I)]),(9,[(64,.I)])],[],[(9,[108])]⟩ [cS aT,cS lY] Tryz.func85
def vo(a:Int):=cY m R A0 [cI a] Tryz.func86
def nT(a:Int)(b c:Nat×Nat):=cY m R A0 [cI a,cP b,cP c] Tryz.func87
def nU(a:Int)(b:Nat×Nat):=cY m R A0 [cI a,cP b] Tryz.func88
def pP(b c:O)(d e f g:Int)(h i:O)(a:Fn×Array Value×Array Value):=cY m R A0 [.agg [.s b,.s c],.agg [.i d,.i e,.i f,.i g,.s h,.s i],.c (.fv a)] Tryz.func89
def qV(a b:O)(c d e f:Int)(g h:O):=cY m R A0 [.agg [.s a,.s b],.agg [.i c,.i d,.i e,.i f,.s g,.s h]] Tryz.func90
def rK(a:Nat×Nat)(b c d e:Int)(f g:O):=cY m R ⟨[(15,[(4,.S),(5,.S),(31,.I)])],[],[(15,[62])]⟩ [cP a,.agg [.i b,.i c,.i d,.i e,.s f,.s g]] Tryz.func91
def tv(a:Nat×Nat)(w:Int):=cY m R A0 [cP a,cI w] Tryz.func92
def uj(Nr:Int)(a:Nat×Nat):=cY m R A0 [cI Nr,cP a] Tryz.func93
def CR(a:O):=cY m R A0 [cS a] Tryz.func94
end
section
variable{m:J}{R:Value->J->Prop}
def rO(a f:Nat×Nat)(b c d e:Int)(g h:O):=cY m R A0 [cP a,cP f,.agg [.i b,.i c,.i d,.i e,.s g,.s h]] Tryz.func95
def qB(a f:Nat×Nat)(b c d e:Int)(g h:O):=cY m R ⟨[(14,[(10,.S),(74,.I)])],[],[(14,[125,121])]⟩ [cP a,cP f,.agg [.i b,.i c,.i d,.i e,.s g,.s h]] Tryz.func96
def sF(a f:Nat×Nat)(b c d e:Int)(g h:O):=cY m R A0 [cP a,cP f,.agg [.i b,.i c,.i d,.i e,.s g,.s h]] Tryz.func97
def yU(f:Nat×Nat)(Nr w aQ:Int):=cY m R A0 [cP f,cI Nr,cI w,cI aQ] Tryz.func98
def qU(a f:Nat×Nat)(b c d e:Int)(g h:O):=cY m R A0 [cP a,cP f,.agg [.i b,.i c,.i d,.i e,.s g,.s h]] Tryz.func99
def uh(a:Nat×Nat)(kd:Int)(aR:O):=cY m R A0 [cP a,cI kd,cS aR] Tryz.func100
def wj(f:Nat×Nat)(ao:O):=cY m R ⟨[(3,[(13,.I)])],[],[]⟩ [cP f,cS ao] Tryz.func101
def yX(h:Nat×Nat)(w:Int):=cY m R ⟨[(1,[(4,.S)])],[],[]⟩ [cP h,cI w] Tryz.func102
def vh(a f:Nat×Nat)(b c d e:Int)(g h:O):=cY m R ⟨[(5,[(39,.I)])],[],[(5,[58])]⟩ [cP a,cP f,.agg [.i b,.i c,.i d,.i e,.s g,.s h]] Tryz.func103
def vn(w:Int):=cY m R A0 [cI w] Tryz.func104
def sQ(s:O)(v:Int):=cY m R ⟨[(2,[(8,.I)])],[],[]⟩ [cS s,cI v] Tryz.func105
def Ep(aT:O)(t:Int):=cY m R ⟨[(6,[(6,.S),(28,.I)])],[],[]⟩ [cS aT,cI t] Tryz.func106
def vg(b:Nat×Nat)(eu:Int)(a:O)(c d e f:Int)(g h:O):=cY m R ⟨[(9,[(63,.I)])],[(7,[(9,.I)])],[(7,[111]),(9,[114,111])]⟩ [cP b,cI eu,cS a,.agg [.i c,.i d,.i e,.i f,.s g,.s h]] Tryz.func107
def ui(a:Nat×Nat)(w:Int)(dO:Bool):=cY m R ⟨[(13,[(69,.I)])],[(5,[])],[]⟩ [cP a,cI w,.c (.t dO)] Tryz.func108
def rL(a:Nat×Nat)(w:Int):=cY m R A0 [cP a,cI w] Tryz.func109
def yw(aT:O):=cY m R ⟨[(4,[(3,.I)])],[],[]⟩ [cS aT] Tryz.func110
def Bh(aT a:O):=cY m R ⟨[(2,[(5,.I)])],[],[]⟩ [cS aT,cS a] Tryz.func111
def Ap(a cG:O):=cY m R ⟨[(2,[(5,.I)])],[],[]⟩ [cS a,cS cG] Tryz.func112
end
end Go.Proofs.YtgnjacfobdjeeaaGreat
