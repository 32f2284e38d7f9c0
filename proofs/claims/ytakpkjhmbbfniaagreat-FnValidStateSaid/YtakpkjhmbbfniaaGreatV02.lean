/- Part of a proof, joined by a program. -/
import Derived.Test.YtakpkjhmbbfniaaGreatProg
import Derived.Test.YtakpkjhmbbfniaaGreatV01
set_option linter.unusedVariables false
set_option linter.unusedSimpArgs false
set_option linter.defProp false
set_option maxHeartbeats 8000000
set_option maxRecDepth 100000
section
namespace Go.Vc
section
variable{P:Program}{T:TT}{G:List Nat}{n:Nat}{A:PK}{m m':ah}{fr fr':Fr}{b o j i t:Nat}{s:Sh}{d:Option Nat}{v:Value}
def nc(n:Nat):Int:=n
theorem nce{n:Nat}:nc n=n:=rfl
theorem abQ{x:Operand}{k:SV->Prop}:Wc T fr .len [t] [x] k=match dP T t,ev fr x with
 |some ⟨.slice _,_,_⟩,.c (.s s)=>k (.c (.i (nc s.len)))
 |_,_=>False:=rfl
theorem abR{x y:Operand}{l:List Nat}{k:SV->Prop}:Wc T fr .max l [x,y] k=match ev fr x,ev fr y with
 | .c (.i a),.c (.i b)=>k (.c (.i (if b>a then b else a)))
 |_,_=>False:=rfl
theorem abS{x y:Operand}{l:List Nat}{k:SV->Prop}:Wc T fr .min l [x,y] k=match ev fr x,ev fr y with
 | .c (.i a),.c (.i b)=>k (.c (.i (if b<a then b else a)))
 |_,_=>False:=rfl
theorem Ta(m:ah)(k:ah->Prop):N4 m k=(let m':=m;k m'):=rfl
def pa{α:Type}(x:α)(f:α->Prop):Prop:=f x
def VJ(s:Sh)(f:s.ty->Prop):Prop:=∃x,f x
def alS(s:Sh)(f:s.ty->Prop):Prop:=∀x,f x
theorem exI{f:Int->Prop}:VJ .I f=∃x,pa x f:=rfl
theorem exU{k:IntKind}{f:Int->Prop}:VJ (.U k) f=∃x,pa x f:=rfl
theorem exB{f:Bool->Prop}:VJ .T f=∃x,pa x f:=rfl
theorem aiG{f:Sl->Prop}:VJ .S f=∃x,pa x f:=rfl
theorem exP{f:Nat×Nat->Prop}:VJ .P f=∃x,pa x f:=rfl
theorem exF{f:Fn×Array Value×Array Value->Prop}:VJ .F f=∃x,pa x f:=rfl
theorem exM{f:Nat->Prop}:VJ .M f=∃x,pa x f:=rfl
theorem alI{f:Int->Prop}:alS .I f=∀x,f x:=rfl
theorem alU{k:IntKind}{f:Int->Prop}:alS (.U k) f=∀x,f x:=rfl
theorem alB{f:Bool->Prop}:alS .T f=∀x,f x:=rfl
theorem aiH{f:Sl->Prop}:alS .S f=∀x,f x:=rfl
theorem alP{f:Nat×Nat->Prop}:alS .P f=∀x,f x:=rfl
theorem alF{f:Fn×Array Value×Array Value->Prop}:alS .F f=∀x,f x:=rfl
theorem alM{f:Nat->Prop}:alS .M f=∀x,f x:=rfl
theorem cU8{x:Int}:iD (.int .u8 x)=some (.u .u8 x):=rfl
theorem z0{zs:List Ce}:kL zs 0=[]:=rfl
theorem z1{zs:List Ce}:kL zs (n+1)=zs++kL zs n:=rfl
theorem tb{a b:Nat}:Nat.testBit a b=(1&&&(a>>>b)!=0):=rfl
theorem abT{e:Edge}{es:List Edge}:jb (e::es)=bif Region.binds .any e then 2^e.on|||jb es else jb es:=rfl
theorem b1:Region.binds .any ⟨i,.data⟩=true:=rfl
theorem b2:Region.binds .any ⟨i,.chain⟩=true:=rfl
theorem b3:Region.binds .any ⟨i,.guard⟩=true:=rfl
theorem b4:Region.binds .any ⟨i,.phase⟩=true:=rfl
theorem b5{x:Departure}:Region.binds .any ⟨i,.gcOnly x⟩=false:=rfl
theorem b6{x:Departure}:Region.binds .any ⟨i,.textOnly x⟩=false:=rfl
def Tb(c:Ce)(k:List Ce->Prop)(l:List Ce):Prop:=k (c::l)
def aag(k:SV->Prop)(l:List Ce):Prop:=k (.agg l)
def kld(m:ah)(b o j:Nat)(s:Sh)(r:List Sh)(k:List Ce->Prop)(x:s.ty):Prop:=
 ad m b (bif j==0 then o else o+j)=some (s.mk x).v/\ldC m b o (j+1) r (Tb (s.mk x) k)
theorem aiI{r:List Sh}{k:List Ce->Prop}:ldC m b o j (s::r) k=VJ s (kld m b o j s r k):=by
 cases j<;>rfl
def klc(m:ah)(b o:Nat)(s:Sh)(k:SV->Prop)(x:s.ty):Prop:=ad m b o=some (s.mk x).v/\k (.c (s.mk x))
theorem Wu{t:Nat}{k:SV->Prop}:Pt T m t b o k=match dP T t with
 |some ⟨.struct _,sh,_⟩=>ldC m b o 0 sh (aag k)
 |some ⟨.cell,[s],_⟩=>VJ s (klc m b o s k)
 |some ⟨.slice _,[_],_⟩=>∃x:Sl,ad m b o=some x.v/\k (.c (.s x))
 |_=>False:=rfl
theorem ile{a b:Int}:Int.le a b=(a<=b):=rfl
def khi(s:Sl)(z:Nat)(l:Int)(k:SV->Prop)(h:Int):Prop:=Int.le 0 l/\Int.le l h/\Int.le h (nc s.cap)/\k (.c (.s (s.cut l.toNat h.toNat z)))
def klo(fr:Fr)(hi:Option Operand)(s:Sl)(z:Nat)(k:SV->Prop)(l:Int):Prop:=LV fr hi (nc s.len) (khi s z l k)
theorem aiJ{f:Nat}{mk:Nat->SV}{k:SV->Prop}:DJ T t f o mk k=match dP T t with
 |some ⟨.struct kG,_,_⟩=>match FL kG f with
  |some (off,u)=>match dP T u with
   |some tu=>bif tu.sq||Nat.beq tu.sh.length 0 then False else bif off==0 then k (mk o)else k (mk (o+off))
   |none=>False
  |none=>False
 |_=>False:=by
 have h:∀off,(bif off==0 then k (mk o)else k (mk (o+off)))=k (mk (o+off)):=λoff=>by cases off<;>rfl
 simp only[h];rfl
theorem abU{s:Sl}{n:Int}{k:SV->Prop}:ae1 T t s n k=match dP T t with
 |some ⟨.slice e,_,_⟩=>match dP T e with
  |some te=>bif te.sq then False else Int.le 0 n/\n<nc s.len/\k (.c (.p s.ao (s.off+n.toNat*te.sh.length)))
  |none=>False
 |_=>False:=rfl
theorem Tc{s:Sl}{lo hi:Option Operand}{k:SV->Prop}:Rj T fr t s lo hi k=match dP T t with
 |some ⟨.slice e,_,_⟩=>match dP T e with
  |some te=>bif te.sq then False else LV fr lo 0 (klo fr hi s te.sh.length k)
  |none=>False
 |_=>False:=rfl
theorem Td{parts:Array (Nat×Operand)}{k:SV->Prop}:rd T fr m k (.build t parts)=match dP T t with
 |some ⟨.struct kG,sh,_⟩=>bif ta T kG then DI T fr kG (sh.map Sh.zero) parts.toList (aag k)else False
 |_=>False:=rfl
def kxc(s:Sh)(r:List Sh)(k:List Ce->Prop)(x:s.ty):Prop:=Zx r (Tb (s.mk x) k)
theorem abV{r:List Sh}{k:List Ce->Prop}:Zx (s::r) k=VJ s (kxc s r k):=rfl
def kav(a:AV)(k:List AV->Prop)(l:List AV):Prop:=k (a::l)
def kxt(T:TT)(r:List Nat)(k:List AV->Prop)(l:List Ce):Prop:=UC T r (kav (.agg l) k)
def kxs(T:TT)(s:Sh)(r:List Nat)(k:List AV->Prop)(x:s.ty):Prop:=UC T r (kav (.c (s.mk x)) k)
theorem abW{r:List Nat}{k:List AV->Prop}:UC T (t::r) k=match dP T t with
 |some ⟨.struct _,sh,_⟩=>Zx sh (kxt T r k)
 |some ⟨.cell,[s],_⟩=>VJ s (kxs T s r k)
 |some ⟨.slice _,[_],_⟩=>∃x:Sl,UC T r (kav (.c (.s x)) k)
 |_=>False:=rfl
def krt(v:Value)(k:SV->Prop)(l:List AV):Prop:=v=.tuple (l.map AV.v).toArray/\k (.tup l)
def krs(v:Value)(k:SV->Prop)(l:List Ce):Prop:=v=.agg (l.map Ce.v).toArray/\k (.agg l)
def krc(v:Value)(s:Sh)(k:SV->Prop)(x:s.ty):Prop:=v=(s.mk x).v/\k (.c (s.mk x))
theorem abX{k:SV->Prop}:PA T t v k=match dP T t with
 |some ⟨.tuple [],_,_⟩=>k .fC
 |some ⟨.tuple ts,_,_⟩=>UC T ts (krt v k)
 |some ⟨.struct _,sh,_⟩=>Zx sh (krs v k)
 |some ⟨.cell,[s],_⟩=>VJ s (krc v s k)
 |some ⟨.slice _,[_],_⟩=>∃x:Sl,v=x.v/\k (.c (.s x))
 |_=>False:=rfl
def aah(k:Fr->SV->ah->Prop)(fr:Fr)(m:ah)(x:SV):Prop:=k fr x m
def inG(G:List Nat)(g:Nat):Prop:=G.elem g=true
theorem aiL{G:List Nat}{g:Nat}:inG G g=(G.elem g=true):=rfl
def nz(b:Int):Prop:=b≠0
theorem nze{b:Int}:nz b=(b≠0):=rfl
theorem abY{a b:Int}{k:SV->Prop}:px .quo a b k=(nz b/\k (.c (.i (bS (a.tdiv b))))):=rfl
theorem abZ{a b:Int}{k:SV->Prop}:px .rem a b k=(nz b/\k (.c (.i (a.tmod b)))):=rfl
theorem Wv{ty:Nat}{f:Operand}{args:List Operand}{k:Fr->SV->ah->Prop}:Wh P T G n fr m ty f args k=match Wg fr (args.map (ev fr))with
 |none=>False
 |some fr'=>match ev fr f with
  | .c (.fn (.func g) first captured)=>bif G.elem g&&args.all (λx=>(ev fr x).fX)then
   aD P g (first.toList++(args.map λx=>(ev fr x).v)++captured.toList) m λv m'=>xD (LJ n fr' []) m m' (PA T ty v (aah k fr' m'))
   else False
  | .c (.fv q)=>bif args.all (λx=>(ev fr x).fX)then
   ∃g,q.1=.func g/\inG G g/\aD P g (q.2.1.toList++(args.map λx=>(ev fr x).v)++q.2.2.toList) m λv m'=>xD (LJ n fr' []) m m' (PA T ty v (aah k fr' m'))
   else False
  |_=>False:=rfl
def p3(m:ah)(k:Fr->SV->ah->Prop)(fr:Fr)(x:SV):Prop:=k fr x m
def p2(m:ah)(k:SV->ah->Prop)(x:SV):Prop:=k x m
theorem Ww{l:List Ce}{k:Fr->SV->ah->Prop}:UD n fr none m t l k=N4 (m.push (.cells (aU l) t)) λm'=>p3 m' k fr (.c (.p m.size 0)):=rfl
theorem Wx{j:Nat}{l:List Ce}{k:Fr->SV->ah->Prop}:UD n fr (some j) m t l k=match eJ fr (n+j)with
 | .xB _ _ _=>False
 |_=>N4 (m.push (.cells (aU l) t)) λm'=>p3 m' k ((n+j,.box m.size t l)::fr) (.c (.bp (n+j) m.size 0)):=rfl
theorem aiM{x:SV}{l:List Ce}{k:Fr->SV->ah->Prop}:N7 n fr m x l k=match x with
 | .c (.p b o)=>dW m b o l.length/\N4 (ag m b o l) λm'=>xD (LJ n fr []) m m' (k fr .un m')
 | .c (.bp q b o)=>match eJ fr q with
  | .box b' e cs=>bif Nat.ble (o+l.length) cs.length then NY b' b (N4 (ag m b o l) λm'=>p3 m' k ((q,.box b' e (fP cs o l))::fr) .un)else False
  | .xB _ _ _=>False
  |_=>dW m b o l.length/\N4 (ag m b o l) λm'=>xD (LJ n fr []) m m' (k fr .un m')
 |_=>False:=rfl
theorem aiN{ty:Nat}{x y:Operand}{k:Fr->SV->ah->Prop}:wr P T G n fr m d ty k (.makeSlice t x y)=match dP T t,ev fr x,ev fr y with
 |some ⟨.slice e,_,_⟩,.c (.i l),.c (.i c)=>match dP T e with
  |some te=>bif te.sq then False else Int.le 0 l/\Int.le l c/\Int.le (nc te.bytes*c) 281474976710656/\Int.le c 9223372036854775807/\
   N4 (m.push (.cells (aU (kL (te.sh.map Sh.zero) c.toNat)) e)) λm'=>p3 m' k fr (.c (.s (.mk m.size 0 l.toNat c.toNat)))
  |none=>False
 |_,_,_=>False:=rfl
theorem aiO{ty:Nat}{k:Fr->SV->ah->Prop}:wr P T G n fr m d ty k (.makeMap t none)=N4 (m.push (.map #[] 0)) λm'=>p3 m' k fr (.c (.mp m.size)):=rfl
theorem ab0{z:Nat}{s x:Sl}{k:SV->ah->Prop}:ae2 m z s x k=∃new:List Ce,new.length=Nat.min x.len s.len*z/\eK m x.ao x.off new/\dW m s.ao s.off new.length/\
 N4 (ag m s.ao s.off new) λm'=>p2 m' k (.c (.i (nc (Nat.min x.len s.len)))):=rfl
def kbs(fr:Fr)(m:ah)(e len:Nat)(k:Fr->SV->ah->Prop)(l:List Ce):Prop:=match DM fr l with
 |some fr'=>N4 (m.push (.cells (aU l) e)) λm'=>p3 m' k fr' (.c (.s (.mk m.size 0 len len)))
 |none=>False
theorem aiP{ty len:Nat}{parts:Array (Nat×Operand)}{k:Fr->SV->ah->Prop}:wr P T G n fr m d ty k (.buildSlice t len parts)=match dP T t with
 |some ⟨.slice e,_,_⟩=>match dP T e with
  |some te=>bif te.sq||!(Nat.ble (len*te.sh.length) 16777216)then False else
   uN T fr te.sh.length (kL (te.sh.map Sh.zero) len) parts.toList (kbs fr m e len k)
  |none=>False
 |_=>False:=rfl
def kcp(n:Nat)(fr:Fr)(m:ah)(k:Fr->SV->ah->Prop)(x:SV)(m':ah):Prop:=xD (LJ n fr []) m m' (k fr x m')
theorem Wy{ty:Nat}{x y:Operand}{u:Nat}{us:List Nat}{k:Fr->SV->ah->Prop}:wr P T G n fr m d ty k (.call ⟨.builtin .copy,⟨[x,y]⟩,⟨u::us⟩⟩)=match dP T u,ev fr x,ev fr y with
 |some ⟨.slice e,_,_⟩,.c (.s s),.c (.s z)=>match dP T e with
  |some te=>bif te.sq then False else ae2 m te.sh.length s z (kcp n fr m k)
  |none=>False
 |_,_,_=>False:=rfl
def kw(P:Program)(T:TT)(G:List Nat)(n:Nat)(ops:List Oper)(d:Option Nat)(iE:List Oper)(k:Fr->ah->Prop)(fr:Fr)(x:SV)(m:ah):Prop:=pR P T G n ops iE (rL fr d x) m k
def kr(P:Program)(T:TT)(G:List Nat)(n:Nat)(ops:List Oper)(d:Option Nat)(iE:List Oper)(k:Fr->ah->Prop)(fr:Fr)(m:ah)(x:SV):Prop:=pR P T G n ops iE (rL fr d x) m k
def ky(P:Program)(T:TT)(G:List Nat)(n:Nat)(ops:List Oper)(o:Oper)(iE:List Oper)(k:Fr->ah->Prop)(m:ah)(fr:Fr):Prop:=
 bif JP o.op then wr P T G n fr m o.dst o.type (kw P T G n ops o.dst iE k) o.op else rd T fr m (kr P T G n ops o.dst iE k fr m) o.op
def kn(P:Program)(T:TT)(G:List Nat)(n:Nat)(ops:List Oper)(d:Option Nat)(iE:List Oper)(k:Fr->ah->Prop)(m:ah)(fr:Fr):Prop:=pR P T G n ops iE (rL fr d .un) m k
theorem ab1{ops:List Oper}{o:Oper}{iE:List Oper}{k:Fr->ah->Prop}:pR P T G n ops (o::iE) fr m k=
 bif pQ n o.dst then gd ops fr o.guard (ky P T G n ops o iE k m) (kn P T G n ops o.dst iE k m)else False:=rfl
abbrev LL:=List (Nat×List (Nat×Nat))
def dr1(P:Program)(T:TT)(G:List Nat)(n:Nat)(ops:List Oper)(pm bm:List Nat)(fO done:Nat)(o:Oper)(i:Nat)(m:ah)(L:LL)(k:Fr->ah->Prop)(fr:Fr)(x:SV):Prop:=
 lT P T G n ops pm bm fO (done|||2^i) (rL fr o.dst x) m ((i,VI T fr o.op)::L) k
def dry(P:Program)(T:TT)(G:List Nat)(n:Nat)(ops:List Oper)(pm bm:List Nat)(fO done:Nat)(o:Oper)(i:Nat)(m:ah)(L:LL)(k:Fr->ah->Prop)(fr:Fr):Prop:=
 rd T fr m (dr1 P T G n ops pm bm fO done o i m L k fr) o.op
def drn(P:Program)(T:TT)(G:List Nat)(n:Nat)(ops:List Oper)(pm bm:List Nat)(fO done:Nat)(o:Oper)(i:Nat)(m:ah)(L:LL)(k:Fr->ah->Prop)(fr:Fr):Prop:=
 lT P T G n ops pm bm fO (done|||2^i) (rL fr o.dst .un) m L k
def dr2(P:Program)(T:TT)(G:List Nat)(n:Nat)(ops:List Oper)(pm bm:List Nat)(fO done:Nat)(o:Oper)(i:Nat)(m:ah)(L:LL)(k:Fr->ah->Prop)(fr:Fr)(x:SV)(m':ah):Prop:=
 Br (rO bm i) m m' L (lT P T G n ops pm bm fO (done|||2^i) (rL fr o.dst x) m' L k)
def dwy(P:Program)(T:TT)(G:List Nat)(n:Nat)(ops:List Oper)(pm bm:List Nat)(fO done:Nat)(o:Oper)(i:Nat)(m:ah)(L:LL)(k:Fr->ah->Prop)(fr:Fr):Prop:=
 wr P T G n fr m o.dst o.type (dr2 P T G n ops pm bm fO done o i m L k) o.op
def dra(P:Program)(T:TT)(G:List Nat)(n:Nat)(ops:List Oper)(pm bm:List Nat)(fO done:Nat)(m:ah)(L:LL)(k:Fr->ah->Prop)(fr:Fr)(i:Nat):Prop:=match FL ops i with
 |some o=>bif pQ n o.dst then gd ops fr o.guard (dwy P T G n ops pm bm fO done o i m L k) (drn P T G n ops pm bm fO done o i m L k)else False
 |none=>False
theorem Wz{ops:List Oper}{pm bm:List Nat}{fO done:Nat}{L:LL}{k:Fr->ah->Prop}:lT P T G n ops pm bm (fO+1) done fr m L k=match uP done 0 ops pm with
 |some i=>match FL ops i with
  |some o=>bif pQ n o.dst then gd ops fr o.guard (dry P T G n ops pm bm fO done o i m L k) (drn P T G n ops pm bm fO done o i m L k)else False
  |none=>False
 |none=>match mT done 0 ops pm with
  |[]=>k fr m
  |rs=>Oe rs (dra P T G n ops pm bm fO done m L k fr):=rfl
theorem WA{f:Nat->Prop}:Oe [i] f=f i:=rfl
theorem WC{r:List Nat}{f:Nat->Prop}:Oe (i::j::r) f=(f i/\Oe (j::r) f):=rfl
def kq(Q:Exit->Fr->ah->Prop)(fr:Fr)(m:ah):Prop:=Q .normal fr m
theorem ab2{ops:Array Oper}{draw:Bool}{Q:Exit->Fr->ah->Prop}:vc P T G n A (.region i ops draw) fr m Q=
 bif draw then lT P T G n ops.toList (pmG ops.toList) (Wo [] ops.toList) ops.toList.length 0 fr m [] (kq Q)
 else pR P T G n ops.toList ops.toList fr m (kq Q):=rfl
def kal(t:Nat)(s:Sh)(r:List (Nat×Sh))(I:s.ty->FW r)(fr:Fr)(k:Fr->(ah->Prop)->Prop)(x:s.ty):Prop:=PL r (I x) ((t,.c (s.mk x))::fr) k
theorem ab3{r:List (Nat×Sh)}{I:s.ty->FW r}{k:Fr->(ah->Prop)->Prop}:PL ((t,s)::r) I fr k=alS s (kal t s r I fr k):=rfl
def kam(t:Nat)(s:Sh)(r:List (Nat×Sh))(I:s.ty->FW r)(μ:s.ty->Oh r)(fr:Fr)(k:Fr->(ah->Prop)->(ah->Nat)->Prop)(x:s.ty):Prop:=PM r (I x) (μ x) ((t,.c (s.mk x))::fr) k
theorem ab4{r:List (Nat×Sh)}{I:s.ty->FW r}{μ:s.ty->Oh r}{k:Fr->(ah->Prop)->(ah->Nat)->Prop}:PM ((t,s)::r) I μ fr k=alS s (kam t s r I μ fr k):=rfl
def ks(P:Program)(T:TT)(G:List Nat)(n:Nat)(A:PK)(b:Code)(Q:Exit->Fr->ah->Prop):Exit->Fr->ah->Prop
 | .normal,fr',m'=>vc P T G n A b fr' m' Q
 |e,fr',m'=>Q e fr' m'
def kc(A:PK)(b:Code)(fr:Fr)(l:List (Nat×Sh))(K:FW l)(Q:Exit->Fr->ah->Prop):Exit->Fr->ah->Prop
 | .normal,fr',m'=>Zy fr fr' (ic A b) (FX l K fr' m')
 |e,fr',m'=>Q e fr' m'
def ki(P:Program)(T:TT)(G:List Nat)(n:Nat)(A:PK)(b:Code)(Q:Exit->Fr->ah->Prop)(fr':Fr)(K':ah->Prop):Prop:=∀m',K' m'->vc P T G n A b fr' m' Q
theorem ab5{a b:Code}{Q:Exit->Fr->ah->Prop}:vc P T G n A (.seq a b) fr m Q=match lkH A.aac b with
 |none=>vc P T G n A a fr m (ks P T G n A b Q)
 |some l=>bif mU (lU a) l then∃K:FW l,vc P T G n A a fr m (kc A b fr l K Q)/\
  PL l K (kY (lU a) (sB n (ic A b) fr)) (ki P T G n A b Q)else False:=by
 unfold ks kc ki;rfl
def kb(i:Nat)(Q:Exit->Fr->ah->Prop):Exit->Fr->ah->Prop
 | .exit j,fr',m'=>bif Nat.beq j i then Q .normal fr' m' else Q (.exit j) fr' m'
 |e,fr',m'=>Q e fr' m'
theorem Te{c:Code}{Q:Exit->Fr->ah->Prop}:vc P T G n A (.block i c) fr m Q=vc P T G n A c fr m (kb i Q):=by
 unfold kb;rfl
def ke(A:PK)(c:Code)(fr:Fr)(l:List (Nat×Sh))(I:FW l)(μ:Oh l)(N:Nat)(Q:Exit->Fr->ah->Prop):Exit->Fr->ah->Prop
 | .normal,se,m''=>Zy fr se (ic A c) (Oi l I μ se m'' N)
 |e,se,m''=>Q e se m''
def kl(P:Program)(T:TT)(G:List Nat)(n:Nat)(A:PK)(c:Code)(fr:Fr)(l:List (Nat×Sh))(I:FW l)(μ:Oh l)(Q:Exit->Fr->ah->Prop)(fr':Fr)(I':ah->Prop)(μ':ah->Nat):Prop:=
 ∀m',I' m'->vc P T G n A c fr' m' (ke A c fr l I μ (μ' m') Q)
theorem WD{c:Code}{Q:Exit->Fr->ah->Prop}:vc P T G n A (.loop c) fr m Q=match lkH A.Wn c with
 |none=>False
 |some l=>bif mU (lU c) l then∃(I:FW l)(μ:Oh l),FX l I fr m/\
  PM l I μ (kY (lU c) (sB n (ic A c) fr)) (kl P T G n A c fr l I μ Q)else False:=by
 unfold kl ke;rfl
def kR(m:ah)(R:Value->ah->Prop)(l:List SV):Prop:=match l with
 |[x]=>R x.v m
 |l=>R (.tuple (l.map SV.v).toArray) m
def kx(x:SV)(k:List SV->Prop)(l:List SV):Prop:=k (x::l)
def kz(T:TT)(fr:Fr)(m:ah)(r:List ResultVar)(k:List SV->Prop)(x:SV):Prop:=bif x.fX then DR T fr m r (kx x k)else False
theorem Tf{r:List ResultVar}{k:List SV->Prop}:DR T fr m (.tmp t::r) k=bif (eJ fr t).fX then DR T fr m r (kx (eJ fr t) k)else False:=rfl
theorem Th{p:Nat}{r:List ResultVar}{k:List SV->Prop}:DR T fr m (.cell p t::r) k=rd T fr m (kz T fr m r k) (.load t (.tmp p)):=rfl
def kf(T:TT)(rs:List ResultVar)(R:Value->ah->Prop):Exit->Fr->ah->Prop
 | .normal,fr,m=>DR T fr m rs (kR m R)
 | .ret,fr,m=>DR T fr m rs (kR m R)
 |_,_,_=>False
theorem aiQ{rs:List ResultVar}{c:Code}{args:List SV}{R:Value->ah->Prop}:UL P T G A n rs c args m R=vc P T G n A c (sD 0 args) m (kf T rs R):=by
 unfold kf kR;rfl
end
def Tg(_:Prop):Type:=Prop
def Tg.p{q:Prop}(t:Tg q):Prop:=t
def Tg.lf(q:Prop):Tg q:=q
theorem Tg.pm{a b:Prop}{h:Tg a=Tg b}:Tg.p (Eq.mpr h (Tg.lf b))=b:=rfl
theorem rg1:List.range 1=[0]:=rfl
theorem rg2:List.range 2=[0,1]:=rfl
theorem rg3:List.range 3=[0,1,2]:=rfl
theorem rg4:List.range 4=[0,1,2,3]:=rfl
theorem rg5:List.range 5=[0,1,2,3,4]:=rfl
theorem rg6:List.range 6=[0,1,2,3,4,5]:=rfl
theorem rg7:List.range 7=[0,1,2,3,4,5,6]:=rfl
theorem Tg.pm2{a b c:Prop}{h:Tg a=Tg b}{h2:Tg b=Tg c}:Tg.p (Eq.mpr h (Eq.mpr h2 (Tg.lf c)))=c:=rfl
def Wi(_ _:Prop):Type:=Unit
theorem mkT{a X:Prop}(_:Wi a X)(t:Tg a)(_:t.p=X):True:=trivial
end Go.Vc
end
namespace Go.Proofs.YtakpkjhmbbfniaaGreat
open Go.Vc
section
set_option linter.defProp false
def TBL:TT:=[(0,⟨.tuple [],[],0⟩),
 (3,⟨.cell,[.I],8⟩),
 (4,⟨.cell,[.T],1⟩),
 (5,⟨.cell,[(.U .u8)],1⟩),
 (22,⟨.slice 5,[.S],24⟩),
 (23,⟨.slice 144,[.S],24⟩),
 (24,⟨.slice 57,[.S],24⟩),
 (26,⟨.struct [(0,23),(1,24)],[.S,.S],48⟩),
 (27,⟨.slice 3,[.S],24⟩),
 (28,⟨.slice 37,[.S],24⟩),
 (29,⟨.slice 39,[.S],24⟩),
 (31,⟨.struct [(0,3),(1,3),(2,3),(3,3),(4,27),(5,28),(6,29)],[.I,.I,.I,.I,.S,.S,.S],104⟩),
 (32,⟨.tuple [26,31],[],0⟩),
 (37,⟨.struct [(0,3),(1,3),(2,27)],[.I,.I,.S],40⟩),
 (39,⟨.struct [(0,3),(1,3),(2,3),(3,27),(4,27),(5,27)],[.I,.I,.I,.S,.S,.S],96⟩),
 (42,⟨.cell,[.P],8⟩),
 (49,⟨.struct [(0,22),(1,3)],[.S,.I],32⟩),
 (50,⟨.slice 88,[.S],24⟩),
 (52,⟨.struct [(0,23),(1,50)],[.S,.S],48⟩),
 (53,⟨.tuple [52,4],[],0⟩),
 (55,⟨.slice 59,[.S],24⟩),
 (57,⟨.struct [(0,27),(1,27),(2,3),(3,3),(4,55)],[.S,.S,.I,.I,.S],88⟩),
 (59,⟨.struct [(0,3),(1,3),(2,3),(3,3),(4,27),(5,27)],[.I,.I,.I,.I,.S,.S],80⟩),
 (61,⟨.cell,[.F],8⟩),
 (62,⟨.tuple [27,4],[],0⟩),
 (76,⟨.slice 113,[.S],24⟩),
 (78,⟨.struct [(0,23),(1,76)],[.S,.S],48⟩),
 (82,⟨.cell,[.P],8⟩),
 (85,⟨.struct [(0,26),(2,31)],[.S,.S,.I,.I,.I,.I,.S,.S,.S],152⟩),
 (88,⟨.struct [(0,27),(1,27),(2,3)],[.S,.S,.I],56⟩),
 (91,⟨.tuple [3,3],[],0⟩),
 (94,⟨.tuple [3,4],[],0⟩),
 (101,⟨.slice 130,[.S],24⟩),
 (103,⟨.struct [(0,23),(1,101)],[.S,.S],48⟩),
 (109,⟨.slice 111,[.S],24⟩),
 (111,⟨.struct [(0,3),(1,3),(2,109)],[.I,.I,.S],40⟩),
 (113,⟨.struct [(0,27),(1,3),(2,111)],[.S,.I,.I,.I,.S],72⟩),
 (123,⟨.slice 4,[.S],24⟩),
 (126,⟨.slice 160,[.S],24⟩),
 (128,⟨.struct [(0,126),(1,3)],[.S,.I],32⟩),
 (130,⟨.struct [(0,27),(1,27),(2,3),(3,128)],[.S,.S,.I,.S,.I],88⟩),
 (131,⟨.cell,[.P],8⟩),
 (133,⟨.struct [(0,55)],[.S],24⟩),
 (142,⟨.slice 146,[.S],24⟩),
 (144,⟨.struct [(0,3),(1,3),(2,142)],[.I,.I,.S],40⟩),
 (146,⟨.struct [(0,27)],[.S],24⟩),
 (156,⟨.tuple [3,146],[],0⟩),
 (158,⟨.slice 128,[.S],24⟩),
 (160,⟨.struct [(0,3),(1,3),(2,3),(3,27),(4,158)],[.I,.I,.I,.S,.S],72⟩),
 (164,⟨.cell,[.P],8⟩),
 (165,⟨.tuple [164,4],[],0⟩),
 (168,⟨.struct [(0,27),(1,27),(2,27),(3,27),(4,27),(5,27),(6,27)],[.S,.S,.S,.S,.S,.S,.S],168⟩),
 (208,⟨.slice 27,[.S],24⟩),
 (225,⟨.cell,[.P],8⟩),
 (227,⟨.struct [(0,126),(1,3)],[.S,.I],32⟩)]
abbrev p7:Nat:=4
abbrev PO:Nat:=22
abbrev bU:Nat:=128
abbrev qb:Nat:=37
abbrev HO:Nat:=146
abbrev gR:Nat:=144
abbrev aX:Nat:=111
abbrev dh:Nat:=39
abbrev dt:Nat:=113
abbrev tf:Nat:=26
abbrev cI:Nat:=59
abbrev kd:Nat:=103
abbrev fN:Nat:=57
abbrev iB:Nat:=78
abbrev gC:Nat:=130
abbrev iQ:Nat:=31
abbrev dQ:Nat:=160
abbrev mX:Nat:=88
abbrev js:Nat:=52
abbrev au:Nat:=3
abbrev uR:Nat:=27
abbrev lI:Nat:=133
abbrev xJ:Nat:=168
abbrev jd:Nat:=227
abbrev a9:Nat:=85
abbrev mZ:Nat:=49
abbrev WE:Nat:=5
theorem Ry:uK Tryz.prog TBL:=by
 unfold uK;kernel_rfl
def GL:List Nat:=List.range' 3 267
theorem gok:Z9 Tryz.prog GL:=by
 unfold Z9;kernel_rfl
theorem mix:Tryz.prog.follows .mixedOrders=true:=by kernel_rfl
theorem nbq(a b:Nat):Nat.beq a b=(a==b):=by rw[aHI];simp
theorem nbl(a b:Nat):Nat.ble a b=(a -b==0):=by rw[aHI];simp;omega
theorem nbt(a b:Nat):Nat.blt a b=(a+1 -b==0):=by rw[aHI];simp[Nat.blt];omega
theorem gel(g:Nat):List.elem g GL=(3 -g==0&&(g -269==0)):=by rw[aHI];simp[GL];omega
section
variable{α β:Type}{a:α}{b:β}
theorem atl(l:List α):(Array.mk l).toList=l:=rfl
end
section
variable(a b c d e f)
theorem o1:(Oper.mk a b c d e f).dst=a:=rfl
theorem o2:(Oper.mk a b c d e f).op=b:=rfl
theorem o3:(Oper.mk a b c d e f).type=c:=rfl
theorem o5:(Oper.mk a b c d e f).after=e:=rfl
theorem o6:(Oper.mk a b c d e f).guard=f:=rfl
end
section
variable(a b c)
theorem a2:(PK.mk a b c).Wn=a:=rfl
theorem a3:(PK.mk a b c).aac=b:=rfl
theorem a4:(PK.mk a b c).eg=c:=rfl
theorem t1:(TI.mk a b c).FK=a:=rfl
theorem t2:(TI.mk a b c).sh=b:=rfl
theorem t3:(TI.mk a b c).bytes=c:=rfl
theorem g1:(Edge.mk a b).on=a:=rfl
theorem g2:(Edge.mk a b).ground=b:=rfl
end
theorem nQ(n:Nat){x:TI}(h:dP TBL n=some x:=by cbv):dP TBL n=some x:=h
def tg0:=nQ 0
def tg3:=nQ 3
def tg4:=nQ 4
def tg5:=nQ 5
def aiR:=nQ 22
def aiS:=nQ 23
def aiT:=nQ 24
def aiU:=nQ 26
def aiV:=nQ 27
def aiW:=nQ 28
def aiX:=nQ 29
def aiY:=nQ 31
def aiZ:=nQ 32
def ai0:=nQ 37
def ai1:=nQ 39
def ai2:=nQ 42
def ai3:=nQ 49
def ai4:=nQ 50
def ai5:=nQ 52
def ai6:=nQ 53
def ai7:=nQ 55
def ai8:=nQ 57
def ai9:=nQ 59
def aja:=nQ 61
def ajb:=nQ 62
def ajc:=nQ 76
def ajd:=nQ 78
def aje:=nQ 82
def ajf:=nQ 85
def ajg:=nQ 88
def ajh:=nQ 91
def aji:=nQ 94
def ab6:=nQ 101
def ab7:=nQ 103
def ab8:=nQ 109
def ab9:=nQ 111
def aca:=nQ 113
def acb:=nQ 123
def acd:=nQ 126
def ace:=nQ 128
def acf:=nQ 130
def acg:=nQ 131
def ach:=nQ 133
def aci:=nQ 142
def acj:=nQ 144
def ack:=nQ 146
def acm:=nQ 156
def acn:=nQ 158
def aco:=nQ 160
def acp:=nQ 164
def acq:=nQ 165
def acr:=nQ 168
def acs:=nQ 208
def acu:=nQ 225
def acv:=nQ 227
theorem bV(m:ah)(R:Value->ah->Prop)(A:PK)(args:List SV){f:FuncId}{fn:Go.Func}{X:Prop}{c:Code}{n:Nat}{rs:List ResultVar}{vs:List Value}(hf:Tryz.prog.funcs[f]? =some fn)
 (hb:(fn.body,fn.ntmps,fn.results)=(some c,n,Array.mk rs):=by cbv)
 (fV:args.all SV.fX=true:=by kernel_rfl)(hle:Nat.ble args.length n=true:=by kernel_rfl)(hd:nP c=true:=by kernel_rfl)
 (hv:args.map SV.v=vs:=by dsimp only[List.map,SV.v,Ce.v])
 (w:Wi (UL Tryz.prog TBL GL A n rs c args m R) X->True:=by intro w;obtain - :=mkT w (by sym -abstractProof=>simp[gel,tg0,tg3,tg4,tg5,aiR,aiS,aiT,aiU,aiV,aiW,aiX,aiY,aiZ,ai0,ai1,ai2,ai3,ai4,ai5,ai6,ai7,ai8,ai9,aja,ajb,ajc,ajd,aje,ajf,ajg,ajh,aji,ab6,ab7,ab8,ab9,aca,acb,acd,ace,acf,acg,ach,aci,acj,ack,acm,acn,aco,acp,acq,acr,acs,acu,acv,nbq,nbl,nbt,atl,o1,o2,o3,o5,o6,a2,a3,a4,t1,t2,t3,g1,g2,aGf,aGx,aGg,aGp,aHZ,List.all_nil,aF5,aGv,List.elem_cons,aIi,Bool.false_and,aIj,aIl,Bool.true_or,aIk,aHS,Bool.and_true,aHe,Option.map_none,aGK,aGL,aG5,List.flatMap_nil,List.isEmpty_cons,List.isEmpty_nil,List.any_cons,aH5,aHg,List.replicate_zero,sD.eq_1,sD.eq_2,vc.eq_1,vc.eq_4,vc.eq_6,vc.eq_7,vc.eq_8,sC.eq_def,orT.eq_def,orB.eq_def,oF.eq_1,oF.eq_2,JV.eq_def,Zy.eq_1,Zy.eq_2,sB.eq_1,Bv.eq_1,Bv.eq_2,ic.eq_1,mU.eq_1,mU.eq_2,lU.eq_def,kY.eq_1,kY.eq_2,PM.eq_1,PL.eq_1,Oi.eq_1,Oi.eq_2,FX.eq_1,FX.eq_2,Ru.eq_def,lkH.eq_1,Bu.eq_def,lk.eq_1,lk.eq_2,lT.eq_1,Br.eq_1,Br.eq_2,JS.eq_1,JS.eq_2,mT.eq_def,uP.eq_def,iF.eq_1,lH.eq_1,lH.eq_2,jb.eq_1,rO.eq_1,rO.eq_2,rO.eq_3,pR.eq_1,xF.eq_1,xF.eq_2,gd.eq_1,gd.eq_2,JQ.eq_1,pQ.eq_1,pQ.eq_2,JP.eq_def,wr.eq_1,wr.eq_2,wr.eq_4,wr.eq_6,wr.eq_8,wr.eq_9,wr.eq_10,wr.eq_11,uN.eq_1,uN.eq_2,UC.eq_1,Zx.eq_1,LJ.eq_def,xD.eq_def,rd.eq_1,rd.eq_2,rd.eq_3,rd.eq_4,rd.eq_5,rd.eq_6,rd.eq_7,rd.eq_8,rd.eq_9,rd.eq_10,rd.eq_11,rd.eq_12,rd.eq_13,rd.eq_15,VI.eq_def,abQ,abR,abS,MS.eq_1,DK.eq_1,DK.eq_2,NX.eq_1,LV.eq_1,LV.eq_2,ta.eq_1,ta.eq_2,DI.eq_1,DI.eq_2,jy.eq_1,jy.eq_2,jy.eq_3,jy.eq_4,jy.eq_5,SV.cells.eq_def,unO.eq_def,Z6.eq_def,Z5.eq_def,px.eq_1,px.eq_2,px.eq_3,px.eq_6,px.eq_7,px.eq_8,px.eq_9,px.eq_10,px.eq_11,px.eq_12,abY,abZ,ldC.eq_1,FL.eq_1,FL.eq_2,FL.eq_3,iZ.eq_def,SV.fX.eq_def,TI.sq.eq_1,TI.agg.eq_1,Sh.zero.eq_1,Sh.zero.eq_2,Sh.zero.eq_3,Sh.zero.eq_4,Sh.zero.eq_5,Sh.zero.eq_6,Sh.zero.eq_7,ev.eq_1,ev.eq_2,ev.eq_3,ev.eq_4,DG.eq_def,mO.eq_1,mO.eq_2,iD.eq_1,iD.eq_3,iD.eq_4,iD.eq_5,iD.eq_6,iD.eq_7,rL.eq_1,rL.eq_2,SV.nb.eq_def,eJ.eq_1,eJ.eq_2,AV.sv.eq_1,AV.sv.eq_2,SV.v.eq_1,SV.v.eq_2,SV.v.eq_3,SV.v.eq_4,SV.v.eq_5,SV.v.eq_6,SV.v.eq_7,SV.v.eq_8,SV.v.eq_9,AV.v.eq_1,AV.v.eq_2,Ce.v.eq_1,Ce.v.eq_2,Ce.v.eq_3,Ce.v.eq_4,Ce.v.eq_5,Ce.v.eq_6,Ce.v.eq_7,Ce.v.eq_8,Ce.v.eq_9,Ce.v.eq_10,Ce.v.eq_11,Ce.v.eq_12,Ce.v.eq_13,tc.eq_1,tc.eq_2,Wg.eq_1,DM.eq_def,fP.eq_1,fP.eq_2,FW.eq_1,FW.eq_2,Oh.eq_1,Oh.eq_2,Sh.ty.eq_1,Sh.ty.eq_2,Sh.ty.eq_3,Sh.ty.eq_4,Sh.ty.eq_5,Sh.ty.eq_6,Sh.ty.eq_7,Sh.mk.eq_1,Sh.mk.eq_2,Sh.mk.eq_3,Sh.mk.eq_4,Sh.mk.eq_5,Sh.mk.eq_6,Sh.mk.eq_7,Rw.eq_1,SV.Z8.eq_def,AV.Z8.eq_1,AV.Z8.eq_2,DR.eq_1,pmG.eq_1,pmG.eq_2,Wo.eq_1,Wo.eq_2,kld.eq_1,klc.eq_1,kxc.eq_1,kxs.eq_1,krc.eq_1,kal.eq_1,kam.eq_1,pa.eq_1,p3.eq_1,p2.eq_1,Tb.eq_1,aag.eq_1,khi.eq_1,klo.eq_1,kav.eq_1,kxt.eq_1,krt.eq_1,krs.eq_1,aah.eq_1,kbs.eq_1,kcp.eq_1,kw.eq_1,kr.eq_1,ky.eq_1,kn.eq_1,dr1.eq_1,dry.eq_1,drn.eq_1,dr2.eq_1,dwy.eq_1,dra.eq_1,kq.eq_1,ks.eq_def,kc.eq_def,ki.eq_1,kb.eq_def,ke.eq_def,kl.eq_1,kR.eq_def,kx.eq_1,kz.eq_1,kf.eq_def,Oe.eq_1,aiI,Wu,Tc,Td,abV,abW,abX,Wv,aiP,Wy,ab1,Wz,WA,WC,ab2,ab5,Te,WD,Tf,Th,aiQ,aiJ,ab3,ab4,exI,exU,exB,aiG,exP,exF,exM,alI,alU,alB,aiH,alP,alF,alM,cU8,z0,z1,tb,abT,b1,b2,b3,b4,b5,b6,Ww,Wx,aiM,aiN,aiO,ab0,abU,rg1,rg2,rg3,rg4,rg5,rg6,rg7,aGX];exact Tg.lf _) (by refine Tg.pm.trans ?_;dsimp -zeta+instances only[↓Ta,ile,↓aiL,nze,nce,FW,Oh,Sh.ty,Int.cast_ofNat_Int]);trivial)
 (he:X=UL Tryz.prog TBL GL A n rs c args m R:=by kernel_rfl)
 :X->aD Tryz.prog f vs m R:=λh=>by
 subst hv
 exact Cd Ry gok mix hf (aHB Prod.fst hb) (aHB (λx=>x.2.1) hb) (aHB (λx=>x.2.2) hb) fV (aGZ hle) hd (he▸h)
theorem aoQ(m:ah)(R:Value->ah->Prop)(A:PK)(args:List SV){f:FuncId}{fn:Go.Func}{X:Prop}{c:Code}{n:Nat}{rs:List ResultVar}{vs:List Value}(hf:Tryz.prog.funcs[f]? =some fn)
 (hb:(fn.body,fn.ntmps,fn.results)=(some c,n,Array.mk rs):=by cbv)
 (fV:args.all SV.fX=true:=by kernel_rfl)(hle:Nat.ble args.length n=true:=by kernel_rfl)(hd:nP c=true:=by kernel_rfl)
 (hv:args.map SV.v=vs:=by dsimp only[List.map,SV.v,Ce.v])
 (w:Wi (UL Tryz.prog TBL GL A n rs c args m R) X->True:=by intro w;obtain - :=mkT w (by sym -abstractProof=>simp[gel,tg0,tg3,tg4,tg5,aiR,aiS,aiT,aiU,aiV,aiW,aiX,aiY,aiZ,ai0,ai1,ai2,ai3,ai4,ai5,ai6,ai7,ai8,ai9,aja,ajb,ajc,ajd,aje,ajf,ajg,ajh,aji,ab6,ab7,ab8,ab9,aca,acb,acd,ace,acf,acg,ach,aci,acj,ack,acm,acn,aco,acp,acq,acr,acs,acu,acv,nbq,nbl,nbt,atl,o1,o2,o3,o5,o6,a2,a3,a4,t1,t2,t3,g1,g2,aGf,aGx,aGg,aGp,aHZ,List.all_nil,aF5,aGv,List.elem_cons,aIi,Bool.false_and,aIj,aIl,Bool.true_or,aIk,aHS,Bool.and_true,aHe,Option.map_none,aGK,aGL,aG5,List.flatMap_nil,List.isEmpty_cons,List.isEmpty_nil,List.any_cons,aH5,aHg,List.replicate_zero,sD.eq_1,sD.eq_2,vc.eq_1,vc.eq_4,vc.eq_6,vc.eq_7,vc.eq_8,sC.eq_def,orT.eq_def,orB.eq_def,oF.eq_1,oF.eq_2,JV.eq_def,Zy.eq_1,Zy.eq_2,sB.eq_1,Bv.eq_1,Bv.eq_2,ic.eq_1,mU.eq_1,mU.eq_2,lU.eq_def,kY.eq_1,kY.eq_2,PM.eq_1,PL.eq_1,Oi.eq_1,Oi.eq_2,FX.eq_1,FX.eq_2,Ru.eq_def,lkH.eq_1,Bu.eq_def,lk.eq_1,lk.eq_2,lT.eq_1,Br.eq_1,Br.eq_2,mT.eq_def,uP.eq_def,iF.eq_1,lH.eq_1,lH.eq_2,jb.eq_1,rO.eq_1,rO.eq_2,rO.eq_3,pR.eq_1,xF.eq_1,xF.eq_2,gd.eq_1,gd.eq_2,JQ.eq_1,pQ.eq_1,pQ.eq_2,JP.eq_def,wr.eq_1,wr.eq_2,wr.eq_4,wr.eq_6,wr.eq_8,wr.eq_9,wr.eq_10,wr.eq_11,uN.eq_1,uN.eq_2,UC.eq_1,Zx.eq_1,LJ.eq_def,xD.eq_def,rd.eq_1,rd.eq_2,rd.eq_3,rd.eq_4,rd.eq_5,rd.eq_6,rd.eq_7,rd.eq_8,rd.eq_9,rd.eq_10,rd.eq_11,rd.eq_12,rd.eq_13,rd.eq_15,VI.eq_def,abQ,abR,abS,MS.eq_1,DK.eq_1,DK.eq_2,NX.eq_1,LV.eq_1,LV.eq_2,ta.eq_1,ta.eq_2,DI.eq_1,DI.eq_2,jy.eq_1,jy.eq_2,jy.eq_3,jy.eq_4,jy.eq_5,SV.cells.eq_def,unO.eq_def,Z6.eq_def,Z5.eq_def,px.eq_1,px.eq_2,px.eq_3,px.eq_6,px.eq_7,px.eq_8,px.eq_9,px.eq_10,px.eq_11,px.eq_12,abY,abZ,ldC.eq_1,FL.eq_1,FL.eq_2,FL.eq_3,iZ.eq_def,SV.fX.eq_def,TI.sq.eq_1,TI.agg.eq_1,Sh.zero.eq_1,Sh.zero.eq_2,Sh.zero.eq_3,Sh.zero.eq_4,Sh.zero.eq_5,Sh.zero.eq_6,Sh.zero.eq_7,ev.eq_1,ev.eq_2,ev.eq_3,ev.eq_4,DG.eq_def,mO.eq_1,mO.eq_2,iD.eq_1,iD.eq_3,iD.eq_4,iD.eq_5,iD.eq_6,iD.eq_7,rL.eq_1,rL.eq_2,SV.nb.eq_def,eJ.eq_1,eJ.eq_2,AV.sv.eq_1,AV.sv.eq_2,SV.v.eq_1,SV.v.eq_2,SV.v.eq_3,SV.v.eq_4,SV.v.eq_5,SV.v.eq_6,SV.v.eq_7,SV.v.eq_8,SV.v.eq_9,AV.v.eq_1,AV.v.eq_2,Ce.v.eq_1,Ce.v.eq_2,Ce.v.eq_3,Ce.v.eq_4,Ce.v.eq_5,Ce.v.eq_6,Ce.v.eq_7,Ce.v.eq_8,Ce.v.eq_9,Ce.v.eq_10,Ce.v.eq_11,Ce.v.eq_12,Ce.v.eq_13,tc.eq_1,tc.eq_2,Wg.eq_1,DM.eq_def,fP.eq_1,fP.eq_2,FW.eq_1,FW.eq_2,Oh.eq_1,Oh.eq_2,Sh.ty.eq_1,Sh.ty.eq_2,Sh.ty.eq_3,Sh.ty.eq_4,Sh.ty.eq_5,Sh.ty.eq_6,Sh.ty.eq_7,Sh.mk.eq_1,Sh.mk.eq_2,Sh.mk.eq_3,Sh.mk.eq_4,Sh.mk.eq_5,Sh.mk.eq_6,Sh.mk.eq_7,Rw.eq_1,SV.Z8.eq_def,AV.Z8.eq_1,AV.Z8.eq_2,DR.eq_1,pmG.eq_1,pmG.eq_2,Wo.eq_1,Wo.eq_2,kld.eq_1,klc.eq_1,kxc.eq_1,kxs.eq_1,krc.eq_1,kal.eq_1,kam.eq_1,pa.eq_1,p3.eq_1,p2.eq_1,Tb.eq_1,aag.eq_1,khi.eq_1,klo.eq_1,kav.eq_1,kxt.eq_1,krt.eq_1,krs.eq_1,aah.eq_1,kbs.eq_1,kcp.eq_1,kw.eq_1,kr.eq_1,ky.eq_1,kn.eq_1,dr1.eq_1,dry.eq_1,drn.eq_1,dr2.eq_1,dwy.eq_1,dra.eq_1,kq.eq_1,ks.eq_def,kc.eq_def,ki.eq_1,kb.eq_def,ke.eq_def,kl.eq_1,kR.eq_def,kx.eq_1,kz.eq_1,kf.eq_def,Oe.eq_1,aiI,Wu,Tc,Td,abV,abW,abX,Wv,aiP,Wy,ab1,Wz,WA,WC,ab2,ab5,Te,WD,Tf,Th,aiQ,aiJ,ab3,ab4,exI,exU,exB,aiG,exP,exF,exM,alI,alU,alB,aiH,alP,alF,alM,cU8,z0,z1,tb,abT,b1,b2,b3,b4,b5,b6,Ww,Wx,aiM,aiN,aiO,ab0,abU];simp[aGf,aGx,aGX,JS.eq_1,JS.eq_2,rg1,rg2,rg3,rg4,rg5,rg6,rg7];exact Tg.lf _) (by refine Tg.pm2.trans ?_;dsimp -zeta+instances only[↓Ta,ile,↓aiL,nze,nce,FW,Oh,Sh.ty,Int.cast_ofNat_Int]);trivial)
 (he:X=UL Tryz.prog TBL GL A n rs c args m R:=by kernel_rfl)
 :X->aD Tryz.prog f vs m R:=λh=>by
 subst hv
 exact Cd Ry gok mix hf (aHB Prod.fst hb) (aHB (λx=>x.2.1) hb) (aHB (λx=>x.2.2) hb) fV (aGZ hle) hd (he▸h)
end
section
set_option linter.unusedVariables false
set_option linter.defProp false
variable{m:ah}{R:Value->ah->Prop}
def tJ(bP:Sl):=bV m R ⟨[],[],[]⟩ [.c (.s bP)] Tryz.func3
def rQ(bP:Sl):=bV m R ⟨[],[],[]⟩ [.c (.s bP)] Tryz.func6
def wj(iT iU:Sl)(jv jw jY jZ:Int)(j7 OT OU:Sl):=bV m R ⟨[],[],[]⟩ [.agg [.s iT,.s iU],.agg [.i jv,.i jw,.i jY,.i jZ,.s j7,.s OT,.s OU]] Tryz.func7
def wm(iT iU:Sl)(jv jw jY jZ:Int)(j7 OT OU:Sl):=bV m R ⟨[],[],[]⟩ [.agg [.s iT,.s iU],.agg [.i jv,.i jw,.i jY,.i jZ,.s j7,.s OT,.s OU]] Tryz.func8
def wo(r:Nat×Nat):=bV m R ⟨[],[],[]⟩ [.c (.p r.1 r.2)] Tryz.func10
def xK(bP:Sl):=bV m R ⟨[],[],[]⟩ [.c (.s bP)] Tryz.func11
def wq(iT iU:Sl):=bV m R ⟨[(5,[(20,.I)]),(13,[(66,.I)])],[(12,[])],[(5,[82,80]),(12,[85,82,80]),(13,[85,82,80])]⟩ [.agg [.s iT,.s iU]] Tryz.func12
def wt(iT iU:Sl)(jv jw jY jZ:Int)(j7 OT OU:Sl):=bV m R ⟨[(10,[(95,.I)]),(20,[(158,.I)])],[(3,[]),(16,[]),(24,[])],[(3,[191,190]),(10,[191,190]),(16,[197,191,190]),(20,[191,190]),(24,[191,190])]⟩ [.agg [.s iT,.s iU],.agg [.i jv,.i jw,.i jY,.i jZ,.s j7,.s OT,.s OU]] Tryz.func13
def wu(iT iU:Sl)(jv jw jY jZ:Int)(j7 OT OU:Sl):=bV m R ⟨[(8,[(5,.I)])],[(5,[])],[(5,[93,92]),(8,[93,92])]⟩ [.agg [.s iT,.s iU],.agg [.i jv,.i jw,.i jY,.i jZ,.s j7,.s OT,.s OU]] Tryz.func14
def Ae(r:Nat×Nat):=bV m R ⟨[],[],[]⟩ [.c (.p r.1 r.2)] Tryz.func15
def wy(iT iU:Sl):=bV m R ⟨[(4,[(3,.I)])],[],[(4,[30])]⟩ [.agg [.s iT,.s iU]] Tryz.func16
def wz(r:Nat×Nat)(jv jw jY jZ:Int)(j7 OT OU:Sl):=bV m R ⟨[],[],[]⟩ [.c (.p r.1 r.2),.agg [.i jv,.i jw,.i jY,.i jZ,.s j7,.s OT,.s OU]] Tryz.func17
def xL(r:Nat×Nat)(iT iU:Sl):=bV m R ⟨[],[],[]⟩ [.c (.p r.1 r.2),.agg [.s iT,.s iU]] Tryz.func18
def xN(iT iU:Sl):=bV m R ⟨[(5,[(18,.I)])],[],[(5,[43,42])]⟩ [.agg [.s iT,.s iU]] Tryz.func19
def na(jv jw sg sj:Sl)(p_2 p_3:Int)(p_4:Sl)(k x_0 x_1 x_2 x_3:Int)(x_4 x_5:Sl):=bV m R ⟨[(6,[(88,.I)])],[(5,[])],[(5,[147,146,145,144]),(6,[147,146,145,144])]⟩ [.agg [.s jv,.s jw],.agg [.s sg,.s sj,.i p_2,.i p_3,.s p_4],.c (.i k),.agg [.i x_0,.i x_1,.i x_2,.i x_3,.s x_4,.s x_5]] Tryz.func20
end
section
set_option linter.unusedVariables false
set_option linter.defProp false
variable{m:ah}{R:Value->ah->Prop}
def Ga(n:Int):=bV m R ⟨[],[],[]⟩ [.c (.i n)] Tryz.func21
def uS(h:Sl):=bV m R ⟨[(3,[(26,.I)]),(8,[(37,.I)]),(21,[(12,.S),(73,.I)]),(28,[(12,.S),(13,.I)]),(33,[(12,.S),(127,.I)])],[(17,[])],[(8,[165]),(33,[175])]⟩ [.c (.s h)] Tryz.func22
def mI(s:Sl)(f:Fn×Array Value×Array Value):=bV m R ⟨[],[],[]⟩ [.c (.s s),.c (.fv f)] Tryz.func23
def tK(n:Int):=bV m R ⟨[],[],[]⟩ [.c (.i n)] Tryz.func24
def wA(iT iU:Sl)(Fp Fq Fs:Int)(Ft Fu Fv:Sl):=bV m R ⟨[(7,[(63,.I)])],[],[(7,[97,95,94])]⟩ [.agg [.s iT,.s iU],.agg [.i Fp,.i Fq,.i Fs,.s Ft,.s Fu,.s Fv]] Tryz.func25
def uT(Fp Fq Fs:Int)(Ft Fu Fv h owned aQ:Sl):=bV m R ⟨[(2,[(17,.I)])],[(9,[])],[(2,[82]),(9,[82])]⟩ [.agg [.i Fp,.i Fq,.i Fs,.s Ft,.s Fu,.s Fv],.c (.s h),.c (.s owned),.c (.s aQ)] Tryz.func26
def Cf(n dX apD:Int):=bV m R ⟨[],[],[]⟩ [.c (.i n),.c (.i dX),.c (.i apD)] Tryz.func27
def wB(list:Sl):=bV m R ⟨[(2,[(3,.I)])],[],[]⟩ [.c (.s list)] Tryz.func28
def xO(h:Sl):=bV m R ⟨[(4,[(3,.I)]),(10,[(5,.I)])],[(3,[])],[]⟩ [.c (.s h)] Tryz.func29
def wC(iT iU:Sl)(jv jw jY jZ:Int)(j7 OT OU:Sl)(k:Int):=bV m R ⟨[],[],[]⟩ [.agg [.s iT,.s iU],.agg [.i jv,.i jw,.i jY,.i jZ,.s j7,.s OT,.s OU],.c (.i k)] Tryz.func30
def Af(jv jw jY jZ:Int)(j7 OT OU:Sl):=bV m R ⟨[(3,[(4,.I)]),(6,[(5,.I)]),(14,[(7,.I)])],[],[(3,[101]),(6,[101]),(14,[101])]⟩ [.agg [.i jv,.i jw,.i jY,.i jZ,.s j7,.s OT,.s OU]] Tryz.func31
def uU(jv jw jY jZ:Int)(j7 OT OU:Sl):=bV m R ⟨[(4,[(5,.I)])],[],[(4,[44])]⟩ [.agg [.i jv,.i jw,.i jY,.i jZ,.s j7,.s OT,.s OU]] Tryz.func32
def xP(r:Nat×Nat):=bV m R ⟨[],[],[]⟩ [.c (.p r.1 r.2)] Tryz.func33
def uV(r:Nat×Nat)(n:Int):=bV m R ⟨[],[],[]⟩ [.c (.p r.1 r.2),.c (.i n)] Tryz.func34
def xQ(r:Nat×Nat)(iT iU:Sl):=bV m R ⟨[(3,[(6,.I)])],[],[(3,[57,56,55])]⟩ [.c (.p r.1 r.2),.agg [.s iT,.s iU]] Tryz.func35
def wD(r:Nat×Nat)(iT iU:Sl)(T0:Int):=bV m R ⟨[],[],[]⟩ [.c (.p r.1 r.2),.agg [.s iT,.s iU],.c (.i T0)] Tryz.func36
def xR(sg sj:Sl):=bV m R ⟨[(4,[(3,.I)])],[],[(4,[65])]⟩ [.agg [.s sg,.s sj]] Tryz.func37
def uW(iT iU:Sl):=bV m R ⟨[(3,[(4,.I)])],[],[(3,[37,36])]⟩ [.agg [.s iT,.s iU]] Tryz.func38
end
section
set_option linter.unusedVariables false
set_option linter.defProp false
variable{m:ah}{R:Value->ah->Prop}
def xS(iT iU sg sj:Sl)(p_2 p_3:Int)(p_4:Sl):=bV m R ⟨[(5,[(6,.I)])],[],[(5,[62,61])]⟩ [.agg [.s iT,.s iU],.agg [.s sg,.s sj,.i p_2,.i p_3,.s p_4]] Tryz.func39
def wE(r:Nat×Nat)(list:Sl):=bV m R ⟨[],[],[]⟩ [.c (.p r.1 r.2),.c (.s list)] Tryz.func40
def qd(r:Nat×Nat)(list:Sl):=bV m R ⟨[],[],[]⟩ [.c (.p r.1 r.2),.c (.s list)] Tryz.func41
def wF(iT iU:Sl)(cV:Int):=bV m R ⟨[],[],[]⟩ [.agg [.s iT,.s iU],.c (.i cV)] Tryz.func42
def uX(m0:Nat×Nat)(many:Int):=bV m R ⟨[(2,[(5,.I)])],[],[]⟩ [.c (.p m0.1 m0.2),.c (.i many)] Tryz.func43
def xT(jv jw jY jZ:Int)(j7 OT OU:Sl):=bV m R ⟨[(3,[(4,.I)])],[(2,[(3,.P)])],[(2,[58,57]),(3,[58,57])]⟩ [.agg [.i jv,.i jw,.i jY,.i jZ,.s j7,.s OT,.s OU]] Tryz.func44
def xU(aI oQ:Sl):=bV m R ⟨[(4,[(39,.I)]),(9,[(64,.I)])],[],[(9,[108])]⟩ [.c (.s aI),.c (.s oQ)] Tryz.func45
def tL(op:Int):=bV m R ⟨[],[],[]⟩ [.c (.i op)] Tryz.func46
def lW(at0:Int)(Qw acN:Nat×Nat):=bV m R ⟨[],[],[]⟩ [.c (.i at0),.c (.p Qw.1 Qw.2),.c (.p acN.1 acN.2)] Tryz.func47
def lX(at0:Int)(Qw:Nat×Nat):=bV m R ⟨[],[],[]⟩ [.c (.i at0),.c (.p Qw.1 Qw.2)] Tryz.func48
def nR(jv jw:Sl)(x_0 x_1 x_2 x_3:Int)(x_4 x_5:Sl)(dV:Fn×Array Value×Array Value):=bV m R ⟨[],[],[]⟩ [.agg [.s jv,.s jw],.agg [.i x_0,.i x_1,.i x_2,.i x_3,.s x_4,.s x_5],.c (.fv dV)] Tryz.func49
def pB(jv jw:Sl)(x_0 x_1 x_2 x_3:Int)(x_4 x_5:Sl):=bV m R ⟨[],[],[]⟩ [.agg [.s jv,.s jw],.agg [.i x_0,.i x_1,.i x_2,.i x_3,.s x_4,.s x_5]] Tryz.func50
def xV(h:Sl)(c_0 c_1:Int)(c_2:Sl):=bV m R ⟨[(6,[(48,.I)])],[(5,[])],[(5,[69]),(6,[69])]⟩ [.c (.s h),.agg [.i c_0,.i c_1,.s c_2]] Tryz.func51
def DS(h:Sl)(w:Int):=bV m R ⟨[],[],[]⟩ [.c (.s h),.c (.i w)] Tryz.func52
def qG(s:Sl):=bV m R ⟨[],[],[]⟩ [.c (.s s)] Tryz.func53
def nT(s:Sl)(f:Fn×Array Value×Array Value):=bV m R ⟨[(2,[(8,.I)])],[],[]⟩ [.c (.s s),.c (.fv f)] Tryz.func54
def xW(h:Sl)(c_0 c_1:Int)(c_2:Sl):=bV m R ⟨[(6,[(5,.I)])],[],[(6,[59])]⟩ [.c (.s h),.agg [.i c_0,.i c_1,.s c_2]] Tryz.func55
def DT(h:Sl):=bV m R ⟨[(3,[(4,.I)]),(6,[(5,.I)])],[],[]⟩ [.c (.s h)] Tryz.func56
end
end Go.Proofs.YtakpkjhmbbfniaaGreat
