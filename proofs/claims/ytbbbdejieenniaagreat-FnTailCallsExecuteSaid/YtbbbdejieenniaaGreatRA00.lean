/- Part of a proof. -/
import Derived.KernelRfl
import Derived.Laws.Append
import Derived.Laws.Cells
import Derived.Laws.Entries
import Derived.Laws.IdiomCopy
import Derived.Orders
import Derived.OrdersHeld
import Derived.Still
import Derived.Tactics
import Derived.Test.YtbbbdejieenniaaGreatProg
set_option linter.all false
set_option maxHeartbeats 8000000
set_option maxRecDepth 100000
namespace Go.Vc
abbrev afq:=List Field
abbrev afp:=List Edge
abbrev aI:=List MemPlace
abbrev aG:=List (Nat×Operand)
abbrev aE:=List Operand
abbrev aD:=List (Int×Int)
abbrev az:=List (List Int)
abbrev ay:=List ResultVar
abbrev ar:=List Oper
abbrev ap:=List Value
abbrev ao:=List (Nat×Nat)
abbrev aj:=Nat×Nat
abbrev ag:=Nat->Nat
abbrev ad:=List Nat
abbrev ab:=List Int
def aU:=@if_neg
def aW:=@List.mem_cons_of_mem
def aY:=@List.mem_cons
def a8:=@beq_eq_false_iff_ne
def ba:=@if_pos
def bh:=@decide_eq_true_eq
def bu:=@Or.inl
def bG:=@Or.inr
def bP:=@beq_iff_eq
def bR:=@List.mem_append
def cp:=@Nat.lt_of_lt_of_le
def cr:=@List.length_eq_zero_iff
def cK:=@List.mem_cons_self
def cU:=@Bool.or_eq_false_iff
def cX:=@List.mem_iff_getElem?
def dj:=@List.length_append
def dw:=@Go.Result.andThen_ok
def dE:=@List.length_cons
def dF:=@decide_eq_false_iff_not
def dK:=@List.mem_append_left
def dL:=@List.getElem?_append_right
def dR:=@Int.le_refl
def dX:=@List.getElem?_append_left
def ee:=@List.ext_getElem?
def eu:=@List.getElem?_map
def eA:=@Go.Sem.run_bind
def eD:=@Bool.or_eq_true
def eI:=@List.map_cons
def eJ:=@Nat.lt_or_ge
def eT:=@List.cons_append
def eX:=@Bool.and_eq_true
def fg:=@Nat.mul_le_mul_right
def ft:=@List.getElem?_set_self
def fu:=@List.mem_map
def fx:=@List.take_length
def fA:=@Nat.le_trans
def fB:=@Nat.zero_add
def fE:=@List.getD_eq_getElem?_getD
def fH:=@List.append_nil
def fP:=@Classical.em
def gA:=@Classical.byContradiction
def gB:=@Nat.eq_of_beq_eq_true
def gN:=@Array.getElem?_eq_some_iff
def gY:=@List.nil_append
def iv:=@Go.Sem.run_pure
def iD:=@Int.toNat_natCast
def iS:=@List.mem_or_eq_of_mem_set
def iY:=@List.getElem?_set_ne
def iZ:=@List.map_nil
def jb:=@Nat.zero_le
def jm:=@Classical.choose_spec
def jq:=@List.length_map
def jE:=@List.mem_of_mem_take
def jI:=@Option.map_eq_some_iff
def jO:=@congrArg
def jP:=@Nat.add_assoc
def jT:=@List.take_append_drop
def jZ:=@List.getElem?_cons_succ
def kv:=@List.mem_of_getElem?
def kD:=@List.length_nil
def kE:=@List.map_append
def kX:=@List.getElem?_eq_none
def lE:=@List.getElem?_take
def mj:=@Go.Code.wp_mono
def mo:=@List.findIdx_lt_length_of_exists
def mq:=@List.replicate_succ
def my:=@Nat.min_eq_left
def mM:=@List.mem_append_right
def mN:=@if_false
def mU:=@Array.toList_inj
def mV:=@List.not_mem_nil
def mW:=@List.set_cons_zero
def nl:=@Nat.add_mul
def nu:=@List.append_assoc
def nR:=@bne_eq_false_iff_eq
def oN:=@Nat.le_of_ble_eq_true
def ph:=@List.getElem?_eq_some_iff
def po:=@cond_true
def pP:=@List.getElem?_take_of_lt
def qe:=@List.length_reverse
def qN:=@List.getLast?_singleton
def qO:=@List.length_take
def qP:=@List.map_toArray
def qQ:=@List.mem_range
def rf:=@List.getLast?_eq_some_getLast
def rh:=@List.take_append_of_le_length
def rC:=@List.getElem?_drop
def rY:=@List.dropLast_concat_getLast
def rZ:=@Option.map_some
def sQ:=@List.getElem?_toArray
def sR:=@List.sizeOf_lt_of_mem
def tf:=@List.flatten_cons
def th:=@Nat.le_succ_of_le
def uh:=@List.dropLast_concat
def ui:=@List.getLast?_append
def uj:=@List.mem_of_mem_drop
def uq:=@Nat.add_zero
def ur:=@Ne.symm
def uv:=@Option.getD_some
def uR:=@Array.getElem?_push
def uS:=@List.flatten_append
def vE:=@if_true
def vY:=@Bool.false_eq_true
def vZ:=@List.set_cons_succ
def wc:=@Nat.lt_of_le_of_lt
def wA:=@List.getElem?_cons_zero
def xX:=@Bool.not_eq_true'
def xY:=@List.length_eq_one_iff
def xZ:=@List.map_set
def yd:=@List.take_of_length_le
def zO:=@cond_false
def AT:=@Nat.le_refl
def Cj:=@not_or
def Du:=@Array.getD_eq_getD_getElem?
def Dv:=@Int.lt_or_le
def Dw:=@Nat.succ_mul
def FI:=@Array.ext_getElem?
def FJ:=@List.mem_singleton
def FK:=@Nat.eq_zero_or_pos
def FL:=@Option.some_or
def FO:=@or_false
def Hv:=@List.mem_take_iff_getElem
def HZ:=@List.getElem?_set
def H4:=@Nat.mul_one
def JB:=@List.set_eq_of_length_le
def La:=@List.all_eq_true
def MK:=@Iff.rfl
def ML:=@Nat.le_of_eq
def Nt:=@Bool.eq_iff_iff
def QJ:=@List.set_append_left
def QK:=@Nat.mul_le_mul
def Rl:=@List.length_take_le
def Rm:=@List.replicate_zero
def RX:=@List.all_cons
def RY:=@Prod.mk.injEq
def Tt:=@bne_iff_ne
def U9:=@List.any_nil
def Va:=@List.flatMap_cons
def Vb:=@List.reverse_cons
def Vd:=@List.set_set
def Ve:=@Nat.le_of_lt
def Vf:=@Nat.sub_self
def Vg:=@Option.some.injEq
def Vj:=@Array.getElem?_setIfInBounds_ne
def Wy:=@List.any_eq_true
def YA:=@List.length_set
def Z8:=@Bool.not_false
def Z9:=@Int.tdiv_eq_ediv_of_nonneg
def aaa:=@List.take_take
def aab:=@Array.mapM_eq_mapM_toList
def aac:=@List.drop_eq_getElem_cons
def aad:=@List.exists_mem_of_ne_nil
def aa1:=@Array.getElem?_replicate
def aa2:=@Bool.false_or
def aa3:=@Bool.not_true
def aa4:=@Bool.or_false
def aa5:=@List.eq_of_mem_replicate
def aa6:=@List.getElem?_eq_getElem
def acn:=@Nat.add_sub_cancel_left
def ac2:=@List.length_pos_of_mem
def ac5:=@List.eq_nil_or_concat
def aeC:=@List.getElem?_mapIdx
def aeD:=@List.getElem?_modify
def aeG:=@List.getElem?_range
def aeH:=@List.length_pos_iff
def aff:=@Bool.not_eq_false'
theorem bW{n:Nat}:n<=n:=AT n
theorem sp{p q:Prop}(h:p)(t:p->q:=by intro h;simpa using h):q:=t h
theorem dit{p A B:Prop}{i:Decidable p}(f:p->A)(g:¬p->B):(decide p=true->A)/\(decide p=false->B):=⟨λh=>f (of_decide_eq_true h),λh=>g (of_decide_eq_false h)⟩
theorem cG{p:Prop}(h:p:=by grind):p:=h
theorem V{p:Prop}(h:p:=by omega):p:=h
theorem bO{p:Prop}(h:p:=by simp):p:=h
theorem cH{p:Prop}(h:p:=by decide):p:=h
theorem fj{p:Prop}(h:p:=by simp;omega):p:=h
end Go.Vc
section
namespace Go.Vc
variable{d:Value}{n:Nat}{a:Act}
abbrev E:=Array Obj
abbrev ai:=Value->E->Prop
def aR(m:E)(b o:Nat):Option Value:=
 match m[b]? with
 |some (.cells c _ _)=>c[o]?
 |_=>none
def CL(m:E)(b o:Nat):Bool:=
 match m[b]? with
 |some (.cells _ _ (c,a))=>c<=o&&o<a
 |_=>false
def vt(m:E)(b o:Nat)(d:Value):E:=
 m.modify b λ
  | .cells c e f=>.cells (c.setIfInBounds o d) e f
  |x=>x
theorem DN(w:World)(b o:Nat):w.cell? ⟨b,o,none⟩=aR w.heap b o:=by
 grind [Go.World.cell?,aR]
def VJ(w:World)(b o:Nat):w.frozen? ⟨b,o,none⟩=CL w.heap b o:=by
 grind [Go.World.frozen?,CL]
def SX(w:World)(b o:Nat)(d:Value):(w.setCell ⟨b,o,none⟩ d).heap=vt w.heap b o d:=by
 grind [Go.World.setCell,vt]
@[grind cases] structure rK (w w':World):Prop where
 os:w'.os=w.os
 Wu:w'.tape=w.tape
 PJ:w'.output=w.output
def rK.cZ(w:World):rK w w:=⟨rfl,rfl,rfl⟩
def rK.O{a b c:World}(h:rK a b)(k:rK b c):rK a c:=by constructor<;>grind [rK.os,rK.Wu,rK.PJ]
def bJ(P:Program)(f:FuncId)(b:ap)(m:E)(K:ai):Prop:=
 ∀w:World,w.heap=m->Calls P f b.toArray w λe a=>∃d,e=.returned d/\rK w a/\K d a.heap
theorem bJ.aO{P:Program}{f:FuncId}{b:ap}{m:E}{K a:ai}(h:bJ P f b m K)
 (g:∀d c,K d c->a d c):bJ P f b m a:=
 λw j=>(h w j).mono λ_ _⟨d,e,i,c⟩=>⟨d,e,i,g _ _ c⟩
inductive N where
 |nil
 |mk (b o len cap:Nat)
 |Dx (b o sp:Nat)
def N.v:N->Value
 | .nil=>.slice none 0 0
 | .mk b o l c=>.slice (some ⟨b,o,none⟩) l c
 | .Dx b o sp=>.slice (some ⟨b,o,some sp⟩) 0 0
def N.len:N->Nat
 | .nil=>0
 | .mk _ _ l _=>l
 | .Dx _ _ _=>0
def N.cap:N->Nat
 | .nil=>0
 | .mk _ _ _ c=>c
 | .Dx _ _ _=>0
def N.bq:N->Nat
 | .nil=>0
 | .mk b _ _ _=>b
 | .Dx b _ _=>b
def N.off:N->Nat
 | .nil=>0
 | .mk _ o _ _=>o
 | .Dx _ o _=>o
@[simp] theorem N.Xf (b o sp:Nat):(N.Dx b o sp).len=0:=rfl
@[simp] theorem N.aar (b o sp:Nat):(N.Dx b o sp).cap=0:=rfl
@[simp] theorem N.SC:N.nil.len=0:=rfl
@[simp] theorem N.aas:N.nil.cap=0:=rfl
@[simp] theorem N.aeE:N.nil.bq=0:=rfl
@[simp] theorem N.aeF:N.nil.off=0:=rfl
@[simp] theorem N.lJ (b o l c:Nat):(N.mk b o l c).len=l:=rfl
@[simp] theorem N.Sc (b o l c:Nat):(N.mk b o l c).cap=c:=rfl
@[simp] theorem N.mP (b o l c:Nat):(N.mk b o l c).bq=b:=rfl
@[simp] theorem N.Bo (b o l c:Nat):(N.mk b o l c).off=o:=rfl
def N.MV:N->Bool
 | .nil=>true
 | .mk _ _ _ _=>false
 | .Dx _ _ _=>false
@[simp] theorem N.ac4:N.nil.MV=true:=rfl
@[simp] theorem N.ac3 (b o sp:Nat):(N.Dx b o sp).MV=false:=rfl
@[simp] theorem N.adK (b o l c:Nat):(N.mk b o l c).MV=false:=rfl
def N.da:N->Option Addr
 | .nil=>none
 | .mk b o _ _=>some ⟨b,o,none⟩
 | .Dx b o sp=>some ⟨b,o,some sp⟩
def N.ac1(s:N):s.v=.slice s.da s.len s.cap:=by cases s<;>rfl
inductive Ce where
 |i (n:Int)
 |u (k:IntKind) (n:Int)
 |t (x:Bool)
 |s (x:N)
 |p (b o:Nat)
 |pn
 |fn (f:Fn) (first captured:Array Value)
 |fv (q:Fn×Array Value×Array Value)
 |nf
 |str (x:ByteArray)
 |mp (b:Nat)
 |mn
 |bp (k b o:Nat)
 |pp (q:Option (Nat×Nat))
abbrev an:=List (List Ce)
abbrev ae:=List Ce
def Ce.v:Ce->Value
 | .i n=>.int .i64 n
 | .u k n=>.int k n
 | .t x=>.bool x
 | .s x=>x.v
 | .p b o=>.pointer (some ⟨b,o,none⟩)
 | .pn=>.pointer none
 | .fn f a c=>.func f a c
 | .fv q=>.func q.1 q.2.1 q.2.2
 | .nf=>.nilFunc
 | .str x=>.string x
 | .mp b=>.map (some b)
 | .mn=>.map none
 | .bp _ b o=>.pointer (some ⟨b,o,none⟩)
 | .pp q=>.pointer (q.map λq=>⟨q.1,q.2,none⟩)
inductive AV where
 |c (x:Ce)
 |agg (l:ae)
abbrev aH:=List AV
def AV.v:AV->Value
 | .c x=>x.v
 | .agg l=>.agg (l.map Ce.v).toArray
inductive SV where
 |c (x:Ce)
 |tt
 |ff
 |agg (l:ae)
 |tup (l:aH)
 |un
 |jz
 |box (b e:Nat) (l:ae)
 |DK (b e:Nat) (l:ae)
abbrev aC:=List SV
def SV.v:SV->Value
 | .c x=>x.v
 | .tt=>.bool true
 | .ff=>.bool false
 | .agg l=>.agg (l.map Ce.v).toArray
 | .tup l=>.tuple (l.map AV.v).toArray
 | .un=>undef
 | .jz=>undef
 | .box _ _ _=>undef
 | .DK _ _ _=>undef
def SV.Is:SV->Value->Prop
 | .jz,_=>True
 | .box _ _ _,_=>True
 | .DK _ _ _,_=>True
 |s,d=>d=s.v
def AV.sv:AV->SV
 | .c x=>.c x
 | .agg l=>.agg l
def AV.afd(x:AV):x.sv.v=x.v:=by cases x<;>rfl
abbrev Fr:=List (Nat×SV)
def km:Fr->Nat->SV
 |[],_=>.jz
 |(u,x)::r,t=>bif Nat.beq u t then x else km r t
def SV.nb:SV->SV
 | .box _ _ _=>.jz
 | .DK _ _ _=>.jz
 |x=>x
def yg(a:Fr)(d:Option Nat)(x:SV):Fr:=
 match d with
 |some d=>(d,x.nb)::a
 |none=>a
def SV.ZF{x:SV}(h:x.Is d):x.nb.Is d:=by
 cases x<;>first|exact h|trivial
def Ce.lW(x:Ce):x.v.cells=#[x.v]:=by
 cases x with
 |s y=>cases y<;>rfl
 |_=>rfl
def nG:Value->Option Ce
 | .int .i64 n=>some (.i n)
 | .int k n=>some (.u k n)
 | .bool x=>some (.t x)
 | .slice none 0 0=>some (.s .nil)
 | .pointer none=>some .pn
 | .nilFunc=>some .nf
 | .string x=>some (.str x)
 |_=>none
def Rz{x:Value}{c:Ce}(h:nG x=some c):c.v=x:=by
 unfold nG at h;split at h<;>simp at h<;>subst h<;>rfl
def tH:ap->Option ae
 |[]=>some []
 |d::b=>match nG d,tH b with
  |some c,some a=>some (c::a)
  |_,_=>none
def O2:∀{b:ap}{a:ae},tH b=some a->a.map Ce.v=b
 |[],_,h=>by simp[tH]at h;subst h;rfl
 |d::b,a,h=>by
  simp only[tH]at h;split at h
  .rename_i f g c e;simp at h;subst h;simp[Rz c,O2 e]
  .simp at h
def JP:Value->SV
 | .bool true=>.tt
 | .bool false=>.ff
 | .agg a=>match tH a.toList with
  |some l=>.agg l
  |none=>.jz
 | .tuple a=>bif a.toList.isEmpty then .un else .jz
 |d=>match nG d with
  |some c=>.c c
  |none=>.jz
def Vy(x:Value):(JP x).Is x:=by
 unfold JP;split
 .rfl
 .rfl
 .rename_i a;split
  .rename_i l b;show Value.agg a=.agg (l.map Ce.v).toArray;rw[O2 b]
  .trivial
 .rename_i a;cases h:a.toList.isEmpty
  .trivial
  .show Value.tuple a=undef;have:a=#[]:=sp h;rw[this];rfl
 .split
  .rename_i c a;exact(Rz a).symm
  .trivial
def ev(a:Fr):Operand->SV
 | .tmp t=>(km a t).nb
 | .const d=>JP d
 | .global g=>.c (.p g 0)
 | .func f=>.c (.fn (.func f) #[] #[])
@[grind cases] structure mr (n:Nat) (fr:Fr) (a:Act):Prop where
 aP:a.tmps.size=n
 nI:a.defers=[]
 D:∀t,(km fr t).Is (a.tmps.getD t undef)
def mr.ev{b:Fr}(h:mr n b a)(x:Operand):(ev b x).Is (a.eval x):=by
 cases x with
 |tmp t=>exact SV.ZF (h.D t)
 |const d=>exact Vy d
 |global g=>rfl
 |func f=>rfl
def mr.cB{c:Fr}(h:mr n c a){b:Option Nat}{x:SV}(g:x.Is d)(hd:∀t,b=some t->t<n):
 mr n (yg c b x) (a.put b d):=by
 cases b with
 |none=>exact h
 |some b=>
  refine⟨by simpa[Act.put]using h.aP,h.nI,λt=>?_⟩
  have f:b<a.tmps.size:=by grind [mr.aP]
  simp only[yg,km,Act.put]
  by_cases e:b=t
  .subst e
   simp only[Nat.beq_refl,po]
   simpa[f]using SV.ZF g
  .have:Nat.beq b t=false:=by
    cases i:Nat.beq b t
    .rfl
    .grind [Nat.eq_of_beq_eq_true]
   simp only[this,zO]
   have:=h.D t
   simpa[Vj e]using this
def mr.dS{b:Fr}(h:mr n b a){t:Nat}{x:SV}(c:∀d,x.Is d):mr n ((t,x)::b) a:=by
 constructor<;>grind [mr.aP,mr.nI,km,Nat.beq,mr.D]
def mr.jz{b:Fr}(h:mr n b a)(t:Nat):mr n ((t,.jz)::b) a:=by
 refine⟨h.aP,h.nI,λu=>?_⟩;simp only[km];cases c:Nat.beq t u
 .exact h.D u
 .trivial
end Go.Vc
end
section
namespace Go.Vc
variable{P:Program}{t b e:Nat}
inductive Sh where
 |I
 |U (k:IntKind)
 |T
 |S
 |P
 |F
 |M
 |Q
 deriving DecidableEq
abbrev aB:=List Sh
abbrev aw:=List (Nat×Sh)
abbrev Sh.ty:Sh->Type
 | .I=>Int
 | .U _=>Int
 | .T=>Bool
 | .S=>N
 | .P=>Nat×Nat
 | .F=>Fn×Array Value×Array Value
 | .M=>Nat
 | .Q=>Option (Nat×Nat)
abbrev Sh.mk:(s:Sh)->s.ty->Ce
 | .I,n=>.i n
 | .U k,n=>.u k n
 | .T,x=>.t x
 | .S,x=>.s x
 | .P,q=>.p q.1 q.2
 | .F,v=>.fv v
 | .M,b=>.mp b
 | .Q,q=>.pp q
def Sh.zero:Sh->Ce
 | .I=>.i 0
 | .U k=>.u k 0
 | .T=>.t false
 | .S=>.s .nil
 | .P=>.pn
 | .F=>.nf
 | .M=>.mn
 | .Q=>.pp none
inductive TK where
 |cell
 |slice (elem:Nat)
 |struct (offs:ao)
 |tuple (ts:ad)
 |map (key elem:Nat)
structure TI where
 Eh:TK
 sh:aB
 bytes:Nat
abbrev TT:=List (Nat×TI)
def ji:TT->Nat->Option TI
 |[],_=>none
 |(u,x)::r,t=>bif Nat.beq u t then some x else ji r t
def SZ:Sh->Value->Bool
 | .I,.int .i64 0=>true
 | .U k,.int a 0=>decide (k=a)
 | .T,.bool false=>true
 | .S,.slice none 0 0=>true
 | .P,.pointer none=>true
 | .F,.nilFunc=>true
 | .M,.map none=>true
 | .Q,.pointer none=>true
 |_,_=>false
def S0{s:Sh}{v:Value}(h:SZ s v=true):v=s.zero.v:=by
 unfold SZ at h;split at h<;>first|rfl|(simp at h;subst h;rfl)|simp at h
def JA:ap->aB->Bool
 |[],[]=>true
 |v::b,s::a=>SZ s v&&JA b a
 |_,_=>false
theorem Ns:∀{b:ap}{a:aB},JA b a=true->b=a.map λs=>s.zero.v
 |[],[],_=>rfl
 |v::b,s::a,h=>by
  simp only[JA,eX]at h;simp[S0 h.1,Ns h.2]
 |[],_::_,h=>by simp[JA]at h
 |_::_,[],h=>by simp[JA]at h
def RI:afq->ao->Bool
 |[],[]=>true
 |f::a,(o,t)::r=>Nat.beq f.offset o&&Nat.beq f.type t&&RI a r
 |_,_=>false
theorem PH:∀{a:afq}{b:ao},RI a b=true->a.map (λf=>(f.offset,f.type))=b
 |[],[],_=>rfl
 |f::a,(o,t)::r,h=>by
  simp only[RI,eX]at h;simp[gB h.1.1,gB h.1.2,PH h.2]
 |[],_::_,h=>by simp[RI]at h
 |_::_,[],h=>by simp[RI]at h
def Br:TypeDesc->aB->Bool
 | .bool,[.T]=>true
 | .int .i64,[.I]=>true
 | .int k,[.U k']=>decide (k=k')
 | .pointer _,[.P]=>true
 | .pointer _,[.Q]=>true
 | .func ..,[.F]=>true
 |_,_=>false
def FV(i:TypeInfo)(a:TI)(b:Bool):Bool:=
 Nat.beq i.size a.sh.length&&Nat.beq i.bytes a.bytes&&
 (match i.zero with
  |some (.agg c)=>b&&JA c.toList a.sh
  |some z=>!b&&JA [z] a.sh
  |none=>false)
def tcm(t:Nat):Nat:=t+1000000
def aat(P:Program)(t:Nat):Bool:=
 match P.underlying t with
 |some (.struct a)=>a.toList.all (λf=>f.name != "_")&&!P.stoodInHeld t&&!P.eqGuardType P.depth t
 |_=>false
def Cd(P:Program)(t:Nat)(a:TI):Bool:=
 match a.Eh with
 | .tuple _=>if t<1000000 then true else aat P (t -1000000)
 | .slice e=>match P.info? t,P.underlying t with
  |some i,some (.slice b)=>Nat.beq e b&&FV i a false
  |_,_=>false
 | .struct d=>match P.info? t,P.underlying t with
  |some i,some (.struct c)=>RI c.toList d&&FV i a true
  |_,_=>false
 | .map k e=>match P.info? t,P.underlying t with
  |some i,some (.map c b)=>Nat.beq k c&&Nat.beq e b&&FV i a false
  |_,_=>false
 | .cell=>match P.info? t,P.underlying t with
  |some i,some d=>Br d a.sh&&FV i a false
  |_,_=>false
def yE(P:Program)(T:TT):Prop:=T.all (λx=>Cd P x.1 x.2)=true
def UU:∀{T:TT}{t:Nat}{a:TI},ji T t=some a->(t,a)∈T
 |[],_,_,h=>by simp[ji]at h
 |(u,x)::r,t,a,h=>by
  simp only[ji]at h;cases b:Nat.beq u t
  .rw[b]at h;exact aW _ (UU h)
  .grind [Nat.eq_of_beq_eq_true,List.mem_cons_self]
theorem yE.Cd{T:TT}(h:yE P T){a:TI}(b:ji T t=some a):Cd P t a=true:=
 La.1 h _ (UU b)
def yE.cmp{T:TT}(h:yE P T){l:ad}{c:aB}(a:ji T (tcm t)=some ⟨.tuple l,c,b⟩):aat P t=true:=by
 have:=h.Cd a;simp only[Go.Vc.Cd]at this;rw[aU (by unfold tcm;omega),show tcm t -1000000=t by unfold tcm;omega]at this;exact this
@[grind cases] structure OG (P:Program) (t:Nat) (ti:TI) (agg:Bool):Prop where
 afn:∃i,P.info? t=some i/\i.size=ti.sh.length/\i.bytes=ti.bytes/\
  ∃z,i.zero=some z/\z.cells.toList=(ti.sh.map λs=>s.zero.v)/\(agg=false->∀cs,z≠.agg cs)
theorem wK{b:TI}{i:TypeInfo}{a:Bool}(c:P.info? t=some i)(h:FV i b a=true):OG P t b a:=by
 constructor<;>grind [FV,Nat.eq_of_beq_eq_true,Go.Value.cells,Ns]
def na{a:aB}(h:Cd P t ⟨.slice e,a,b⟩=true):P.underlying t=some (.slice e)/\OG P t ⟨.slice e,a,b⟩ false:=by
 grind [Cd,Nat.eq_of_beq_eq_true,wK]
def Gf{k:Nat}{a:aB}(h:Cd P t ⟨.map k e,a,b⟩=true):P.underlying t=some (.map k e)/\OG P t ⟨.map k e,a,b⟩ false:=by
 grind [Cd,Nat.eq_of_beq_eq_true,wK]
def qL{a:ao}{d:aB}(h:Cd P t ⟨.struct a,d,b⟩=true):
 (∃c,P.underlying t=some (.struct c)/\c.toList.map (λf=>(f.offset,f.type))=a)/\OG P t ⟨.struct a,d,b⟩ true:=by
 grind [Cd,PH,wK]
def qK{a:aB}(h:Cd P t ⟨.cell,a,b⟩=true):
 (∃d,P.underlying t=some d/\Br d a=true)/\OG P t ⟨.cell,a,b⟩ false:=by
 grind [Cd,wK]
def TI.agg(a:TI):Bool:=match a.Eh with| .struct _=>true|_=>false
def TI.yO(a:TI):Bool:=match a.Eh with| .tuple _=>true|_=>false
def nj{T:TT}(f:yE P T){d:TI}(g:ji T t=some d)(j:d.yO=false)(w:World):
 (sizeOf t).run P w=.ok d.sh.length w:=by
 have h:=f.Cd g
 obtain⟨Eh,k,b⟩:=d
 have:∃i,P.info? t=some i/\i.size=k.length:=by
  cases Eh with
  |cell=>obtain⟨_,⟨i,a,c,_⟩⟩:=qK h;exact⟨i,a,c⟩
  |slice e=>obtain⟨_,⟨i,a,c,_⟩⟩:=na h;exact⟨i,a,c⟩
  |map l e=>obtain⟨_,⟨i,a,c,_⟩⟩:=Gf h;exact⟨i,a,c⟩
  |struct o=>obtain⟨_,⟨i,a,c,_⟩⟩:=qL h;exact⟨i,a,c⟩
  |tuple l=>simp[TI.yO]at j
 obtain⟨i,a,c⟩:=this
 simp[sizeOf,typeInfo,a,c]
def Kk{T:TT}(g:yE P T){f:TI}(j:ji T t=some f)(k:f.yO=false):
 ∃i,i.bytes=f.bytes/\i.size=f.sh.length/\(∀w,(typeInfo t).run P w=.ok i w)/\P.info? t=some i:=by
 have h:=g.Cd j
 obtain⟨Eh,l,b⟩:=f
 have:∃i,P.info? t=some i/\i.size=l.length/\i.bytes=b:=by
  cases Eh with
  |cell=>obtain⟨_,⟨i,a,c,d,_⟩⟩:=qK h;exact⟨i,a,c,d⟩
  |slice e=>obtain⟨_,⟨i,a,c,d,_⟩⟩:=na h;exact⟨i,a,c,d⟩
  |map m e=>obtain⟨_,⟨i,a,c,d,_⟩⟩:=Gf h;exact⟨i,a,c,d⟩
  |struct o=>obtain⟨_,⟨i,a,c,d,_⟩⟩:=qL h;exact⟨i,a,c,d⟩
  |tuple m=>simp[TI.yO]at k
 obtain⟨i,a,c,d⟩:=this
 exact⟨i,d,c,λw=>by simp[typeInfo,a],a⟩
def Ap{T:TT}(m:yE P T){k:TI}(n:ji T t=some k)(o:k.yO=false):
 ∃z,z.cells.toList=k.sh.map (λs=>s.zero.v)/\(∀w,(zeroValue t).run P w=.ok z w)/\(k.agg=false->∀a,z≠.agg a):=by
 have h:=m.Cd n
 obtain⟨Eh,l,b⟩:=k
 have:∃i,P.info? t=some i/\∃z,i.zero=some z/\z.cells.toList=(l.map λs=>s.zero.v)/\((TI.mk Eh l b).agg=false->∀a,z≠.agg a):=by
  cases Eh with
  |cell=>obtain⟨_,⟨i,a,g,j,z,c,d,f⟩⟩:=qK h;exact⟨i,a,z,c,d,λ_=>f rfl⟩
  |slice e=>obtain⟨_,⟨i,a,g,j,z,c,d,f⟩⟩:=na h;exact⟨i,a,z,c,d,λ_=>f rfl⟩
  |map p e=>obtain⟨_,⟨i,a,g,j,z,c,d,f⟩⟩:=Gf h;exact⟨i,a,z,c,d,λ_=>f rfl⟩
  |struct p=>obtain⟨_,⟨i,a,g,j,z,c,d,f⟩⟩:=qL h;exact⟨i,a,z,c,d,λh=>by simp[TI.agg]at h⟩
  |tuple d=>simp[TI.yO]at o
 obtain⟨i,a,z,g,j,c⟩:=this
 exact⟨z,j,λw=>by simp[zeroValue,typeInfo,a,g],c⟩
def LN{T:TT}(d:yE P T){a:TI}(f:ji T t=some a)(g:a.yO=false)(w:World):
 (isAgg t).run P w=.ok a.agg w:=by
 have h:=d.Cd f
 obtain⟨Eh,j,b⟩:=a
 cases Eh with
 |cell=>
  obtain⟨⟨i,hd,c⟩,_⟩:=qK h
  unfold Br at c
  split at c<;>first|(simp at c;done)|simp[isAgg,run_underlying hd,TI.agg]
 |slice e=>obtain⟨hd,_⟩:=na h;simp[isAgg,run_underlying hd,TI.agg]
 |map k e=>obtain⟨hd,_⟩:=Gf h;simp[isAgg,run_underlying hd,TI.agg]
 |struct o=>obtain⟨⟨c,hd,_⟩,_⟩:=qL h;simp[isAgg,run_underlying hd,TI.agg]
 |tuple c=>simp[TI.yO]at g
end Go.Vc
end
section
namespace Go.Vc
def oD:SV->Option Bool
 | .tt=>some true
 | .ff=>some false
 | .c (.t x)=>some x
 |_=>none
def SV.mJ:SV->Bool
 | .jz=>false
 | .box _ _ _=>false
 | .DK _ _ _=>false
 |_=>true
def eR(n:Int):Int:=IntKind.i64.wrap n
def LA{α:Type}:List α->Nat->Option α
 |[],_=>none
 |x::_,0=>some x
 |_::r,n+1=>LA r n
theorem tS{α:Type}:∀(l:List α)(n:Nat),LA l n=l[n]?
 |[],_=>by simp[LA]
 |x::_,0=>by simp[LA]
 |_::r,n+1=>by simp[LA,tS r n]
def ldC(m:E)(b o:Nat):Nat->aB->(ae->Prop)->Prop
 |_,[],k=>k []
 |j,s::r,k=>∃x:s.ty,aR m b (o+j)=some (s.mk x).v/\ldC m b o (j+1) r λl=>k (s.mk x::l)
def aaY(a b:Int):Int:=eR ((a%18446744073709551616).toNat^^^(b%18446744073709551616).toNat:Nat)
def vJ(c:BinOp)(a b:Int)(k:SV->Prop):Prop:=
 match c with
 | .add=>k (.c (.i (eR (a+b))))
 | .sub=>k (.c (.i (eR (a -b))))
 | .mul=>k (.c (.i (eR (a*b))))
 | .quo=>b≠0/\k (.c (.i (eR (a.tdiv b))))
 | .rem=>b≠0/\k (.c (.i (a.tmod b)))
 | .xor=>k (.c (.i (aaY a b)))
 | .eql=>k (.c (.t (a==b)))
 | .neq=>k (.c (.t (a !=b)))
 | .lss=>k (.c (.t (decide (a<b))))
 | .leq=>k (.c (.t (decide (a<=b))))
 | .gtr=>k (.c (.t (decide (a>b))))
 | .geq=>k (.c (.t (decide (a>=b))))
 |_=>False
def aap(c:BinOp)(a b:Bool)(k:SV->Prop):Prop:=
 match c with
 | .eql=>k (.c (.t (a==b)))
 | .neq=>k (.c (.t (!(a==b))))
 |_=>False
def aaE(a:BinOp)(s:N)(k:SV->Prop):Prop:=
 match a with
 | .eql=>k (.c (.t s.MV))
 | .neq=>k (.c (.t (!s.MV)))
 |_=>False
def aaF(a:BinOp)(q:Option (Nat×Nat))(k:SV->Prop):Prop:=
 match a with
 | .eql=>k (.c (.t q.isNone))
 | .neq=>k (.c (.t (!q.isNone)))
 |_=>False
def unO(a:UnOp)(x:SV)(k:SV->Prop):Prop:=
 match a,x with
 | .not,.tt=>k .ff
 | .not,.ff=>k .tt
 | .not,.c (.t b)=>k (.c (.t (!b)))
 | .neg,.c (.i n)=>k (.c (.i (eR (0 -n))))
 |_,_=>False
def N.cut(x:N)(a d e:Nat):N:=
 match x with
 | .nil=>.nil
 | .mk b o _ c=>.mk b (if c=a then o else o+a*e) (d -a) (c -a)
 | .Dx b o sp=>.Dx b o sp
def SV.cells:SV->Option ae
 | .c x=>some [x]
 | .tt=>some [.t true]
 | .ff=>some [.t false]
 | .agg l=>some l
 |_=>none
def qE(l:ae)(b:Nat)(a:ae):ae:=
 match b,l with
 |0,l=>match a,l with
  |[],l=>l
  |n::a,_::l=>n::qE l 0 a
  |_::_,[]=>[]
 |b+1,x::l=>x::qE l b a
 |_+1,[]=>[]
termination_by structural l
def JM(T:TT)(c:Fr)(e:ao):ae->aG->(ae->Prop)->Prop
 |a,[],k=>k a
 |a,(i,x)::r,k=>
  match LA e i,(ev c x).cells with
  |some (d,t),some b=>
   match ji T t with
   |some f=>bif !f.yO&&Nat.beq b.length f.sh.length&&Nat.ble (d+b.length) a.length then JM T c e (qE a d b) r k else False
   |none=>False
  |_,_=>False
def zy(T:TT):ao->Bool
 |[]=>true
 |(_,t)::r=>(match ji T t with|some a=>!a.yO|none=>false)&&zy T r
def Q3(a:Fr)(x:Option Operand)(d:Int)(k:Int->Prop):Prop:=
 match x with
 |none=>k d
 |some x=>match ev a x with
  | .c (.i n)=>k n
  |_=>False
def acR(T:TT)(t:Nat)(s:N)(n:Int)(k:SV->Prop):Prop:=
 match ji T t with
 |some ⟨.slice e,_,_⟩=>match ji T e with
  |some a=>bif a.yO then False else 0<=n/\n<(s.len:Int)/\k (.c (.p s.bq (s.off+n.toNat*a.sh.length)))
  |none=>False
 |_=>False
def Um(T:TT)(m:E)(t b o:Nat)(k:SV->Prop):Prop:=
 match ji T t with
 |some ⟨.struct _,a,_⟩=>ldC m b o 0 a λl=>k (.agg l)
 |some ⟨.cell,[s],_⟩=>∃x:s.ty,aR m b o=some (s.mk x).v/\k (.c (s.mk x))
 |some ⟨.slice _,[_],_⟩=>∃x:N,aR m b o=some x.v/\k (.c (.s x))
 |_=>False
def Wm(T:TT)(a:Fr)(t:Nat)(s:N)(d c:Option Operand)(k:SV->Prop):Prop:=
 match ji T t with
 |some ⟨.slice e,_,_⟩=>match ji T e with
  |some b=>bif b.yO then False else
   Q3 a d 0 λl=>Q3 a c (s.len:Int) λh=>0<=l/\l<=h/\h<=(s.cap:Int)/\k (.c (.s (s.cut l.toNat h.toNat b.sh.length)))
  |none=>False
 |_=>False
def Sr(T:TT)(t f:Nat)(l:ae)(k:SV->Prop):Prop:=
 match ji T t with
 |some ⟨.struct c,_,_⟩=>match LA c f with
  |some (b,u)=>match ji T u with
   |some a=>bif a.yO then False else bif a.agg then k (.agg ((l.drop b).take a.sh.length))else(match LA l b with|some x=>k (.c x)|none=>False)
   |none=>False
  |none=>False
 |_=>False
def JT(T:TT)(t f o:Nat)(mk:Nat->SV)(k:SV->Prop):Prop:=
 match ji T t with
 |some ⟨.struct c,_,_⟩=>match LA c f with
  |some (b,u)=>match ji T u with
   |some a=>bif a.yO||Nat.beq a.sh.length 0 then False else k (mk (o+b))
   |none=>False
  |none=>False
 |_=>False
def Oq(a b:Nat)(k:Prop):Prop:=a=b/\k
theorem kd(b:Nat)(k:Prop):Oq b b k=k:=by simp[Oq]
def KY:ae->Nat->Nat->Option ae
 |_,_,0=>some []
 |l,o,n+1=>match LA l o,KY l (o+1) n with
  |some c,some r=>some (c::r)
  |_,_=>none
def Rx(T:TT)(t:Nat)(a:ae)(o:Nat)(k:SV->Prop):Prop:=
 match ji T t with
 |some ⟨.struct _,b,_⟩=>match KY a o b.length with
  |some l=>k (.agg l)
  |none=>False
 |some ⟨.cell,[_],_⟩=>match LA a o with
  |some c=>k (.c c)
  |none=>False
 |some ⟨.slice _,[_],_⟩=>match LA a o with
  |some c=>k (.c c)
  |none=>False
 |some ⟨.map _ _,[_],_⟩=>match LA a o with
  |some c=>k (.c c)
  |none=>False
 |_=>False
def YY(T:TT)(c:Fr)(d:Builtin)(e:ad)(f:aE)(k:SV->Prop):Prop:=
 match d,e,f with
 | .len,[t],[x]=>match ji T t,ev c x with
  |some ⟨.slice _,_,_⟩,.c (.s s)=>k (.c (.i (s.len:Int)))
  |_,_=>False
 | .max,_,[x,y]=>match ev c x,ev c y with
  | .c (.i a),.c (.i b)=>k (.c (.i (if b>a then b else a)))
  |_,_=>False
 | .min,_,[x,y]=>match ev c x,ev c y with
  | .c (.i a),.c (.i b)=>k (.c (.i (if b<a then b else a)))
  |_,_=>False
 |_,_,_=>False
def eqC(T:TT):Nat->ao->ae->ae->Option Bool
 |_,[],[],[]=>some true
 |i,(o,u)::c,.i a::l,.i b::r=>bif Nat.beq o i then match ji T u,eqC T (i+1) c l r with
  |some ⟨.cell,[.I],_⟩,some z=>some (a==b&&z)
  |_,_=>none else none
 |_,_,_,_=>none
def eqA(T:TT)(t:Nat)(l r:ae)(k:SV->Prop):Prop:=
 match ji T (tcm t),ji T t with
 |some ⟨.tuple _,_,_⟩,some ⟨.struct a,_,_⟩=>match eqC T 0 a l r with
  |some z=>k (.c (.t z))
  |none=>False
 |_,_=>False
def rd(T:TT)(a:Fr)(m:E)(k:SV->Prop):Op->Prop
 | .move x| .assign x=>k (ev a x)
 | .pick d c b=>match ev a d with
  | .tt=>k (ev a c)
  | .ff=>k (ev a b)
  | .c (.t x)=>match oD (ev a c),oD (ev a b)with
   |some y,some z=>k (.c (.t (bif x then y else z)))
   |_,_=>False
  |_=>False
 | .nilCheck x=>match ev a x with
  | .c (.p b o)=>k (.c (.p b o))
  | .c (.bp q b o)=>k (.c (.bp q b o))
  | .c (.fn (.func f) c d)=>k (.c (.fn (.func f) c d))
  | .c (.fv q)=>∃g,q.1=.func g/\k (.c (.fv q))
  | .c (.pp q)=>∃r,q=some r/\k (.c (.p r.1 r.2))
  |_=>False
 | .binOp d t x y _=>match ev a x,ev a y with
  | .c (.i c),.c (.i b)=>vJ d c b k
  | .c (.s s),.c (.s .nil)=>match ji T t with
   |some ⟨.slice _,_,_⟩=>aaE d s k
   |_=>False
  | .c (.pp q),.c .pn=>match ji T t with
   |some ⟨.cell,[.Q],_⟩=>aaF d q k
   |_=>False
  | .agg l,.agg r=>match d with
   | .eql=>eqA T t l r k
   |_=>False
  |sx,e=>match ji T t,oD sx,oD e with
   |some ⟨.cell,[.T],_⟩,some c,some b=>aap d c b k
   |_,_,_=>False
 | .unOp d _ x=>unO d (ev a x) k
 | .convert s t x=>match ji T s,ji T t,ev a x with
  |some ⟨.cell,[_],_⟩,some ⟨.cell,[.I],_⟩,.c (.u _ n)=>k (.c (.i (eR n)))
  |_,_,_=>False
 | .fieldAddr t x f=>match ev a x with
  | .c (.p b o)=>JT T t f o (λo=>.c (.p b o)) k
  | .c (.bp q b o)=>JT T t f o (λo=>.c (.bp q b o)) k
  |_=>False
 | .field t x f=>match ev a x with
  | .agg l=>Sr T t f l k
  |_=>False
 | .indexAddr t x i=>match ev a x,ev a i with
  | .c (.s s),.c (.i n)=>acR T t s n k
  |_,_=>False
 | .load t x=>match ev a x with
  | .c (.p b o)=>Um T m t b o k
  | .c (.bp q b o)=>match km a q with
   | .box c _ d=>Oq c b (Rx T t d o k)
   | .DK c _ d=>Oq c b (Rx T t d o k)
   |_=>Um T m t b o k
  |_=>False
 | .extract x i=>match ev a x with
  | .tup l=>match LA l i with
   |some y=>k y.sv
   |none=>False
  |_=>False
 | .slice t x c b none=>match ev a x with
  | .c (.s s)=>Wm T a t s c b k
  |_=>False
 | .build t c=>match ji T t with
  |some ⟨.struct b,d,_⟩=>bif zy T b then JM T a b (d.map Sh.zero) c.toList λl=>k (.agg l)else False
  |_=>False
 | .call ⟨.builtin c,b,d⟩=>YY T a c d.toList b.toList k
 |_=>False
def oQ(a:Fr)(q b e:Nat)(l:ae):Prop:=km a q=.box b e l\/km a q=.DK b e l
@[grind cases] structure Bx (n:Nat) (fr:Fr) (m:E):Prop where
 bq:∀q b e l,oQ fr q b e l->m[b]? =some (.cells (l.map Ce.v).toArray e)
 VA:∀q q' b e l b' e' l',q≠q'->oQ fr q b e l->oQ fr q' b' e' l'->b≠b'
 MW:∀q b e l,oQ fr q b e l->n<=q
def YF(T:TT)(c:Fr):Op->ao
 | .load t x=>match ev c x,ji T t with
  | .c (.p b o),some a=>(List.range a.sh.length).map λj=>(b,o+j)
  | .c (.bp _ b o),some a=>(List.range a.sh.length).map λj=>(b,o+j)
  |_,_=>[]
 |_=>[]
end Go.Vc
end
section
namespace Go.Vc
variable{s:SV}{b:Bool}
theorem SV.Is.eq{v:Value}(h:s.Is v)(a:s.mJ=true):v=s.v:=by
 cases s<;>first|exact h|simp[SV.mJ]at a
def qU:s.Is s.v:=by cases s<;>first|rfl|trivial
theorem mr.eq{n:Nat}{b:Fr}{a:Act}(h:mr n b a){x:Operand}{s:SV}(c:Vc.ev b x=s)(d:s.mJ=true):a.eval x=s.v:=by
 have:=h.ev x;grind [SV.Is.eq]
theorem AY(h:oD s=some b):s.mJ=true/\s.v=.bool b:=by
 unfold oD at h;grind [SV.mJ,SV.v,Ce.v]
def mr.evB{n:Nat}{c:Fr}{a:Act}(h:mr n c a){x:Operand}(d:oD (Vc.ev c x)=some b):a.eval x=.bool b:=by
 rw[h.eq rfl (AY d).1,(AY d).2]
theorem zS(b o n:Nat):(⟨b,o,none⟩:Addr).add n=⟨b,o+n,none⟩:=by
 grind [Go.Addr.add]
theorem Ga:∀(l:ae)(a:Nat)(b:ae)(i:Nat),a+b.length<=l.length->
 (qE l a b)[i]? =if a<=i/\i<a+b.length then b[i -a]? else l[i]?
 |[],0,[],i,_=>by simp[qE]
 |[],0,_::_,_,h=>by simp at h
 |[],_+1,_,_,h=>by simp at h
 |x::l,0,[],i,_=>by simp[qE]
 |x::l,0,n::b,i,h=>by
  simp only[qE];cases i with
  |zero=>simp
  |succ i=>
   have:=Ga l 0 b i cG;simp only[jZ,this];simp
 |x::l,a+1,b,i,h=>by
  simp only[qE];cases i with
  |zero=>simp
  |succ i=>
   have:=Ga l a b i cG;simp only[jZ,this];have e:(i+1 -(a+1))=i -a:=V;simp only[e];congr 1;simp;omega
def RF(c:ap):∀(k a:Nat)(b:Array Value)(i:Nat),
 ((c.zipIdx k).foldl (λ(d:Array Value)(p:Value×Nat)=>d.setIfInBounds (a+p.2) p.1) b)[i]? =
  if a+k<=i/\i<a+k+c.length/\i<b.size then c[i -(a+k)]? else b[i]? :=by
 induction c with
 |nil=>intro k a b i;simp;intro h;omega
 |cons v c d=>
  intro k a b i
  simp only[List.zipIdx_cons,List.foldl_cons,d,Array.size_setIfInBounds,dE]
  by_cases e:i=a+k
  .grind [Array.size]
  .grind [Array.getElem?_setIfInBounds_ne,List.length,Array.size,List.getElem?_cons_succ]
def tF{l:ae}(h:s.cells=some l):s.mJ=true/\s.v.cells=(l.map Ce.v).toArray:=by
 cases s with
 |c x=>simp[SV.cells]at h;subst h;exact⟨rfl,by simp[SV.v,Ce.lW]⟩
 |tt=>simp[SV.cells]at h;subst h;exact⟨rfl,rfl⟩
 |ff=>simp[SV.cells]at h;subst h;exact⟨rfl,rfl⟩
 |agg a=>simp[SV.cells]at h;subst h;exact⟨rfl,rfl⟩
 |tup _=>simp[SV.cells]at h
 |un=>simp[SV.cells]at h
 |jz=>simp[SV.cells]at h
 |box _ _ _=>simp[SV.cells]at h
 |DK _ _ _=>simp[SV.cells]at h
end Go.Vc
end
section
namespace Go.Vc
variable{x y:Operand}{c e:TypeId}{i b f o:Nat}{h:ae}
variable{g:Program}{T:TT}
def sV(g:Program)(T:TT)(b:Fr)(m:E)(a:Act)(o:Oper)(k:SV->Prop):Prop:=
 ∃x v,k x/\x.Is v/\∀w:World,(∀q∈YF T b o.op,aR w.heap q.1 q.2=aR m q.1 q.2)->(execOp a.eval o).run g w=.ok (.value v) w
section
variable{n:Nat}{j:Fr}{a:Act}{p:E}{k:SV->Prop}{r:Option Tmp}{z:TypeId}{v:String}{q:Array Edge}{u:Option (Nat×Bool)}
def Zl(b:mr n j a)(h:k (ev j x)):sV g T j p a ⟨r,.move x,z,v,q,u⟩ k:=
 ⟨_,_,h,b.ev x,λw _=>by simp[execOp]⟩
def Yc(b:mr n j a)(h:k (ev j x)):sV g T j p a ⟨r,.assign x,z,v,q,u⟩ k:=
 ⟨_,_,h,b.ev x,λw _=>by simp[execOp]⟩
def VP(c:mr n j a){e:Operand}(h:rd T j p k (.pick e x y)):sV g T j p a ⟨r,.pick e x y,z,v,q,u⟩ k:=by
 simp only[rd]at h;split at h
 .rename_i d;exact⟨_,_,h,c.ev x,λw _=>by simp[execOp,c.eq d rfl,SV.v,asBool]⟩
 .rename_i d;exact⟨_,_,h,c.ev y,λw _=>by simp[execOp,c.eq d rfl,SV.v,asBool]⟩
 .rename_i b d;split at h
  .rename_i l m f i;refine⟨_,_,h,qU,λw _=>?_⟩;simp[execOp,c.eq d rfl,SV.v,Ce.v,asBool,c.evB f,c.evB i];try (cases b<;>rfl)
  .exact h.elim
 .exact h.elim
def Pg(d:mr n j a)(h:rd T j p k (.nilCheck x)):sV g T j p a ⟨r,.nilCheck x,z,v,q,u⟩ k:=by
 simp only[rd]at h;split at h
 .rename_i b o c;exact⟨_,_,h,qU,λw _=>by simp[execOp,d.eq c rfl,SV.v,Ce.v]⟩
 .rename_i i b o c;exact⟨_,_,h,qU,λw _=>by simp[execOp,d.eq c rfl,SV.v,Ce.v]⟩
 .rename_i f e l c;exact⟨_,_,h,qU,λw _=>by simp[execOp,d.eq c rfl,SV.v,Ce.v]⟩
 .rename_i i c;obtain⟨m,l,e⟩:=h;exact⟨_,_,e,qU,λw _=>by simp[execOp,d.eq c rfl,SV.v,Ce.v,l]⟩
 .rename_i i c;obtain⟨l,rfl,e⟩:=h;exact⟨_,_,e,qU,λw _=>by simp[execOp,d.eq c rfl,SV.v,Ce.v]⟩
 .exact h.elim
def aaq{a:BinOp}{x y:Int}(h:vJ a x y k):∃s v,k s/\s.Is v/\∀w:World,(binOp a c (.int .i64 x) (.int .i64 y)).run g w=.ok v w:=by
 cases a<;>simp only[vJ]at h
 case quo=>exact⟨_,_,h.2,qU,λw=>by simp[binOp,Op.intDiv,h.1,SV.v,Ce.v,eR]⟩
 case rem=>exact⟨_,_,h.2,qU,λw=>by simp[binOp,Op.intDiv,h.1,SV.v,Ce.v]⟩
 case xor=>exact⟨_,_,h,qU,λw=>by simp[binOp,Op.intBits,SV.v,Ce.v,eR,aaY,IntKind.bits];rfl⟩
 all_goals exact⟨_,_,h,qU,λw=>by simp[binOp,Op.intArith,Op.intCmp,SV.v,Ce.v,eR]⟩
def TY(a:BinOp)(c:TypeId)(d e:Operand)(b:IntKind)(x:Int)(y:Value)(w:World):(eqGuard a c d e (.int b x) y).run g w=.ok () w:=by
 cases a<;>simp[eqGuard]
def Sp(a:BinOp)(c:TypeId)(b d:Operand)(x:Bool)(y:Value)(w:World):(eqGuard a c b d (.bool x) y).run g w=.ok () w:=by
 cases a<;>simp[eqGuard]
def VF(hd:g.underlying c=some .bool)(x y:Bool)(w:World):(Op.equal c (.bool x) (.bool y)).run g w=.ok (x==y) w:=by
 have:Op.equal c (.bool x) (.bool y)=Op.equalIn (9999+1) c (.bool x) (.bool y):=rfl;rw[this];generalize 9999=i;simp[Op.equalIn,run_underlying hd]
def Nv(hd:g.underlying c=some (.slice e))(s:N)(w:World):(Op.equal c s.v (.slice none 0 0)).run g w=.ok s.MV w:=by
 have:Op.equal c s.v (.slice none 0 0)=Op.equalIn (9999+1) c s.v (.slice none 0 0):=rfl;rw[this];generalize 9999=i;cases s<;>simp[Op.equalIn,run_underlying hd,N.v]
def QU(hd:g.underlying c=some (.pointer e))(a:Option Addr)(w:World):(Op.equal c (.pointer a) (.pointer none)).run g w=.ok a.isNone w:=by
 have:Op.equal c (.pointer a) (.pointer none)=Op.equalIn (9999+1) c (.pointer a) (.pointer none):=rfl;rw[this];generalize 9999=i;cases a<;>simp[Op.equalIn,run_underlying hd]
def TZ(b:BinOp)(c:TypeId)(d e:Operand)(a:Option Addr)(y:Value)(w:World):(eqGuard b c d e (.pointer a) y).run g w=.ok () w:=by
 cases b<;>simp[eqGuard]
def T5(hd:g.underlying c=some (.int .i64))(x y:Int)(w:World):(Op.equalIn (i+1) c (.int .i64 x) (.int .i64 y)).run g w=.ok (x==y) w:=by
 simp[Op.equalIn,run_underlying hd]
def Uq(d:yE g T){u:Nat}(e:ji T u=some ⟨.cell,[.I],b⟩){a:Array Value}{c:Nat}{v:Value}(h:a[c]? =some v)(w:World):(part u a c).run g w=.ok v w:=by
 simp[part,LN d e rfl,TI.agg,h]
def Zh(n:yE g T){X Y:Array Value}(x:World):∀(j:afq)(e:Nat)(l:ao)(h r:ae)(z:Bool),j.map (λf=>(f.offset,f.type))=l->(∀f∈j,f.name≠ "_")->
 (∀k d,h[k]? =some d->X[e+k]? =some d.v)->(∀k d,r[k]? =some d->Y[e+k]? =some d.v)->eqC T e l h r=some z->
 (forIn (m:=Sem) j ((none,()):Option Bool×PUnit) λf _=>do
  if f.name≠ "_" then
   if !(<-Op.equalIn (i+1) f.type (<-part f.type X f.offset) (<-part f.type Y f.offset))then pure (.done (some false,()))else pure (.yield (none,()))
  else pure (.yield (none,()))).run g x=.ok (if z=true then(none,())else(some false,())) x:=by
 intro j
 induction j with
 |nil=>
  intro e l h r z s t p q c
  subst s
  cases h<;>cases r<;>simp[eqC]at c
  subst c
  simp
 |cons f j I=>
  intro e l h r z s t p q c
  subst s
  simp only[eI]at c
  unfold eqC at c
  split at c
  .simp at*
  .rename_i e _ _ _ _ o N l a h b r A
   obtain⟨⟨rfl,rfl⟩,rfl⟩:=sp A
   cases v:Nat.beq f.offset e
   .grind
   .rw[v]at c;simp only[po]at c
    have w:=gB v
    split at c
    .rename_i K J u H
     simp only[Vg]at c
     obtain⟨⟨y,C,L⟩,_⟩:=qK (n.Cd u)
     have E:y=.int .i64:=by grind [Br]
     subst E
     have F:X[f.offset]? =some (.int .i64 a):=by have:=p 0 (.i a) rfl;rw[w];exact this
     have G:Y[f.offset]? =some (.int .i64 b):=by have:=q 0 (.i b) rfl;rw[w];exact this
     have M:=I (e+1) _ h r J rfl (λB D=>t B (aW _ D)) (λk d B=>by have:=p (k+1) d cG;rw[<-this];congr 1;omega) (λk d B=>by have:=q (k+1) d cG;rw[<-this];congr 1;omega) H
     rw[List.forIn_cons,eA,ba (t f cK)]
     simp only[eA,Uq n u F,Uq n u G,dw,T5 C]
     grind [Bool.not_true,Bool.false_eq_true,Go.Sem.run_pure,Go.Result.andThen_ok]
    .simp at c
  .simp at c
def Sq(j:yE g T){a:Array Field}(p:g.underlying c=some (.struct a))(o:g.stoodInHeld c=false)(n:∀f∈a.toList,f.name≠ "_"){r:ae}{z:Bool}
 (l:eqC T 0 (a.toList.map λf=>(f.offset,f.type)) h r=some z)(w:World):(Op.equal c (.agg (h.map Ce.v).toArray) (.agg (r.map Ce.v).toArray)).run g w=.ok z w:=by
 have:Op.equal c (.agg (h.map Ce.v).toArray) (.agg (r.map Ce.v).toArray)=Op.equalIn (9998+1+1) c (.agg (h.map Ce.v).toArray) (.agg (r.map Ce.v).toArray):=rfl
 rw[this]
 generalize 9998=i
 rw[Op.equalIn]
 simp only[eA,run_underlying p,dw]
 have m:=Zh j (i:=i) (X:=(h.map Ce.v).toArray) (Y:=(r.map Ce.v).toArray) w a.toList 0 _ h r z rfl n (λk e b=>by simp[b]) (λk e b=>by simp[b]) l
 have b:(program:Sem Program).run g w=.ok g w:=rfl
 rw[b,dw,aU (by simp[o]),eA,<-Array.forIn_toList,m]
 cases z<;>rfl
def XU(h:aat g c=true):∃a,g.underlying c=some (.struct a)/\(∀f∈a.toList,f.name≠ "_")/\g.stoodInHeld c=false/\g.eqGuardType g.depth c=false:=by
 grind [aat,List.all_eq_true,Bool.not_eq_true']
def TX(h:g.eqGuardType g.depth c=false)(e f:Operand)(a b:Array Value)(w:World):(eqGuard .eql c e f (.agg a) (.agg b)).run g w=.ok () w:=by
 have d:(program:Sem Program).run g w=.ok g w:=rfl;simp only[eqGuard];simp[d,h]
def QT(a:BinOp)(c:TypeId)(b d:Operand)(s:N)(y:Value)(w:World):(eqGuard a c b d s.v y).run g w=.ok () w:=by
 cases s<;>cases a<;>simp[eqGuard,N.v]
def Ud(A:yE g T)(f:mr n j a){C:BinOp}{I:TypeId}(b:rd T j p k (.binOp C c x y I)):sV g T j p a ⟨r,.binOp C c x y I,z,v,q,u⟩ k:=by
 simp only[rd]at b;split at b
 .rename_i O d l m;obtain⟨w,F,B,s,E⟩:=aaq (g:=g) (c:=c) b;refine⟨w,F,B,s,λD _=>?_⟩;simp only[execOp,f.eq l rfl,f.eq m rfl,SV.v,Ce.v,eA];simp[TY,E]
 .rename_i w l m;split at b
  .rename_i e K J B;have s:=(na (A.Cd B)).1;have G:a.eval x=w.v:=f.eq l rfl;have H:a.eval y=.slice none 0 0:=f.eq m rfl;cases C<;>simp only[aaE]at b
   all_goals
    first
    |exact b.elim
    |exact⟨_,_,b,qU,λD _=>by
     have E:∀o:BinOp,o=.eql\/o=.neq->binOp o c w.v (.slice none 0 0)=(if o=.eql then(do pure (.bool (<-Op.equal c w.v (.slice none 0 0))))else(do pure (.bool (!(<-Op.equal c w.v (.slice none 0 0)))))):=by
      intro o F;rcases F with rfl|rfl<;>cases w<;>rfl
     simp only[execOp,G,H,eA,QT,dw];rw[E _ bO];simp[Nv s,SV.v,Ce.v]⟩
  .exact b.elim
 .rename_i d l m;split at b
  .rename_i J B;obtain⟨⟨i,hd,M⟩,_⟩:=qK (A.Cd B);have s:∃e,g.underlying c=some (.pointer e):=by cases i<;>simp_all [Br]
   obtain⟨e,s⟩:=s;have G:a.eval x=.pointer (d.map λd=>⟨d.1,d.2,none⟩):=f.eq l rfl;have H:a.eval y=.pointer none:=f.eq m rfl;cases C<;>simp only[aaF]at b
   all_goals
    first
    |exact b.elim
    |exact⟨_,_,b,qU,λD _=>by
     have E:∀o:BinOp,o=.eql\/o=.neq->binOp o c (.pointer (d.map λd=>(⟨d.1,d.2,none⟩:Addr))) (.pointer none)=(if o=.eql then(do pure (.bool (<-Op.equal c (.pointer (d.map λd=>(⟨d.1,d.2,none⟩:Addr))) (.pointer none))))else(do pure (.bool (!(<-Op.equal c (.pointer (d.map λd=>(⟨d.1,d.2,none⟩:Addr))) (.pointer none)))))):=by
      intro o F;rcases F with rfl|rfl<;>rfl
     simp only[execOp,G,H,eA,TZ,dw];rw[E _ bO];simp[QU s,SV.v,Ce.v]⟩
  .exact b.elim
 .rename_i h Q l m;split at b
  .unfold eqA at b;split at b
   .rename_i H B;split at b
    .rename_i U E;obtain⟨R,s,L,N,J⟩:=XU (A.cmp H);obtain⟨⟨S,w,K⟩,_⟩:=qL (A.Cd B);rw[s]at w;obtain rfl:=(TypeDesc.struct.inj (Option.some.inj w));rw[<-K]at E;refine⟨_,_,b,qU,λD _=>?_⟩;have F:a.eval x=.agg (h.map Ce.v).toArray:=f.eq l rfl;have G:a.eval y=.agg (Q.map Ce.v).toArray:=f.eq m rfl;simp only[execOp,F,G,eA,TX J,dw,binOp,Sq A s N L E];rfl
    .exact b.elim
   .exact b.elim
  .exact b.elim
 .split at b
  .rename_i O d w l m;obtain⟨⟨i,hd,M⟩,_⟩:=qK (A.Cd w);have s:i=.bool:=by
    cases i<;>simp_all [Br]
   subst s;cases C<;>simp only[aap]at b
   all_goals
    first
    |exact b.elim
    |exact⟨_,_,b,qU,λD _=>by
     simp only[execOp,f.evB l,f.evB m,eA,Sp,Result.andThen,binOp,VF hd];rfl⟩
  .exact b.elim
def QY(b:yE g T)(f:mr n j a){s:TypeId}(h:rd T j p k (.convert s c x)):sV g T j p a ⟨r,.convert s c x,z,v,q,u⟩ k:=by
 simp only[rd]at h;split at h
 .rename_i B b1 b2 y A o t w;obtain⟨⟨i,hd,_⟩,_⟩:=qK (b.Cd o);obtain⟨⟨e,l,d⟩,_⟩:=qK (b.Cd t);have m:e=.int .i64:=by unfold Br at d;split at d<;>simp_all
  subst m;exact⟨_,_,h,qU,λC _=>by
   simp only[execOp,f.eq w rfl,SV.v,Ce.v,eA];simp[convert,run_underlying hd,run_underlying l,Conv.intToInt,eR]⟩
 .exact h.elim
def VQ(b:mr n j a){e:UnOp}(h:rd T j p k (.unOp e c x)):sV g T j p a ⟨r,.unOp e c x,z,v,q,u⟩ k:=by
 simp only[rd]at h;generalize d:ev j x=sx at h;unfold unO at h;split at h
 .exact⟨_,_,h,qU,λw _=>by simp[execOp,b.eq d rfl,SV.v,Op.unary]⟩
 .exact⟨_,_,h,qU,λw _=>by simp[execOp,b.eq d rfl,SV.v,Op.unary]⟩
 .exact⟨_,_,h,qU,λw _=>by simp[execOp,b.eq d rfl,SV.v,Ce.v,Op.unary]⟩
 .exact⟨_,_,h,qU,λw _=>by simp[execOp,b.eq d rfl,SV.v,Ce.v,Op.unary,Op.intArith,eR]⟩
 .exact h.elim
def HF(l:yE g T){mk:Nat->SV}(D:∀o,(mk o).v=.pointer (some ⟨b,o,none⟩))(I:a.eval x=.pointer (some ⟨b,o,none⟩))(h:JT T c f o mk k):
 sV g T j p a ⟨r,.fieldAddr c x f,z,v,q,u⟩ k:=by
 unfold JT at h
 split at h
 .rename_i L M J G
  split at h
  .rename_i K N n
   split at h
   .rename_i i H
    cases d:(i.yO||Nat.beq i.sh.length 0)
    .rw[d]at h
     simp only[cU]at d
     obtain⟨⟨t,B,C⟩,_⟩:=qL (l.Cd G)
     rw[tS,<-C,eu]at n
     obtain⟨s,y,m⟩:=jI.1 n
     simp only[RY]at m
     obtain⟨rfl,rfl⟩:=m
     have F:=λw=>nj l H d.1 w
     have E:i.sh.length≠0:=λe=>by rw[e]at d;simp at d
     refine⟨_,_,h,qU,λw _=>?_⟩
     have A:t[f]? =some s:=sp y
     rw[D]
     simp[execOp,Instr.fieldAt,I,run_underlying B,A,Instr.sureAddr,fieldPlace,F,E,zS]
    .rw[d]at h;exact h.elim
   .exact h.elim
  .exact h.elim
 .exact h.elim
def Nx(i:yE g T)(e:mr n j a)(h:rd T j p k (.fieldAddr c x f)):sV g T j p a ⟨r,.fieldAddr c x f,z,v,q,u⟩ k:=by
 simp only[rd]at h;split at h
 .rename_i b o d;exact HF i (λo=>rfl) (e.eq d rfl) h
 .rename_i l b o d;exact HF i (λo=>rfl) (e.eq d rfl) h
 .exact h.elim
def Uf(i:yE g T)(l:mr n j a)(b:rd T j p k (.field c x f)):sV g T j p a ⟨r,.field c x f,z,v,q,u⟩ k:=by
 simp only[rd]at b;split at b
 .rename_i h C;unfold Sr at b;split at b
  .rename_i N O L K;split at b
   .rename_i M P A;split at b
    .rename_i E B;cases d:E.yO
     .rw[d]at b;obtain⟨⟨G,t,I⟩,_⟩:=qL (i.Cd K);rw[tS,<-I,eu]at A;obtain⟨F,H,o⟩:=jI.1 A;simp only[RY]at o;obtain⟨rfl,rfl⟩:=o;have J:=λw=>nj i B d w;have m:=λw=>LN i B d w;have s:G[f]? =some F:=sp H;cases e:E.agg
      .simp only[e,zO]at b;split at b
       .rename_i y D;refine⟨_,_,b,qU,λw _=>?_⟩;rw[tS]at D;simp[execOp,Instr.field,l.eq C rfl,SV.v,run_underlying t,s,asAgg,part,m,e,D]
       .exact b.elim
      .simp only[e,zO,po]at b;refine⟨_,_,b,qU,λw _=>?_⟩;simp[execOp,Instr.field,l.eq C rfl,SV.v,run_underlying t,s,asAgg,part,m,e,J,List.map_drop,List.map_take]
     .rw[d]at b;exact b.elim
    .exact b.elim
   .exact b.elim
  .exact b.elim
 .exact b.elim
def Ny(l:yE g T)(i:mr n j a)(h:rd T j p k (.indexAddr c x y)):sV g T j p a ⟨r,.indexAddr c x y,z,v,q,u⟩ k:=by
 simp only[rd]at h;split at h
 .rename_i F J D E;unfold acR at h;split at h
  .rename_i e L H B;split at h
   .rename_i G t;cases f:G.yO
    .rw[f]at h;obtain⟨m,d,s⟩:=h;have C:=(na (l.Cd B)).1;have A:=λw=>nj l t f w;cases F with
     |nil=>simp[N.len]at d;omega
     |Dx _ _ _=>simp[N.len]at d;omega
     |mk b o K I=>
      refine⟨_,_,s,qU,λw _=>?_⟩;simp only[N.len]at d;simp[execOp,Instr.indexAt,i.eq D rfl,i.eq E rfl,SV.v,Ce.v,N.v,asIntOf,run_underlying C,m,d,A,zS,N.bq,N.off]
    .rw[f]at h;exact h.elim
   .exact h.elim
  .exact h.elim
 .exact h.elim
def Uk:∀(c:aB)(b o j:Nat)(k:ae->Prop),ldC p b o j c k->∃h,k h/\h.length=c.length/\∀i,i<c.length->aR p b (o+j+i)=(h[i]?).map Ce.v
 |[],_,_,_,_,a=>⟨[],a,rfl,λi d=>by simp at d⟩
 |s::r,b,o,j,k,a=>by
  obtain⟨x,l,a⟩:=a;obtain⟨h,e,f,g⟩:=Uk r b o (j+1) _ a;refine⟨s.mk x::h,e,by simp[f],λi d=>?_⟩;grind
def qx(A:yE g T)(H:a.eval x=.pointer (some ⟨b,o,none⟩)){e:TI}(G:ji T c=some e)(F:e.yO=false)
 (J:∀d,d<e.sh.length->(b,o+d)∈YF T j (.load c x))(D:h.length=e.sh.length)(K:∀t,t<e.sh.length->aR p b (o+t)=(h[t]?).map Ce.v)
 {s:SV}(N:(e.agg=true/\s.v=.agg (h.map Ce.v).toArray)\/(e.agg=false/\∃l,h=[l]/\s.v=l.v))(M:k s):
 sV g T j p a ⟨r,.load c x,z,v,q,u⟩ k:=by
 refine⟨s,s.v,M,qU,λi Q=>?_⟩
 have O:=nj A G F i
 have B:=LN A G F i
 have C:∀d,d<e.sh.length->aR i.heap b (o+d)=(h[d]?).map Ce.v:=λd f=>by rw[Q (b,o+d) (J d f),K d f]
 rcases N with⟨m,n⟩|⟨m,l,n,I⟩
 .have E:=run_loadCells_list (P:=g) (w:=i) ⟨b,o,none⟩ (h.map Ce.v) (λd R f=>by
   rw[zS,DN];have L:d<e.sh.length:=by
    rcases eJ d e.sh.length with y|y
    .exact y
    .rw[kX fj]at f;simp at f
   rw[C d L,<-eu,f])
  simp only[jq]at E
  simp only[execOp,Instr.loadAt,H,Instr.sureAddr,loadVar,eA,iv,B,m,dw,O,vE]
  simp[<-D,E,n]
 .subst n
  have y:=C 0 (by rw[<-D];simp)
  simp at y
  simp only[execOp,Instr.loadAt,H,Instr.sureAddr,loadVar,eA,iv,B,m,dw]
  simp[DN,y,I]
def MR(C:yE g T)(H:mr n j a)(D:a.eval x=.pointer (some ⟨b,o,none⟩))
 (B:∀d f,ji T c=some d->f<d.sh.length->(b,o+f)∈YF T j (.load c x))(i:Um T p c b o k):sV g T j p a ⟨r,.load c x,z,v,q,u⟩ k:=by
 unfold Um at i
 split at i
 .rename_i I J F d
  obtain⟨h,w,G,E⟩:=Uk _ _ _ _ _ i
  exact qx C D d rfl (λf t=>B _ f d t) G (λA m=>by simpa using E A m) (s:=.agg h) (bu ⟨rfl,rfl⟩) w
 .rename_i G F d
  obtain⟨y,E,w⟩:=i
  exact qx C D d rfl (λf t=>B _ f d t) (h:=[G.mk y]) rfl (λA m=>by
   have:A=0:=sp m;subst this;exact E) (s:=.c (G.mk y)) (bG ⟨rfl,_,rfl,rfl⟩) w
 .rename_i e G F d
  obtain⟨y,E,w⟩:=i
  exact qx C D d rfl (λf t=>B _ f d t) (h:=[.s y]) rfl (λA m=>by
   have:A=0:=sp m;subst this;exact E) (s:=.c (.s y)) (bG ⟨rfl,_,rfl,rfl⟩) w
 .exact i.elim
def QA:∀{b:ae}{c o:Nat}{h:ae},KY b o c=some h->h.length=c/\∀i,i<c->b[o+i]? =h[i]?
 |b,0,o,h,a=>by simp[KY]at a;subst a;simp
 |b,c+1,o,h,a=>by
  simp only[KY]at a;split at a
  .rename_i e r j d;simp at a;subst a;obtain⟨f,g⟩:=QA d;constructor<;>grind [tS]
  .simp at a
def MQ(C:yE g T)(K:mr n j a){e:Nat}{G:ae}(E:a.eval x=.pointer (some ⟨b,o,none⟩))
 (B:∀d m,ji T c=some d->m<d.sh.length->(b,o+m)∈YF T j (.load c x))(H:p[b]? =some (.cells (G.map Ce.v).toArray e))(d:Rx T c G o k):
 sV g T j p a ⟨r,.load c x,z,v,q,u⟩ k:=by
 have D:∀i,aR p b i=(G[i]?).map Ce.v:=λi=>by simp[aR,H]
 unfold Rx at d
 split at d
 .rename_i J L F f
  split at d
  .rename_i h I
   obtain⟨t,w⟩:=QA I
   exact qx C E f rfl (λm A=>B _ m f A) t (λi y=>by rw[D,w i y]) (s:=.agg h) (bu ⟨rfl,rfl⟩) d
  .exact d.elim
 .rename_i I F f
  split at d
  .rename_i t w
   rw[tS]at w
   exact qx C E f rfl (λm A=>B _ m f A) (h:=[t]) rfl (λi y=>by
    have:i=0:=sp y;subst this;rw[D];simp[w]) (s:=.c t) (bG ⟨rfl,_,rfl,rfl⟩) d
  .exact d.elim
 .rename_i e I F f
  split at d
  .rename_i t w
   rw[tS]at w
   exact qx C E f rfl (λm A=>B _ m f A) (h:=[t]) rfl (λi y=>by
    have:i=0:=sp y;subst this;rw[D];simp[w]) (s:=.c t) (bG ⟨rfl,_,rfl,rfl⟩) d
  .exact d.elim
 .rename_i L J I F f
  split at d
  .rename_i t w
   rw[tS]at w
   exact qx C E f rfl (λm A=>B _ m f A) (h:=[t]) rfl (λi y=>by
    have:i=0:=sp y;subst this;rw[D];simp[w]) (s:=.c t) (bG ⟨rfl,_,rfl,rfl⟩) d
  .exact d.elim
 .exact d.elim
def VO(l:yE g T)(d:mr n j a)(B:Bx n j p)(h:rd T j p k (.load c x)):sV g T j p a ⟨r,.load c x,z,v,q,u⟩ k:=by
 simp only[rd]at h;split at h
 .rename_i b o f;exact MR l d (d.eq f rfl) (λm i A y=>by simp only[YF,f,A];exact fu.2 ⟨i,qQ.2 y,rfl⟩) h
 .rename_i C b o f;have t:∀m i,ji T c=some m->i<m.sh.length->(b,o+i)∈YF T j (.load c x):=λm i A y=>by simp only[YF,f,A];exact fu.2 ⟨i,qQ.2 y,rfl⟩
  split at h
  .rename_i D e s w;obtain⟨rfl,h⟩:=h;exact MQ l d (d.eq f rfl) t (B.bq C _ e s (bu w)) h
  .rename_i D e s w;obtain⟨rfl,h⟩:=h;exact MQ l d (d.eq f rfl) t (B.bq C _ e s (bG w)) h
  .exact MR l d (d.eq f rfl) t h
 .exact h.elim
end
end Go.Vc
end
section
namespace Go.Vc
variable{x:Operand}{t:TypeId}
variable{P:Program}{T:TT}
section
variable{n:Nat}{b:Fr}{a:Act}{m:E}{k:SV->Prop}{d:Option Tmp}{g:TypeId}{f:String}{c:Array Edge}{e:Option (Nat×Bool)}
def QZ(l:mr n b a){j:Nat}(h:rd T b m k (.extract x j)):sV P T b m a ⟨d,.extract x j,g,f,c,e⟩ k:=by
 simp only[rd]at h;split at h
 .rename_i p o;split at h
  .rename_i y i;refine⟨_,_,h,qU,λw _=>?_⟩;rw[tS]at i;rw[AV.afd];have:a.eval x=.tuple (p.map AV.v).toArray:=l.eq o rfl;simp[execOp,Instr.extract,this,i]
  .exact h.elim
 .exact h.elim
def RJ(c:mr n b a){x:Option Operand}{d:Int}{k:Int->Prop}(h:Q3 b x d k):
 (x=none/\k d)\/∃y i,x=some y/\a.eval y=.int .i64 i/\k i:=by
 unfold Q3 at h
 split at h
 .exact bu ⟨rfl,h⟩
 .rename_i y
  split at h
  .rename_i i e
   exact bG ⟨y,i,rfl,c.eq e rfl,h⟩
  .exact h.elim
def tW{k:IntKind}{i:Int}{y:Nat}{c:BoundsCode}(a:0<=i)(b:i<=y)(w:World):(Instr.sliceBound (.int k i) y c).run P w=.ok i.toNat w:=by
 simp[Instr.sliceBound,asIntOf,a,b]
def ads(b o l c a d e:Nat):(N.cut (.mk b o l c) a d e).v=.slice (if c=a then some ⟨b,o,none⟩else(some (⟨b,o,none⟩:Addr)).map (·.add (a*e))) (d -a) (c -a):=by
 show Value.slice _ _ _=_;grind [zS]
def Ug(J:yE P T)(r:mr n b a){A y:Option Operand}(i:rd T b m k (.slice t x A y none)):sV P T b m a ⟨d,.slice t x A y none,g,f,c,e⟩ k:=by
 simp only[rd]at i;split at i
 .rename_i s G;unfold Wm at i;split at i
  .rename_i v O M L;split at i
   .rename_i B K;cases D:B.yO
    .rw[D]at i;have F:=(na (J.Cd L)).1;have E:=λw=>nj J K D w;have z:∀(l h:Int),0<=l->l<=h->h<=(s.cap:Int)->
      (∀w:World,(Instr.sliceBounds true s.len s.cap (A.map a.eval) (y.map a.eval) none).run P w=.ok (l.toNat,h.toNat,s.cap) w)->
      ∀w:World,(execOp a.eval ⟨d,.slice t x A y none,g,f,c,e⟩).run P w=.ok (.value (Ce.s (s.cut l.toNat h.toNat B.sh.length)).v) w:=by
      intro l h o p j q w
      cases s with
      |nil=>
       simp only[N.cap,N.len]at q j
       have:h=0:=V
       have:l=0:=V
       subst this;subst h
       simp[execOp,Instr.sliceAt,r.eq G rfl,SV.v,Ce.v,N.v,run_underlying F,Instr.slice,q,E,N.cut]
      |Dx u C sp=>
       simp only[N.cap,N.len]at q j
       have:h=0:=V
       have:l=0:=V
       subst this;subst h
       simp[execOp,Instr.sliceAt,r.eq G rfl,SV.v,Ce.v,N.v,run_underlying F,Instr.slice,q,E,N.cut]
      |mk u I H C=>
       simp only[N.cap,N.len]at q
       have v:(Ce.s ((N.mk u I H C).cut l.toNat h.toNat B.sh.length)).v=_:=ads u I H C l.toNat h.toNat B.sh.length
       rw[v]
       have:a.eval x=.slice (some ⟨u,I,none⟩) H C:=r.eq G rfl
       simp[execOp,Instr.sliceAt,this,run_underlying F,Instr.slice,q,E]
     simp only[zO]at i;rcases RJ r i with⟨rfl,C⟩|⟨Q,l,rfl,H,C⟩<;>rcases RJ r C with⟨rfl,o,p,j,u⟩|⟨R,h,rfl,I,o,p,j,u⟩
     .exact⟨_,_,u,qU,λw _=>z _ _ o p j (λw=>by simp[Instr.sliceBounds]) w⟩
     .exact⟨_,_,u,qU,λw _=>z _ _ o p j (λw=>by simp[Instr.sliceBounds,I,tW (by omega:0<=h) j]) w⟩
     .exact⟨_,_,u,qU,λw _=>z _ _ o p j (λw=>by simp[Instr.sliceBounds,H,tW o p]) w⟩
     .exact⟨_,_,u,qU,λw _=>z _ _ o p j (λw=>by
       have v:l<=(h.toNat:Int):=V;simp[Instr.sliceBounds,I,H,tW (by omega:0<=h) j,tW o v]) w⟩
    .rw[D]at i;exact i.elim
   .exact i.elim
  .exact i.elim
 .exact i.elim
def OX(s:yE P T)(o:mr n b a)(m:ao)(jB:Nat->Option (Nat×Nat))
 (q:∀i d t e,LA m i=some (d,t)->ji T t=some e->e.yO=false->jB i=some (d,e.sh.length)):
 ∀(r:aG)(c:ae)(k:ae->Prop),JM T b m c r k->
  ∃l,k l/\Instr.fill jB (c.map Ce.v).toArray (r.map λp=>(p.1,a.eval p.2))=some (l.map Ce.v).toArray
 |[],c,k,h=>⟨c,h,rfl⟩
 |(i,x)::F,c,k,h=>by
  simp only[JM]at h;split at h
  .rename_i d t f B A;split at h
   .rename_i e C;cases g:(!e.yO&&Nat.beq f.length e.sh.length&&Nat.ble (d+f.length) c.length)
    .grind
    .rw[g]at h;simp only[eX,xX]at g;obtain⟨⟨u,j⟩,p⟩:=g;have j:=gB j;have p:=oN p;obtain⟨l,w,z⟩:=OX s o m jB q F (qE c d f) k h;refine⟨l,w,?_⟩;obtain⟨y,v⟩:=tF A;have D:a.eval x=(ev b x).v:=o.eq rfl y;simp only[eI,Instr.fill,q i d t e B C u,D,v,List.size_toArray,jq,j];rw[aU cG,<-z];congr 1;apply FI;intro E;have G:=RF (f.map Ce.v) 0 d (c.map Ce.v).toArray E;grind [Array.toList_zipIdx,Ga,List.map,Ce.v,qE,Option.map]
   .exact h.elim
  .exact h.elim
def szT(T:TT)(t:Nat):Nat:=match ji T t with|some a=>a.sh.length|none=>0
def MZ(c:yE P T)(w:World):∀(a:afq),(∀f∈a,∃b,ji T f.type=some b/\b.yO=false)->
 (a.mapM (λf=>do pure (f.offset,<-sizeOf f.type):Field->Sem (Nat×Nat))).run P w=.ok (a.map λf=>(f.offset,szT T f.type)) w
 |[],_=>bO
 |f::a,h=>by
  obtain⟨b,d,j⟩:=h f bO;have e:=MZ c w a (λg i=>h g (by simp[i]));simp only[List.mapM_cons,eA,nj c d j,dw,iv]at e⊢;rw[e];simp[szT,d]
def Nb:∀{b:ao},zy T b=true->∀p∈b,∃c,ji T p.2=some c/\c.yO=false
 |[],_,_,h=>by simp at h
 |(o,t)::r,h,p,a=>by
  simp only[zy,eX]at h;rcases aY.1 a with rfl|a
  .grind
  .exact Nb h.2 p a
def Ue(l:yE P T)(z:mr n b a){o:Array (Nat×Operand)}(i:rd T b m k (.build t o)):sV P T b m a ⟨d,.build t o,g,f,c,e⟩ k:=by
 simp only[rd]at i;split at i
 .rename_i y K M v;cases q:zy T y
  .rw[q]at i;exact i.elim
  rw[q]at i;obtain⟨⟨j,D,s⟩,_⟩:=qL (l.Cd v);obtain⟨L,I,J,Q⟩:=Ap l v rfl;have A:∀h∈j.toList,∃r,ji T h.type=some r/\r.yO=false:=λh B=>
   Nb q (h.offset,h.type) (by rw[<-s];exact fu.2 ⟨h,B,rfl⟩)
  have G:∀w:World,(j.mapM (λh=>do pure (h.offset,<-sizeOf h.type):Field->Sem (Nat×Nat))).run P w=.ok (j.toList.map λh=>(h.offset,szT T h.type)).toArray w:=by
   intro w;rw[aab,Sem.run_map,MZ l w j.toList A];rfl
  obtain⟨R,E,F⟩:=OX l z y (λx=>((j.toList.map λh=>(h.offset,szT T h.type)).toArray)[x]?) (λx S t r u H O=>by
   rw[tS,<-s,eu]at u;obtain⟨N,C,p⟩:=jI.1 u;simp only[RY]at p;obtain⟨rfl,rfl⟩:=p;simp only[sQ,eu,C,rZ,szT,H]) _ _ _ i
  refine⟨_,_,E,qU,λw _=>?_⟩;have u:L.cells=((K.map Sh.zero).map Ce.v).toArray:=by
   apply mU.1;simp[I]
  have C:(o.map λp=>(p.1,a.eval p.2)).toList=o.toList.map λp=>(p.1,a.eval p.2):=bO;simp only[execOp,Instr.build,eA,J,dw,run_underlying D,G,u,C,F];simp[SV.v]
 .exact i.elim
def FX(d:mr n b a):∀{c:aE},c.all (λx=>(ev b x).mJ)=true->c.map a.eval=c.map λx=>(ev b x).v
 |[],_=>rfl
 |x::c,h=>by
  simp only[RX,eX]at h;simp only[eI,d.eq rfl h.1,FX d h.2]
def QX(v:yE P T)(l:mr n b a){s:Builtin}{i:Array Operand}{r:Array TypeId}(h:rd T b m k (.call ⟨.builtin s,i,r⟩)):
 sV P T b m a ⟨d,.call ⟨.builtin s,i,r⟩,g,f,c,e⟩ k:=by
 simp only[rd]at h
 unfold YY at h
 split at h
 .rename_i t x z p
  split at h
  .rename_i D E C q y o
   refine⟨_,_,h,qU,λw _=>?_⟩
   have A:=(na (v.Cd y)).1
   have u:r=#[t]:=mU.1 (sp z)
   have j:i=#[x]:=mU.1 (sp p)
   subst u;subst j
   have B:a.eval x=q.v:=l.eq o rfl
   cases q<;>simp[execOp,resolve,invoke,builtin,Builtin.len_,run_underlying A,B,N.v,goInt,SV.v,Ce.v,N.len]
  .exact h.elim
 .rename_i x y p
  split at h
  .rename_i u z o q
   refine⟨_,_,h,qU,λw _=>?_⟩
   have j:i=#[x,y]:=mU.1 (sp p)
   subst j
   simp[execOp,resolve,invoke,builtin,Builtin.max_,Builtin.max2,l.eq o rfl,l.eq q rfl,SV.v,Ce.v]
  .exact h.elim
 .rename_i x y p
  split at h
  .rename_i u z o q
   refine⟨_,_,h,qU,λw _=>?_⟩
   have j:i=#[x,y]:=mU.1 (sp p)
   subst j
   simp[execOp,resolve,invoke,builtin,Builtin.min_,Builtin.min2,l.eq o rfl,l.eq q rfl,SV.v,Ce.v]
  .exact h.elim
 .exact h.elim
def PQ(j:yE P T)(i:mr n b a)(s:Bx n b m)(o:Oper)(h:rd T b m k o.op):sV P T b m a o k:=by
 obtain⟨d,l,g,f,c,e⟩:=o;cases l with
 |move x=>exact Zl i h
 |assign x=>exact Yc i h
 |pick p x y=>exact VP i h
 |nilCheck x=>exact Pg i h
 |binOp l t x y q=>exact Ud j i h
 |unOp l t x=>exact VQ i h
 |convert q t x=>exact QY j i h
 |fieldAddr t x q=>exact Nx j i h
 |field t x q=>exact Uf j i h
 |indexAddr t x y=>exact Ny j i h
 |load t x=>exact VO j i s h
 |extract x r=>exact QZ i h
 |slice t x u r mx=>cases mx with
  |none=>exact Ug j i h
  |some y=>exact h.elim
 |build t r=>exact Ue j i h
 |call p=>
  obtain⟨r,u,w⟩:=p;cases r with
  |builtin v=>exact QX j i h
  |value q=>exact h.elim
  |invoke v q=>exact h.elim
 |_=>exact h.elim
end
end Go.Vc
end
section
namespace Go.Vc
variable{v:Value}{m a:E}{b o e n q:Nat}{l:ae}{x:SV}
def aV(m:E)(b o:Nat):ae->E
 |[]=>m
 |c::r=>aV (vt m b o c.v) b (o+1) r
def iQ(m:E)(b o n:Nat):Prop:=∀j,j<n->(aR m b (o+j)).isSome=true/\CL m b (o+j)=false
def jt(m:E)(b o:Nat)(l:ae):Prop:=∀(i:Nat)(c:Ce),l[i]? =some c->aR m b (o+i)=some c.v
def ng(a:ae)(n:Nat):ae:=(List.replicate n a).flatten
def de(l:ae):Array Value:=(l.map Ce.v).toArray
def Wh(m:E)(b o:Nat)(v:Value):(vt m b o v).size=m.size:=by simp[vt]
theorem P5(m:E)(b o:Nat){j:Nat}(h:j≠b):(vt m b o v)[j]? =m[j]? :=by
 grind [vt]
theorem bD:∀(l:ae)(m:E)(b o:Nat),(aV m b o l).size=m.size
 |[],_,_,_=>rfl
 |c::r,m,b,o=>by simp only[aV];rw[bD r,Wh]
theorem cg:∀(l:ae)(m:E)(b o:Nat){j:Nat},j≠b->(aV m b o l)[j]? =m[j]?
 |[],_,_,_,_,_=>rfl
 |c::r,m,b,o,j,h=>by simp only[aV];rw[cg r _ _ _ h,P5 m b o h]
theorem qv(h:aR m b o=some v):b<m.size:=by
 grind [Nat.lt_or_ge,Array.size,aR,Array.getElem?_eq_none]
theorem bB(h:a[b]? =m[b]?)(o:Nat):aR a b o=aR m b o:=by simp only[aR,h]
def dJ(m:E)(b:Nat)(e:Nat)(l:ae):Prop:=m[b]? =some (.cells (de l) e)
theorem Z0(l:ae)(i:Nat):(de l)[i]? =(l[i]?).map Ce.v:=by simp[de]
def dJ.dz(h:dJ m b e l)(o:Nat):aR m b o=(l[o]?).map Ce.v:=by
 have a:m[b]? =some (.cells (de l) e (0,0)):=h;grind [aR,Z0]
def dJ.kV(h:dJ m b e l):jt m b 0 l:=λi c a=>by rw[h.dz,fB,a];rfl
theorem dJ.lt(h:dJ m b e l):b<m.size:=(gN.1 h).1
theorem dJ.CL{m:E}{b e:Nat}{l:ae}(h:dJ m b e l){o:Nat}:CL m b o=false:=by
 have a:m[b]? =some (.cells (de l) e (0,0)):=h;simp[Vc.CL,a]
theorem dJ.iQ(h:dJ m b e l)(c:o+n<=l.length):iQ m b o n:=λj a=>by
 refine⟨?_,h.CL⟩;rw[h.dz];simp;omega
theorem dJ.push(m:E)(l:ae)(e:Nat):dJ (m.push (.cells (de l) e)) m.size e l:=by simp[dJ]
theorem dJ.congr(c:dJ m b e l)(h:a[b]? =m[b]?):dJ a b e l:=by
 grind [dJ]
theorem dJ.vt{m:E}{b e:Nat}{l:ae}(h:dJ m b e l)(o:Nat)(c:Ce):dJ (vt m b o c.v) b e (l.set o c):=by
 have a:m[b]? =some (.cells (de l) e (0,0)):=h;have d:=h.lt;simp only[dJ,Vc.vt,Array.getElem?_modify,vE,a,rZ];congr 2;grind [de,List.size_toArray,List.length_map,List.length]
def jh(l:ae)(o:Nat):ae->ae
 |[]=>l
 |c::r=>jh (l.set o c) (o+1) r
theorem mg:∀(r l:ae)(o:Nat),(jh l o r).length=l.length
 |[],_,_=>rfl
 |c::r,l,o=>by simp only[jh];rw[mg r];simp
theorem Ey:∀(r l:ae)(o i:Nat),(jh l o r)[i]? =if o<=i/\i<o+r.length/\i<l.length then r[i -o]? else l[i]?
 |[],l,o,i=>by simp[jh];intro h;omega
 |c::r,l,o,i=>by
  simp only[jh];rw[Ey r,HZ];grind [List.length_set,List.length_cons,List.length,List.getElem?_cons_succ]
def dJ.aV{m:E}{b e:Nat}:∀{r l:ae}{m:E}{o:Nat},dJ m b e l->dJ (aV m b o r) b e (jh l o r)
 |[],_,_,_,h=>h
 |c::r,l,m,o,h=>by
  simp only[Vc.aV,jh];exact dJ.aV (m:=m) (h.vt o c)
def Bl(t:Nat):ad->Bool
 |[]=>false
 |u::r=>Nat.beq u t||Bl t r
theorem Lv{t:Nat}:∀{M:ad},Bl t M=true->t∈M
 |[],h=>by simp[Bl]at h
 |u::r,h=>by
  simp only[Bl,eD]at h;rcases h with h|h
  .grind [Nat.eq_of_beq_eq_true,List.mem_cons_self]
  .exact aW _ (Lv h)
def QN(n:Nat):Fr->ad->ad
 |[],_=>[]
 |(q,x)::r,a=>bif Nat.ble n q&&!Bl q a then
  match x with
  | .box b _ _=>b::QN n r (q::a)
  | .DK b _ _=>b::QN n r (q::a)
  |_=>QN n r (q::a)
  else QN n r a
def gL(l:ad)(m a:E):Prop:=∀b∈l,a[b]? =m[b]?
def Ev(l:ad)(m a:E)(k:Prop):Prop:=
 match l with
 |[]=>k
 |_=>gL l m a/\k
def pH{l:ad}{k:Prop}(h:Ev l m a k):gL l m a/\k:=by
 unfold Ev at h;split at h
 .exact⟨(λb c=>by cases c),h⟩
 .exact h
def K8{n:Nat}{q b e:Nat}{l:ae}(d:n<=q):∀{g:Fr}{a:ad},q∉a->oQ g q b e l->b∈QN n g a
 |[],a,_,h=>by rcases h with h|h<;>simp[km]at h
 |(u,x)::r,a,i,h=>by
  simp only[QN];cases j:Nat.beq u q
  .have k:u≠q:=λe=>by subst e;simp at j
   have c:oQ r q b e l:=by
    grind [oQ,km]
   have f:q∉u::a:=by
    grind
   cases(Nat.ble n u&&!Bl u a)
   .exact K8 d i c
   .simp only[po];split
    .exact aW _ (K8 d f c)
    .exact aW _ (K8 d f c)
    .exact K8 d f c
  .grind [Nat.eq_of_beq_eq_true,Bl,Lv,Nat.ble,Nat.ble_eq_true_of_le,Bool.not_false,Bool.and_self,oQ,km,List.mem_cons_self]
theorem Bx.jz{a:Fr}(h:Bx n a m)(r:∀b e l,x≠.box b e l/\x≠.DK b e l):Bx n ((q,x)::a) m:=by
 have c:∀{u b e l},oQ ((q,x)::a) u b e l->oQ a u b e l:=by
  grind [oQ,km,Nat.beq]
 exact⟨λq b e l d=>h.bq q b e l (c d),λq p b e l f g o k i j=>h.VA q p b e l f g o k (c i) (c j),λq b e l d=>h.MW q b e l (c d)⟩
def SV.adP(x:SV)(b e:Nat)(l:ae):x.nb≠.box b e l/\x.nb≠.DK b e l:=by
 cases x<;>exact⟨by simp[SV.nb],by simp[SV.nb]⟩
def Bx.cB{a:Fr}(h:Bx n a m){d:Option Nat}:Bx n (yg a d x) m:=by
 cases d with
 |none=>exact h
 |some d=>exact h.jz (SV.adP x)
def Bx.fq{c:Fr}(h:Bx n c m)(f:gL (QN n c []) m a):Bx n c a:=
 ⟨λq b e l d=>by rw[f b (K8 (h.MW q b e l d) bO d)];exact h.bq q b e l d,h.VA,h.MW⟩
def Bx.push{a:Fr}(h:Bx n a m)(o:Obj):Bx n a (m.push o):=
 ⟨λq b e l d=>by
  have c:=h.bq q b e l d;have f:=(gN.1 c).1;rw[uR,aU V];exact c,h.VA,h.MW⟩
def Bx.bI{c:Fr}(h:Bx n c m)(i:n<=q)(t:Nat)(l:ae):Bx n ((q,.box m.size t l)::c) (m.push (.cells (de l) t)):=by
 have g:=h.push (.cells (de l) t);have k:∀{u b e l},oQ c u b e l->b<m.size:=λa=>(gN.1 (h.bq _ _ _ _ a)).1;have j:∀{u b e d},oQ ((q,.box m.size t l)::c) u b e d->(u=q/\b=m.size/\e=t/\d=l)\/(u≠q/\oQ c u b e d):=by
  intro u b e d a;unfold oQ at a⊢;simp only[km]at a;cases f:Nat.beq q u
  .rw[f]at a;exact bG ⟨λe=>by subst e;simp at f,a⟩
  .grind [Nat.eq_of_beq_eq_true]
 constructor<;>grind [de,Bx.bq,Bx.VA,Bx.MW]
def Bx.p7{g:Fr}(j:Bx n g m){c:ae}(r:km g q=.box b e c)(o:Nat)(l:ae):Bx n ((q,.box b e (jh c o l))::g) (aV m b o l):=by
 have p:oQ g q b e c:=bu r;have k:dJ m b e c:=j.bq q b e c p;have s:∀{u d f h},oQ ((q,.box b e (jh c o l))::g) u d f h->(u=q/\d=b/\f=e/\h=jh c o l)\/(u≠q/\oQ g u d f h):=by
  intro u d f h a;unfold oQ at a⊢;simp only[km]at a;cases i:Nat.beq q u
  .rw[i]at a;exact bG ⟨λe=>by subst e;simp at i,a⟩
  .grind [Nat.eq_of_beq_eq_true]
 refine⟨λu d f h a=>?_,λu B b1 t z b2 v A y w x=>?_,λu d f h a=>?_⟩
 .rcases s a with⟨rfl,rfl,rfl,rfl⟩|⟨i,a⟩
  .exact dJ.aV (m:=m) k
  grind [cg,Bx.VA,Bx.bq]
 .grind [Bx.VA]
 .grind [Bx.MW]
def JQ(a:Fr):ae->Option Fr
 |[]=>some a
 | .bp q _ _::r=>match km a q with
  | .DK _ _ _=>none
  |_=>JQ ((q,.jz)::a) r
 |_::r=>JQ a r
def AV.ces:AV->ae
 | .c x=>[x]
 | .agg l=>l
def SV.ces:SV->ae
 | .c x=>[x]
 | .agg l=>l
 | .tup l=>l.flatMap AV.ces
 |_=>[]
def Zi(a:Fr)(l:aC):Option Fr:=JQ a (l.flatMap SV.ces)
def uE{n:Nat}{f:Act}{m:E}:∀{l:ae}{a c:Fr},JQ a l=some c->mr n a f->Bx n a m->mr n c f/\Bx n c m
 |[],a,c,h,e,d=>by simp[JQ]at h;subst h;exact⟨e,d⟩
 |g::r,a,c,h,e,d=>by
  cases g with
  |bp q b o=>
   simp only[JQ]at h;split at h
   .simp at h
   .exact uE h (e.jz q) (d.jz bO)
  |_=>exact uE (l:=r) (by simpa[JQ]using h) e d
end Go.Vc
end
section
namespace Go.Vc
variable{P:Program}{T:TT}
def SF(m:E)(k:E->Prop):Prop:=k m
def lS(m:E)(f:Nat)(b:ae)(e:Nat)(s x:N)(k:N->E->Prop):Prop:=
 ∃a:ae,a.length=x.len*b.length/\jt m x.bq x.off a/\
  (s.len+x.len<=s.cap->iQ m s.bq (s.off+s.len*b.length) a.length/\
   k (match s with| .nil=>.nil| .mk d o l c=>.mk d o (l+x.len) c| .Dx d o sp=>.Dx d o sp) (aV m s.bq (s.off+s.len*b.length) a))/\
  (s.cap<s.len+x.len->(s.len+x.len)*e<=140737488355328/\∃old:ae,old.length=s.len*b.length/\jt m s.bq s.off old/\
   ∀c,s.len+x.len<=c->k (.mk m.size 0 (s.len+x.len) c) (m.push (.cells (de (old++a++ng b (c -(s.len+x.len)))) f)))
def acK(m:E)(c:Nat)(s x:N)(k:SV->E->Prop):Prop:=
 ∃a:ae,a.length=Nat.min x.len s.len*c/\jt m x.bq x.off a/\iQ m s.bq s.off a.length/\
  SF (aV m s.bq s.off a) λb=>k (.c (.i (Nat.min x.len s.len:Nat))) b
def exC:aB->(ae->Prop)->Prop
 |[],k=>k []
 |s::r,k=>∃x:s.ty,exC r λl=>k (s.mk x::l)
def Ya(T:TT):ad->(aH->Prop)->Prop
 |[],k=>k []
 |t::r,k=>match ji T t with
  |some ⟨.struct _,b,_⟩=>exC b λl=>Ya T r λa=>k (.agg l::a)
  |some ⟨.cell,[s],_⟩=>∃x:s.ty,Ya T r λa=>k (.c (s.mk x)::a)
  |some ⟨.slice _,[_],_⟩=>∃x:N,Ya T r λa=>k (.c (.s x)::a)
  |_=>False
def Uu(T:TT)(t:Nat)(v:Value)(k:SV->Prop):Prop:=
 match ji T t with
 |some ⟨.tuple [],_,_⟩=>k .jz
 |some ⟨.tuple a,_,_⟩=>Ya T a λl=>v=.tuple (l.map AV.v).toArray/\k (.tup l)
 |some ⟨.struct _,a,_⟩=>exC a λl=>v=.agg (l.map Ce.v).toArray/\k (.agg l)
 |some ⟨.cell,[s],_⟩=>∃x:s.ty,v=(s.mk x).v/\k (.c (s.mk x))
 |some ⟨.slice _,[_],_⟩=>∃x:N,v=x.v/\k (.c (.s x))
 |_=>False
def Y1(P:Program)(T:TT)(G:ad)(n:Nat)(a:Fr)(m:E)(e:Nat)(h:Operand)(b:aE)(k:Fr->SV->E->Prop):Prop:=
 match Zi a (b.map (ev a))with
 |none=>False
 |some d=>match ev a h with
  | .c (.fn (.func g) first f)=>bif G.elem g&&b.all (λx=>(ev a x).mJ)then
   bJ P g (first.toList++(b.map λx=>(ev a x).v)++f.toList) m λv c=>Ev (QN n d []) m c (Uu T e v λx=>k d x c)
   else False
  | .c (.fv q)=>bif b.all (λx=>(ev a x).mJ)then
   ∃g,q.1=.func g/\G.elem g=true/\bJ P g (q.2.1.toList++(b.map λx=>(ev a x).v)++q.2.2.toList) m λv c=>Ev (QN n d []) m c (Uu T e v λx=>k d x c)
   else False
  |_=>False
def HL(m:E)(b:Nat)(l:aD):Prop:=
 ∃a c,m[b]? =some (.map a c)/\a.toList.map (λe=>(e.key,e.val))=l.map λp=>(Value.int .i64 p.1,Value.int .i64 p.2)
def zt(l:aD)(k:Int):Int:=
 match l with
 |[]=>0
 |(j,v)::r=>if k=j then v else zt r k
def ND(l:aD)(k v:Int):aD:=
 match l with
 |[]=>[(k,v)]
 |(j,u)::r=>if k=j then(j,v)::r else(j,u)::ND r k v
def Bp(T:TT)(d:Fr)(b:Nat):ae->aG->(ae->Prop)->Prop
 |a,[],k=>k a
 |a,(i,x)::r,k=>
  match(ev d x).cells with
  |some c=>bif Nat.beq c.length b&&Nat.ble (i*b+c.length) a.length then Bp T d b (qE a (i*b) c) r k else False
  |none=>False
def Yg(n:Nat)(b:Fr)(d:Option Nat)(m:E)(t:Nat)(l:ae)(k:Fr->SV->E->Prop):Prop:=
 match d with
 |some a=>match km b (n+a)with
  | .DK _ _ _=>False
  |_=>SF (m.push (.cells (de l) t)) λc=>k ((n+a,.box m.size t l)::b) (.c (.bp (n+a) m.size 0)) c
 |none=>SF (m.push (.cells (de l) t)) λc=>k b (.c (.p m.size 0)) c
def Ti(n:Nat)(c:Fr)(m:E)(x:SV)(l:ae)(k:Fr->SV->E->Prop):Prop:=
 match x with
 | .c (.p b o)=>iQ m b o l.length/\SF (aV m b o l) λa=>Ev (QN n c []) m a (k c .un a)
 | .c (.bp q b o)=>match km c q with
  | .box d f e=>bif Nat.ble (o+l.length) e.length then Oq d b (SF (aV m b o l) λa=>k ((q,.box d f (jh e o l))::c) .un a)else False
  | .DK _ _ _=>False
  |_=>iQ m b o l.length/\SF (aV m b o l) λa=>Ev (QN n c []) m a (k c .un a)
 |_=>False
def wr(P:Program)(T:TT)(G:ad)(n:Nat)(a:Fr)(m:E)(h:Option Nat)(o:Nat)(k:Fr->SV->E->Prop):Op->Prop
 | .alloc t=>match ji T t with
  |some f=>bif f.yO then False else Yg n a h m t (f.sh.map Sh.zero) k
  |none=>False
 | .box t x=>match(ev a x).cells with
  |some l=>match JQ a l with
   |some d=>Yg n d h m t l k
   |none=>False
  |none=>False
 | .buildSlice t g i=>match ji T t with
  |some ⟨.slice e,_,_⟩=>match ji T e with
   |some c=>bif c.yO||!(Nat.ble (g*c.sh.length) 16777216)then False else
    Bp T a c.sh.length (ng (c.sh.map Sh.zero) g) i.toList λl=>match JQ a l with
     |some d=>SF (m.push (.cells (de l) e)) λb=>k d (.c (.s (.mk m.size 0 g g))) b
     |none=>False
   |none=>False
  |_=>False
 | .store t x y=>match(ev a y).cells,ji T t with
  |some l,some f=>bif f.yO||!(Nat.beq l.length f.sh.length)then False else match JQ a l with
   |some d=>Ti n d m (ev a x) l k
   |none=>False
  |_,_=>False
 | .makeSlice t x y=>match ji T t,ev a x,ev a y with
  |some ⟨.slice e,_,_⟩,.c (.i l),.c (.i f)=>match ji T e with
   |some c=>bif c.yO then False else 0<=l/\l<=f/\(c.bytes:Int)*f<=281474976710656/\f<=9223372036854775807/\
    SF (m.push (.cells (de (ng (c.sh.map Sh.zero) f.toNat)) e)) λb=>k a (.c (.s (.mk m.size 0 l.toNat f.toNat))) b
   |none=>False
  |_,_,_=>False
 | .makeFunc g first f=>bif first.toList.all (λx=>(ev a x).mJ)&&f.toList.all (λx=>(ev a x).mJ)then
  match Zi a (first.toList.map (ev a)++f.toList.map (ev a))with
  |some d=>k d (.c (.fn g (first.toList.map λx=>(ev a x).v).toArray (f.toList.map λx=>(ev a x).v).toArray)) m
  |none=>False
  else False
 | .makeMap _ none=>SF (m.push (.map #[] 0)) λb=>k a (.c (.mp m.size)) b
 | .lookup t x y false=>match ji T t,ev a x,ev a y with
  |some ⟨.map f g,_,_⟩,.c (.mp d),.c (.i n)=>match ji T f,ji T g with
   |some ⟨.cell,[.I],_⟩,some ⟨.cell,[.I],_⟩=>∃l,HL m d l/\k a (.c (.i (zt l n))) m
   |_,_=>False
  |_,_,_=>False
 | .mapUpdate t x y z=>match ji T t,ev a x,ev a y,ev a z with
  |some ⟨.map f _,_,_⟩,.c (.mp d),.c (.i g),.c (.i v)=>match ji T f with
   |some ⟨.cell,[.I],_⟩=>∃l,HL m d l/\∀b,HL b d (ND l g v)->b.size=m.size->(∀j,j≠d->b[j]? =m[j]?)->Ev (QN n a []) m b (k a .un b)
   |_=>False
  |_,_,_,_=>False
 | .call ⟨.value f,d,_⟩=>Y1 P T G n a m o f d.toList k
 | .call ⟨.builtin .append,d,f⟩=>match d.toList,f.toList with
  |[x,y],[t,u]=>match ji T t,ji T u,ev a x,ev a y with
   |some ⟨.slice e,_,_⟩,some ⟨.slice _,_,_⟩,.c (.s s),.c (.s z)=>match ji T e with
    |some c=>bif c.yO||Nat.beq c.bytes 0 then False else lS m e (c.sh.map Sh.zero) c.bytes s z λr b=>Ev (QN n a []) m b (k a (.c (.s r)) b)
    |none=>False
   |_,_,_,_=>False
  |_,_=>False
 | .call ⟨.builtin .copy,d,f⟩=>match d.toList,f.toList with
  |[x,y],t::_=>match ji T t,ev a x,ev a y with
   |some ⟨.slice e,_,_⟩,.c (.s s),.c (.s z)=>match ji T e with
    |some c=>bif c.yO then False else acK m c.sh.length s z λx b=>Ev (QN n a []) m b (k a x b)
    |none=>False
   |_,_,_=>False
  |_,_=>False
 |_=>False
def Lh(P:Program)(g:Nat):Bool:=
 match P.funcs[g]? with
 |some a=>!(a.name== "runtime.NumGoroutine")&&a.body.isSome
 |none=>false
def GOK(P:Program)(G:ad):Prop:=G.all (Lh P)=true
def U7(a:ae):∀(n i:Nat),i<n*a.length->(ng a n)[i]? =a[i%a.length]?
 |0,i,h=>by simp at h
 |n+1,i,h=>by
  have c:0<a.length:=by
   grind [Nat.eq_zero_or_pos,List.length]
  have e:ng a (n+1)=a++ng a n:=by simp[ng,mq]
  rw[e,List.getElem?_append];split
  .grind [Nat.mod_eq_of_lt]
  .rename_i b;rw[U7 a n (i -a.length) (by rw[nl,Nat.one_mul]at h;omega)];grind [Nat.mod_eq_sub_mod]
theorem vC(a:ae)(n:Nat):(ng a n).length=n*a.length:=by
 simp[ng]
theorem MJ(a:ae)(z:Array Value)(h:z.toList=a.map Ce.v)(n:Nat):
 (Array.range (n*a.length)).map (λi=>z[i%z.size]!)=de (ng a n):=by
 apply FI
 intro i
 have g:z.size=a.length:=by grind [Array.length_toList]
 by_cases b:i<n*a.length
 .have c:=U7 a n i b
  have f:0<a.length:=by
   grind [Nat.eq_zero_or_pos,List.length]
  have e:i%a.length<a.length:=Nat.mod_lt _ f
  have d:(de (ng a n))[i]? =((ng a n)[i]?).map Ce.v:=by simp[de]
  rw[d,c,<-eu,<-h]
  simp[b,g,e]
 .grind [de,ng,vC]
end Go.Vc
end
section
namespace Go.Vc
variable{c:SV}{l:ae}{t:TypeId}
variable{d:Program}{T:TT}{G:ad}
def Ce.aaH(c:Ce):c.v.oneCell'=true:=by
 cases c with
 |s y=>cases y<;>rfl
 |_=>rfl
def nV:∀(l:ae)(w:World)(b o:Nat),(w.setCells b o (l.map Ce.v)).heap=aV w.heap b o l
 |[],_,_,_=>rfl
 |c::r,w,b,o=>by
  simp only[eI,World.setCells,aV];rw[nV r,SX]
def uY:∀(l:ap)(w:World)(a o:Nat),rK w (w.setCells a o l)
 |[],w,_,_=>rK.cZ w
 |c::r,w,a,o=>by
  simp only[World.setCells];exact rK.O (b:=w.setCell ⟨a,o,none⟩ c) ⟨rfl,rfl,rfl⟩ (uY r _ a (o+1))
def ID(l:ae)(b o:Nat)(w:World)(h:iQ w.heap b o l.length):
 (storeCells ⟨b,o,none⟩ (l.map Ce.v)).run d w=.ok () (w.setCells b o (l.map Ce.v)):=by
 have:=run_storeCells_cells (P:=d) b o (l.map Ce.v) 0 w
  (λj a=>by have:=(h j cG).1;rw[DN];simpa using this)
  (λj a=>by have:=(h j cG).2;rw[VJ];simpa using this)
  (λv a=>by obtain⟨c,_,rfl⟩:=fu.1 a;exact c.aaH)
 simpa using this
def Uv(l:ae)(b o:Nat)(a:World)(h:jt a.heap b o l):(loadCells ⟨b,o,none⟩ l.length).run d a=.ok (de l) a:=by
 have:=run_loadCells_list (P:=d) (w:=a) ⟨b,o,none⟩ (l.map Ce.v) (λj v c=>by
  rw[zS,DN];rw[eu]at c;obtain⟨e,f,rfl⟩:=jI.1 c;exact h j e f)
 grind [de]
section
variable{n:Nat}{b:Fr}{a:Act}{m:E}{k:Fr->SV->E->Prop}{e:Option Tmp}{f:TypeId}{i:String}{g:Array Edge}{h:Option (Nat×Bool)}
def JD(d:Program)(n:Nat)(a:Act)(m:E)(o:Oper)(k:Fr->SV->E->Prop):Prop:=
 ∀(w:World),w.heap=m->∀(f:Act->World->Prop)(Q:Exit->Act->World->Prop),
  (∀e c v b,k e c b.heap->mr n e a->Bx n e b.heap->c.Is v->rK w b->f (a.put o.dst v) b)->o.wp d a w f Q
def mz{o:Oper}{e:Fr}{v:Value}{w b:World}(h:mr n e a)(g:Bx n e b.heap)(p:c.Is v)(m:rK w b)(i:k e c b.heap)(l:(execOp a.eval o).run d w=.ok (.value v) b)
 {f:Act->World->Prop}{Q:Exit->Act->World->Prop}(j:∀e c v b,k e c b.heap->mr n e a->Bx n e b.heap->c.Is v->rK w b->f (a.put o.dst v) b):o.wp d a w f Q:=by
 unfold Oper.wp
 rw[l]
 exact j e c v b i h g p m
def RH{i:Option Nat}{t:Nat}(g:mr n b a)(f:Bx n b m)(h:Yg n b i m t l k):
 ∃d c,mr n d a/\Bx n d (m.push (.cells (de l) t))/\c.Is (.pointer (some ⟨m.size,0,none⟩))/\k d c (m.push (.cells (de l) t)):=by
 unfold Yg at h
 split at h
 .split at h
  .exact h.elim
  .rename_i e _ j
   exact⟨(n+e,.box m.size t l)::b,.c (.bp (n+e) m.size 0),g.dS (λ_=>trivial),f.bI (Nat.le_add_right _ _) t l,rfl,h⟩
 .exact⟨b,.c (.p m.size 0),g,f.push _,rfl,h⟩
def UG(s:mr n b a)(g:Bx n b m)(h:Ti n b m c l k):
 ∃p d o,mr n p a/\Bx n p (aV m d o l)/\(∀v,c.Is v->v=.pointer (some ⟨d,o,none⟩))/\iQ m d o l.length/\k p .un (aV m d o l):=by
 unfold Ti at h
 split at h
 .obtain⟨q,r⟩:=pH h.2
  exact⟨_,_,_,s,g.fq q,λv e=>e,h.1,r⟩
 .split at h
  .rename_i w d o _ i j f u
   cases t:Nat.ble (o+l.length) f.length
   .grind
   .rw[t]at h
    obtain⟨rfl,h⟩:=h
    have x:dJ m i j f:=g.bq w i j f (bu u)
    exact⟨(w,.box i j (jh f o l))::b,_,_,s.dS (λ_=>trivial),g.p7 u o l,λv e=>e,x.iQ (oN t),h⟩
  .exact h.elim
  .obtain⟨q,r⟩:=pH h.2
   exact⟨_,_,_,s,g.fq q,λv e=>e,h.1,r⟩
 .exact h.elim
def VB(y:yE d T)(s:mr n b a)(q:Bx n b m)(j:wr d T G n b m e f k (.alloc t)):JD d n a m ⟨e,.alloc t,f,i,g,h⟩ k:=by
 intro l D L Q B
 subst D;simp only[wr]at j;split at j
 .rename_i o C;cases p:o.yO
  .rw[p]at j;obtain⟨I,F,H,K⟩:=Ap y C p;have z:I.cells=de (o.sh.map Sh.zero):=by apply mU.1;simp[F,de]
   obtain⟨J,c,u,r,E,A⟩:=RH s q j;refine mz (w:=l) (c:=c) (v:=.pointer (some ⟨l.heap.size,0,none⟩)) (b:={l with heap:=l.heap.push (.cells (de (o.sh.map Sh.zero)) t)}) u r E ⟨rfl,rfl,rfl⟩ A ?_ B;simp[execOp,Instr.alloc,H,newVar,newRow,z]
  grind
 .exact j.elim
def Y6(p:mr n b a)(q:Bx n b m){c:Operand}(j:wr d T G n b m e f k (.box t c)):JD d n a m ⟨e,.box t c,f,i,g,h⟩ k:=by
 intro o F L Q E
 subst F;simp only[wr]at j;split at j
 .rename_i l D;split at j
  .rename_i K A;obtain⟨y,s⟩:=uE A p q;obtain⟨B,z⟩:=tF D;obtain⟨J,I,u,r,H,C⟩:=RH y s j;refine mz (w:=o) (c:=I) (v:=.pointer (some ⟨o.heap.size,0,none⟩)) (b:={o with heap:=o.heap.push (.cells (de l) t)}) u r H ⟨rfl,rfl,rfl⟩ C ?_ E;simp[execOp,Instr.box,newVar,newRow,p.eq rfl B,z,de]
  .exact j.elim
 .exact j.elim
def QR(p:mr n b a)(y:Bx n b m){o:Fn}{first j:Array Operand}(l:wr d T G n b m e f k (.makeFunc o first j)):JD d n a m ⟨e,.makeFunc o first j,f,i,g,h⟩ k:=by
 intro r D F Q C
 subst D;simp only[wr]at l;cases q:(first.toList.all (λc=>(ev b c).mJ)&&j.toList.all (λc=>(ev b c).mJ))
 .grind
 .rw[q]at l;simp only[eX]at q;obtain⟨u,x⟩:=q;have s:(first.toList.map λc=>(ev b c).v).toArray=first.map a.eval:=by
   apply mU.1;simp[FX p u]
  have t:(j.toList.map λc=>(ev b c).v).toArray=j.map a.eval:=by
   apply mU.1;simp[FX p x]
  simp only[po]at l;split at l
  .rename_i E B;obtain⟨A,z⟩:=uE B p y;refine mz (w:=r) (b:=r) A z (v:=.func o (first.map a.eval) (j.map a.eval)) ?_ (rK.cZ r) l ?_ C
   .show Value.func o (first.map a.eval) (j.map a.eval)=Value.func o _ _;rw[s,t]
   .simp[execOp,Instr.makeFunc]
  .exact l.elim
def Ni(m:mr n b a)(e:Nat):
 ∀(q:aG)(d:ae)(k:ae->Prop),Bp T b e d q k->
  ∃l,k l/\Instr.fill (λi=>some (i*e,e)) (d.map Ce.v).toArray (q.map λp=>(p.1,a.eval p.2))=some (l.map Ce.v).toArray
 |[],d,k,h=>⟨d,h,rfl⟩
 |(i,c)::x,d,k,h=>by
  simp only[Bp]at h;split at h
  .rename_i f u;cases g:(Nat.beq f.length e&&Nat.ble (i*e+f.length) d.length)
   .grind
   .rw[g]at h;simp only[eX]at g;obtain⟨j,o⟩:=g;have j:=gB j;have o:=oN o;obtain⟨l,r,t⟩:=Ni m e x (qE d (i*e) f) k h;refine⟨l,r,?_⟩;obtain⟨s,p⟩:=tF u;have v:a.eval c=(ev b c).v:=m.eq rfl s;simp only[eI,Instr.fill,v,p,List.size_toArray,jq,j];rw[aU cG,<-t];congr 1;apply FI;intro w;have y:=RF (f.map Ce.v) 0 (i*e) (d.map Ce.v).toArray w;grind [Array.toList_zipIdx,Ga,List.map,Ce.v,qE,Option.map]
  .exact h.elim
def Nu(B:yE d T)(D:mr n b a)(N:Bx n b m){j:Nat}{z:Array (Nat×Operand)}(p:wr d T G n b m e f k (.buildSlice t j z)):JD d n a m ⟨e,.buildSlice t j z,f,i,g,h⟩ k:=by
 intro q U ad Z Q
 subst U;simp only[wr]at p;split at p
 .rename_i L sh aa S;split at p
  .rename_i o H;cases r:(o.yO||!(Nat.ble (j*o.sh.length) 16777216))
   .rw[r]at p;simp only[cU,aff]at r;have ab:=oN r.2;have I:=(na (B.Cd S)).1;obtain⟨K,W,X,ac⟩:=Ap B H r.1;have F:=λq=>nj B H r.1 q;obtain⟨l,y,s⟩:=Ni D _ _ _ _ p;cases C:JQ b l with
    |none=>rw[C]at y;exact y.elim
    |some u=>
    rw[C]at y;obtain⟨P,O⟩:=uE C D N;refine mz (w:=q) (c:=.c (.s (.mk q.heap.size 0 j j))) (v:=.slice (some ⟨q.heap.size,0,none⟩) j j) (b:={q with heap:=q.heap.push (.cells (de l) L)}) P (O.push _) rfl ⟨rfl,rfl,rfl⟩ y ?_ Q;have E:(z.map λu=>(u.1,a.eval u.2)).toList=z.toList.map λu=>(u.1,a.eval u.2):=bO;have Y:K.cells.toList=(o.sh.map Sh.zero).map Ce.v:=by simp[W]
    have J:(o.sh.map Sh.zero).length=o.sh.length:=bO;have np:=MJ (o.sh.map Sh.zero) K.cells Y j;rw[J]at np;by_cases A:j*o.sh.length=0
    .have R:ng (o.sh.map Sh.zero) j=[]:=by
      apply cr.1;rw[vC,J,A]
     rw[R]at s;simp only[execOp,Instr.buildSlice,eA,run_underlying I,dw,F,A];simp only[E];have M:(Array.map (λc=>(default:Value)) (Array.range 0))=#[]:=bO;simp at s⊢;rw[M,s];simp[newRow,de]
    .simp only[execOp,Instr.buildSlice,eA,run_underlying I,dw,F,A,mN];have:¬(j*o.sh.length>2^24):=V;simp only[this,mN,X,eA,iv,dw,E];rw[np];simp only[de]at s⊢;simp[s,newRow]
   grind
  .exact p.elim
 .exact p.elim
def VC(C:yE d T)(r:mr n b a)(v:Bx n b m){c y:Operand}(j:wr d T G n b m e f k (.store t c y)):JD d n a m ⟨e,.store t c y,f,i,g,h⟩ k:=by
 intro w L Y Q H
 subst L;simp only[wr]at j;split at j
 .rename_i l s F K;cases o:(s.yO||!(Nat.beq l.length s.sh.length))
  .rw[o]at j;simp only[zO]at j;simp only[cU,aff]at o;split at j
   .rename_i N D;obtain⟨B,z⟩:=uE D r v;obtain⟨u,p,q,A,x,M,I,E⟩:=UG B z j;have S:=gB o.2;obtain⟨R,O⟩:=tF F;have V:=λw=>nj C K o.1 w;unfold Oper.wp;have J:(execOp a.eval ⟨e,.store t c y,f,i,g,h⟩).run d w=.ok .skip (w.setCells p q (l.map Ce.v)):=by
     have U:=ID (d:=d) l p q w I;have W:a.eval c=.pointer (some ⟨p,q,none⟩):=M _ (r.ev c);have X:(a.eval y).cells=(l.map Ce.v).toArray:=by grind [mr.eq]
     grind [Go.execOp,Go.Instr.storeAt,Go.Instr.sureAddr,Go.storeVar,Go.Sem.run_bind,Go.Sem.run_pure,Go.Result.andThen_ok,List.size_toArray,List.length_map]
    rw[J];exact H u .un undef _ (by rw[nV];exact E) A (by rw[nV];exact x) rfl (uY _ _ _ _)
   .exact j.elim
  grind
 .exact j.elim
end
end Go.Vc
end
section
namespace Go.Vc
variable{b y f:Operand}{t:TypeId}{e:Array Operand}{g:Array TypeId}
variable{c:Program}{T:TT}{G:ad}
section
variable{n:Nat}{h:Fr}{a:Act}{m:E}{k:Fr->SV->E->Prop}{j:Option Tmp}{i:TypeId}{p:String}{l:Array Edge}{o:Option (Nat×Bool)}
theorem Tq{b:Int}(a: -9223372036854775808<=b)(c:b<=9223372036854775807):IntKind.i64.wrap b=b:=by
 grind [Go.IntKind.bits,Go.IntKind.signed,Go.IntKind.wrap]
theorem dt{b:Int}(a: -9223372036854775808<=b)(c:b<=9223372036854775807):eR b=b:=Tq a c
def O7(r:yE c T)(u:mr n h a)(F:Bx n h m)(f:wr c T G n h m j i k (.makeSlice t b y)):JD c n a m ⟨j,.makeSlice t b y,i,p,l,o⟩ k:=by
 intro q U ah ad J
 subst U;simp only[wr]at f;split at f
 .rename_i D sh ae g d Q Y hy;split at f
  .rename_i e z;cases s:e.yO
   .rw[s]at f;obtain⟨h0,h1,h2,h3,I⟩:=f;have S:=(na (r.Cd Q)).1;obtain⟨C,hz,ab,ag⟩:=Ap r z s;obtain⟨ti,H,af,R,_⟩:=Kk r z s;have P:=λq=>nj r z s q;refine mz (w:=q) (c:=.c (.s (.mk q.heap.size 0 g.toNat d.toNat))) (v:=.slice (some ⟨q.heap.size,0,none⟩) g.toNat d.toNat) (b:={q with heap:=q.heap.push (.cells (de (ng (e.sh.map Sh.zero) d.toNat)) D)}) u (F.push _) rfl ⟨rfl,rfl,rfl⟩ I ?_ J;have ac:C.cells.toList=(e.sh.map Sh.zero).map Ce.v:=by simp[hz]
    have B:(e.sh.map Sh.zero).length=e.sh.length:=bO;have np:=MJ (e.sh.map Sh.zero) C.cells ac d.toNat;rw[B]at np;have Z:a.eval b=.int .i64 g:=u.eq Y rfl;have aa:a.eval y=.int .i64 d:=u.eq hy rfl;have X:IntKind.i64.wrap g=g:=by grind [Tq]
    have W:IntKind.i64.wrap d=d:=by grind [Tq]
    have K:¬d<0:=V;have L:¬((e.bytes:Int)*d>2^48):=by
     grind
    have M:¬g<0:=V;have N:¬g>d:=V;simp only[execOp,Instr.makeSlice,eA,run_underlying S,dw,asInt,asIntOf,Z,aa,iv,R,X,W,H];simp only[K,L,M,N,decide_false,aa4,vY,mN];simp only[eA,dw,run_askRoom,P];by_cases A:d.toNat*e.sh.length=0
    .have O:ng (e.sh.map Sh.zero) d.toNat=[]:=by
      apply cr.1;rw[vC,B,A]
     rw[O];have E:(Array.map (λb=>(default:Value)) (Array.range 0))=#[]:=bO;simp[A,newRow,de];rw[E]
    .simp only[A,mN,eA,ab,dw,iv];rw[np];simp[newRow]
   grind
  .exact f.elim
 .exact f.elim
def Pa:∀{c:aB}{k:ae->Prop},exC c k->∃l,k l
 |[],_,h=>⟨_,h⟩
 |_::_,_,⟨b,h⟩=>let⟨_,a⟩:=Pa h;⟨_,a⟩
def JR:∀{g:ad}{k:aH->Prop},Ya T g k->∃l,k l
 |[],_,h=>⟨_,h⟩
 |t::g,k,h=>by
  simp only[Ya]at h;split at h
  .obtain⟨l,c⟩:=Pa h;obtain⟨d,a⟩:=JR c;exact⟨_,a⟩
  .obtain⟨b,c⟩:=h;obtain⟨d,a⟩:=JR c;exact⟨_,a⟩
  .obtain⟨b,c⟩:=h;obtain⟨d,a⟩:=JR c;exact⟨_,a⟩
  .exact h.elim
def Yo{t:Nat}{v:Value}{k:SV->Prop}(h:Uu T t v k):∃b:SV,b.Is v/\k b:=by
 unfold Uu at h;split at h
 .exact⟨.jz,trivial,h⟩
 .obtain⟨l,c,a⟩:=JR h;exact⟨.tup l,c,a⟩
 .obtain⟨l,c,a⟩:=Pa h;exact⟨.agg l,c,a⟩
 .rename_i s _ _;obtain⟨b,c,a⟩:=h;exact⟨.c (s.mk b),c,a⟩
 .obtain⟨b,c,a⟩:=h;exact⟨.c (.s b),c,a⟩
 .exact h.elim
def O6(z:GOK c G)(A:mr n h a){q:Fr}(B:mr n q a)(y:Bx n q m){d:Nat}{first s:Array Value}(E:a.eval f=.func (.func d) first s)
 (H:G.elem d=true)(J:e.toList.all (λb=>(ev h b).mJ)=true)
 (x:bJ c d (first.toList++(e.toList.map λb=>(ev h b).v)++s.toList) m λv r=>Ev (QN n q []) m r (Uu T i v λb=>k q b r)):
 JD c n a m ⟨j,.call ⟨.value f,e,g⟩,i,p,l,o⟩ k:=by
 intro w O V R K
 subst O
 have r:Lh c d=true:=La.1 z d (sp H)
 have C:e.map a.eval=(e.toList.map λb=>(ev h b).v).toArray:=by
  apply mU.1;simp[<-FX A J]
 unfold Lh at r
 split at r
 .rename_i u F
  simp only[eX,xX]at r
  have D:u.body.isNone=false:=by cases U:u.body<;>simp_all
  have L:(execOp a.eval ⟨j,.call ⟨.value f,e,g⟩,i,p,l,o⟩).run c w=
   .ok (.enter d (first.toList++(e.toList.map λb=>(ev h b).v)++s.toList).toArray) w:=by
   simp only[execOp,resolve,E,C,Deferred.ofValue,eA,iv,dw,invoke,callFunc,run_program,F,r.1,D,vY,mN]
   simp
  unfold Oper.wp
  rw[L]
  show Calls c d _ w _
  refine(x w rfl).mono ?_
  rintro S Q ⟨v,rfl,M,t⟩
  obtain⟨N,t⟩:=pH t
  obtain⟨b,P,I⟩:=Yo t
  exact K q b v Q I B (y.fq N) P M
 .simp at r
def XY(v:GOK c G)(r:mr n h a)(y:Bx n h m)(d:wr c T G n h m j i k (.call ⟨.value f,e,g⟩)):JD c n a m ⟨j,.call ⟨.value f,e,g⟩,i,p,l,o⟩ k:=by
 simp only[wr,Y1]at d;split at d
 .exact d.elim
 rename_i D z;obtain⟨w,u⟩:=uE z r y;split at d
 .rename_i s first x t
  cases q:(G.elem s&&e.toList.all (λb=>(ev h b).mJ))
  .grind
  .rw[q]at d;simp only[eX]at q;exact O6 v r w u (r.eq t rfl) q.1 q.2 d
 .rename_i x t;cases q:(e.toList.all (λb=>(ev h b).mJ))
  .grind
  .rw[q]at d;obtain⟨s,A,B,d⟩:=d;have C:a.eval f=.func (.func s) x.2.1 x.2.2:=by
    rw[<-A];exact r.eq t rfl
   exact O6 v r w u C B q d
 .exact d.elim
def wD(a:c.underlying t=some (.int .i64))(e:Bool)(b:Int)(w:World):(Instr.checkKey e 10000 t (.int .i64 b)).run c w=.ok () w:=by
 have:Instr.checkKey e 10000 t (.int .i64 b)=Instr.checkKey e (9999+1) t (.int .i64 b):=rfl;rw[this];generalize 9999=d;simp[Instr.checkKey,run_underlying a]
def DQ(b:Int):∀(a:List MapEntry)(l:aD)(i:Nat),a.map (λe=>(e.key,e.val))=l.map (λp=>(Value.int .i64 p.1,Value.int .i64 p.2))->
 (Instr.findNow (.int .i64) (.int .i64 b) a i=some none/\zt l b=0/\(∀v,ND l b v=l++[(b,v)]))\/
 ∃j u,Instr.findNow (.int .i64) (.int .i64 b) a i=some (some (i+j,.int .i64 u))/\zt l b=u/\j<a.length/\l[j]? =some (b,u)/\∀v,ND l b v=l.set j (b,v)
 |[],[],i,_=>bu ⟨rfl,rfl,λv=>rfl⟩
 |[],_::_,i,h=>by simp at h
 |_::_,[],i,h=>by simp at h
 |e::a,(j,u)::l,i,h=>by
  simp only[eI,List.cons.injEq,RY]at h;obtain⟨⟨o,s⟩,h⟩:=h;have p:Instr.sameNow (.int .i64) (.int .i64 b) e.key=some (b==j):=by grind [Go.Instr.sameNow]
  by_cases f:b=j
  .subst f;refine bG ⟨0,u,?_,?_,bO,bO,?_⟩
   .grind [Go.Instr.findNow]
   .simp[zt]
   .intro v;simp[ND]
  .have n:(b==j)=false:=cG;rcases DQ b a l (i+1) h with⟨g,c,d⟩|⟨q,r,g,c,d,k,m⟩
   .grind [Go.Instr.findNow,zt,ND]
   .refine bG ⟨q+1,r,?_,?_,sp d,sp k,?_⟩
    .grind [Go.Instr.findNow]
    .simp[zt,f,c]
    grind [ND]
def Sk(f:mr n h a)(e:Bx n h m){r:Option Operand}(d:wr c T G n h m j i k (.makeMap t r)):JD c n a m ⟨j,.makeMap t r,i,p,l,o⟩ k:=by
 intro b q s Q g
 subst q;cases r with
 |some r=>exact d.elim
 |none=>
  refine mz (w:=b) (c:=.c (.mp b.heap.size)) (v:=.map (some b.heap.size)) (b:={b with heap:=b.heap.push (.map #[] 0)}) f (e.push _) rfl ⟨rfl,rfl,rfl⟩ d ?_ g;simp[execOp,Instr.makeMap]
def TS(s:yE c T)(r:mr n h a)(K:Bx n h m){z:Bool}(d:wr c T G n h m j i k (.lookup t b y z)):JD c n a m ⟨j,.lookup t b y z,i,p,l,o⟩ k:=by
 intro e V af ac R
 subst V;cases z with
 |true=>exact d.elim
 |false=>
  simp only[wr]at d;split at d
  .rename_i kt et sh ad B f U W X;split at d
   .rename_i b1 b2 Q O;obtain⟨u,⟨C,I,N,M⟩,P⟩:=d;have E:=(Gf (s.Cd U)).1;obtain⟨⟨J,hd,hp⟩,_⟩:=qK (s.Cd Q);have L:J=.int .i64:=by
     grind [Br]
    subst L;obtain⟨A,Y,ab,aa⟩:=Ap s O rfl;have Z:A=.int .i64 0:=by
     have:A.cells.toList=[Value.int .i64 0]:=Y;have S:=aa rfl;cases A<;>first|(simp[Value.cells]at this;done)|(simp[Value.cells]at this;rw[this.1,this.2])|exact absurd rfl (S _)
    have F:a.eval b=.map (some B):=r.eq W rfl;have H:a.eval y=.int .i64 f:=r.eq X rfl;have D:(getObj B).run c e=.ok (.map C I) e:=by simp[getObj,Sem.run,N]
    refine mz (w:=e) (c:=.c (.i (zt u f))) (v:=.int .i64 (zt u f)) (b:=e) r K rfl (rK.cZ e) P ?_ R;rcases DQ f C.toList u 0 M with⟨g,q,_⟩|⟨ae,ag,g,q,_⟩
    .simp[execOp,Instr.lookup,run_underlying E,F,H,D,wD hd,Instr.findKey,run_underlying hd,g,ab,Z,q]
    .simp[execOp,Instr.lookup,run_underlying E,F,H,D,wD hd,Instr.findKey,run_underlying hd,g,q]
   .exact d.elim
  .exact d.elim
def O8(J:yE c T)(r:mr n h a)(I:Bx n h m){z:Operand}(q:wr c T G n h m j i k (.mapUpdate t b y z)):JD c n a m ⟨j,.mapUpdate t b y z,i,p,l,o⟩ k:=by
 intro w hw af ad N
 subst hw;simp only[wr]at q;split at q
 .rename_i kt et sh ae e d u ht hx hy hz;split at q
  .rename_i b1 aa;obtain⟨ac,⟨g,f,C,v⟩,M⟩:=q;have P:=(Gf (J.Cd ht)).1;obtain⟨⟨U,hd,hp⟩,_⟩:=qK (J.Cd aa);have Y:U=.int .i64:=by
    grind [Br]
   subst Y;have Q:a.eval b=.map (some e):=r.eq hx rfl;have R:a.eval y=.int .i64 d:=r.eq hy rfl;have S:a.eval z=.int .i64 u:=r.eq hz rfl;have L:(getObj e).run c w=.ok (.map g f) w:=by simp[getObj,Sem.run,C]
   have O:∀E,(setObj e E).run c w=.ok () {w with heap:=w.heap.setIfInBounds e E}:=λE=>by simp[setObj,Sem.run,C]
   have K:e<w.heap.size:=(gN.1 C).1;unfold Oper.wp;rcases DQ d g.toList ac 0 v with⟨B,V,H⟩|⟨x,ag,B,V,H,W,X⟩
   .have D:(execOp a.eval ⟨j,.mapUpdate t b y z,i,p,l,o⟩).run c w=.ok .skip {w with heap:=w.heap.setIfInBounds e (.map (g.push {key:=.int .i64 d,val:=.int .i64 u,born:=f}) (f+1))}:=by
     simp[execOp,Instr.mapUpdate,run_underlying P,Q,R,S,L,wD hd,Instr.findKey,run_underlying hd,B,O]
    rw[D];have s:=pH (M {w with heap:=w.heap.setIfInBounds e (.map (g.push {key:=.int .i64 d,val:=.int .i64 u,born:=f}) (f+1))}.heap ?_ bO ?_)
    .exact N h .un undef _ s.2 r (I.fq s.1) rfl ⟨rfl,rfl,rfl⟩
    .refine⟨_,_,by simp[K];exact⟨rfl,rfl⟩,?_⟩;rw[H];simp[v]
    grind [Array.getElem?_setIfInBounds_ne]
   .have Z:(g[x]?).map (·.key)=some (.int .i64 d):=by
     have:=jO (λF=>(F[x]?).map (·.1)) v;simpa[W]using this
    have ab:(Instr.keyThatStays (.int .i64 d) (.int .i64 d)).run c w=.ok (.int .i64 d) w:=by
     simp[Instr.keyThatStays,Instr.sameBits]
    have D:(execOp a.eval ⟨j,.mapUpdate t b y z,i,p,l,o⟩).run c w=.ok .skip {w with heap:=w.heap.setIfInBounds e (.map (g.modify x λA=>{A with key:=.int .i64 d,val:=.int .i64 u}) f)}:=by
     simp only[execOp,Instr.mapUpdate,run_underlying P,Q,R,S,L,wD hd,Instr.findKey,run_underlying hd,B,eA,dw,iv,fB,Z,uv,ab,O]
    rw[D];have s:=pH (M {w with heap:=w.heap.setIfInBounds e (.map (g.modify x λA=>{A with key:=.int .i64 d,val:=.int .i64 u}) f)}.heap ?_ bO ?_)
    .exact N h .un undef _ s.2 r (I.fq s.1) rfl ⟨rfl,rfl,rfl⟩
    .refine⟨_,_,by simp[K];exact⟨rfl,rfl⟩,?_⟩;rw[X];apply ee;intro F;have A:=jO (λ(q':List (Value×Value))=>q'[F]?) v;simp only[eu]at A;grind [List.length,List.getElem?_eq_some_iff,Array.size]
    grind [Array.getElem?_setIfInBounds_ne]
  .exact q.elim
 .exact q.elim
def xF(l:ae)(z:N)(a e:Nat)(f:l.length=a*e)(w:World)(h:jt w.heap z.bq z.off l)(d:a<=z.len):
 (Builtin.firstCells e a z.v).run c w=.ok (de l) w:=by
 cases z with
 |nil=>
  have b:a=0:=by simp at d;omega
  have:l=[]:=cr.1 cG
  subst this
  simp[Builtin.firstCells,N.v,de]
 |Dx g i sp=>
  have b:a=0:=by simp at d;omega
  have:l=[]:=cr.1 cG
  subst this
  simp[Builtin.firstCells,N.v,de,b,loadCells,loadCellsFrom]
 |mk b o i g=>
  simp only[Builtin.firstCells,N.v,<-f]
  exact Uv l b o w h
def Ts(a:ae)(z:Array Value)(b:z.toList=a.map Ce.v)(n:Nat):Builtin.zeroCells z n=de (ng a n):=by
 grind [Array.size,List.length,Array.length_toList,MJ,Go.Builtin.zeroCells]
def UZ(l r:ae):de (l++r)=de l++de r:=by simp[de]
def TR(I:yE c T)(D:mr n h a)(M:Bx n h m)(u:wr c T G n h m j i k (.call ⟨.builtin .append,e,g⟩)):JD c n a m ⟨j,.call ⟨.builtin .append,e,g⟩,i,p,l,o⟩ k:=by
 intro d hw aI aw Q
 subst hw;simp only[wr]at u;split at u
 .rename_i b y t av az aG;split at u
  .rename_i B sh ax e2 aJ ay s z ht an hx hy;split at u
   .rename_i f ab;cases C:(f.yO||Nat.beq f.bytes 0)
    .rw[C]at u;simp only[cU]at C;obtain⟨A,af,aD,ad,ae⟩:=u;have e1:e=#[b,y]:=by grind [Array.toList_inj]
     have ah:g=#[t,av]:=by grind [Array.toList_inj]
     subst e1;subst ah;have U:=(na (I.Cd ht)).1;have W:=(na (I.Cd an)).1;obtain⟨zv,hz,ar,aH⟩:=Ap I ab C.1;obtain⟨ti,hb,aF,ac,_⟩:=Kk I ab C.1;have S:=λd=>nj I ab C.1 d;have X:a.eval b=s.v:=D.eq hx rfl;have Y:a.eval y=z.v:=D.eq hy rfl;have F:(Builtin.lenOf z.v).run c d=.ok z.len d:=by cases z<;>simp[Builtin.lenOf,N.v,N.len]
     have ag:(f.sh.map Sh.zero).length=f.sh.length:=bO;rw[ag]at af;simp only[ag]at ad ae;have O:∀r:World,r.heap=d.heap->(Builtin.firstCells f.sh.length z.len z.v).run c r=.ok (de A) r:=λr ao=>
      xF A z z.len f.sh.length af r cG bW
     have am:=s.ac1;by_cases E:s.len+z.len<=s.cap
     .obtain⟨R,q⟩:=ad E;cases s with
      |nil=>
       simp only[N.SC,N.aas]at E R q;have L:z.len=0:=V;have:A=[]:=cr.1 cG;subst this;obtain⟨aa,q⟩:=pH q;refine mz (w:=d) (c:=.c (.s .nil)) (v:=.slice none 0 0) (b:=d) D M rfl (rK.cZ d) q ?_ Q;have J:a.eval b=.slice none 0 0:=X;have H:=O d rfl;simp only[execOp,resolve,eA,iv,dw,invoke,builtin,Builtin.append_,qP,eI,iZ,J,Y];rw[L]at F H;simp[run_underlying U,run_underlying W,S,F,H]
      |Dx K Z sp=>
       simp only[N.Xf,N.aar]at E R q;have L:z.len=0:=V;have:A=[]:=cr.1 cG;subst this;obtain⟨aa,q⟩:=pH q;refine mz (w:=d) (c:=.c (.s (.Dx K Z sp))) (v:=.slice (some ⟨K,Z,some sp⟩) 0 0) (b:=d) D M rfl (rK.cZ d) q ?_ Q;have J:a.eval b=.slice (some ⟨K,Z,some sp⟩) 0 0:=X;have H:=O d rfl;simp only[execOp,resolve,eA,iv,dw,invoke,builtin,Builtin.append_,qP,eI,iZ,J,Y];rw[L]at F H;simp[run_underlying U,run_underlying W,S,F,H,de,storeCells]
      |mk H L K Z=>
       simp only[N.lJ,N.Sc,N.mP,N.Bo]at E R q;obtain⟨aa,q⟩:=pH q;refine mz (w:=d) (c:=.c (.s (.mk H L (K+z.len) Z))) (v:=.slice (some ⟨H,L,none⟩) (K+z.len) Z) (b:=d.setCells H (L+K*f.sh.length) (A.map Ce.v)) D (by rw[nV];exact M.fq aa) rfl (uY _ _ _ _) (by rw[nV];exact q) ?_ Q;have ai:=ID (d:=c) A H (L+K*f.sh.length) d R;have J:a.eval b=.slice (some ⟨H,L,none⟩) K Z:=X;simp only[execOp,resolve,eA,iv,dw,invoke,builtin,Builtin.append_,qP,eI,iZ,J,Y];simp[run_underlying U,run_underlying W,S,F,E,O d rfl,zS,de,ai]
     .obtain⟨R,old,ak,aE,q⟩:=ae V;have aA:=growslice_fits (need:=s.len+z.len) (old:=s.cap) (bytes:=f.bytes) V R;have L:f.bytes≠0:=λB=>by rw[B]at C;simp at C
      have al:∀r:World,r.heap=d.heap->(Builtin.firstCells f.sh.length s.len s.v).run c r=.ok (de old) r:=λr ao=>
       xF old s s.len f.sh.length ak r cG bW
      let H:Question:=.appendCap (s.len+z.len) s.cap B;let nc:=H.cut (d.tape d.drawn H);let J:World:={d with drawn:=d.drawn+1};have ai:s.len+z.len<=nc:=Nat.le_add_right _ _;refine mz (w:=d) (c:=.c (.s (.mk d.heap.size 0 (s.len+z.len) nc))) (v:=.slice (some ⟨d.heap.size,0,none⟩) (s.len+z.len) nc)
       (b:={J with heap:=d.heap.push (.cells (de (old++A++ng (f.sh.map Sh.zero) (nc -(s.len+z.len)))) B)}) D (M.push _) rfl ⟨rfl,rfl,rfl⟩ (pH (q nc ai)).2 ?_ Q
      have au:zv.cells.toList=(f.sh.map Sh.zero).map Ce.v:=by simp[hz]
      have ap:=Ts (f.sh.map Sh.zero) zv.cells au (nc -(s.len+z.len));have aB:H.forced=false:=rfl;have aC:¬(Builtin.nextslicecap (s.len+z.len) s.cap*f.bytes>2^48):=by
       grind
      simp only[execOp,resolve,eA,iv,dw,invoke,builtin,Builtin.append_,qP,eI,iZ,X,Y];have K:=al J rfl;have Z:=O J rfl;rw[am]at K⊢;simp only[sQ,wA,jZ,eA,run_underlying U,run_underlying W,dw,S,iv,F,vY,mN,E,ac,hb,false_or];simp only[L,and_false,mN,eA,dw,ac,Z8,vE,newRow];simp[UZ];rw[hb,aU V,aU (show¬(Question.appendCap (s.len+z.len) s.cap B).forced=true by simp[Question.forced])];have aj:(Builtin.firstCells f.sh.length s.len (Value.slice s.da s.len s.cap)).run c d.drew=.ok (de old) d.drew:=K;have aa:(Builtin.firstCells f.sh.length z.len z.v).run c d.drew=.ok (de A) d.drew:=Z;simp only[ac,dw,aj,aa,ar];have aq:Builtin.zeroCells zv.cells ((Question.appendCap (s.len+z.len) s.cap B).cut (d.tape d.drawn (Question.appendCap (s.len+z.len) s.cap B)) -(s.len+z.len))=de (ng (f.sh.map Sh.zero) (nc -(s.len+z.len))):=ap;rw[aq];rfl
    grind
   .exact u.elim
  .exact u.elim
 .exact u.elim
end
end Go.Vc
end
section
namespace Go.Vc
variable{b:Program}{T:TT}{G:ad}
section
variable{n:Nat}{c:Fr}{a:Act}{m:E}{k:Fr->SV->E->Prop}{d:Option Tmp}{e:TypeId}{h:String}{f:Array Edge}{g:Option (Nat×Bool)}
def XZ(J:yE b T)(t:mr n c a)(R:Bx n c m){r:Array Operand}{H:Array TypeId}(j:wr b T G n c m d e k (.call ⟨.builtin .copy,r,H⟩)):JD b n a m ⟨d,.call ⟨.builtin .copy,r,H⟩,e,h,f,g⟩ k:=by
 intro i hw ai ae S
 subst hw;simp only[wr]at j;split at j
 .rename_i q M ad aj ah ab;split at j
  .rename_i ag sh af s z Z hx hy;split at j
   .rename_i F aa;cases K:F.yO
    .rw[K]at j;obtain⟨o,U,V,W,u⟩:=j;obtain⟨X,u⟩:=pH u;have Q:r=#[q,M]:=by grind [Array.toList_inj]
     subst Q;have B:H[0]? =some ad:=by rw[<-Array.getElem?_toList,ab];rfl
     have C:=(na (J.Cd Z)).1;have A:=λi=>nj J aa K i;have D:a.eval q=s.v:=t.eq hx rfl;have E:a.eval M=z.v:=t.eq hy rfl;have y:(Builtin.lenOf z.v).run b i=.ok z.len i:=by cases z<;>simp[Builtin.lenOf,N.v,N.len]
     have l:(Builtin.firstCells F.sh.length (Nat.min z.len s.len) z.v).run b i=.ok (de o) i:=
      xF o z _ F.sh.length U i V (Nat.min_le_left _ _)
     refine mz (w:=i) (c:=.c (.i (Nat.min z.len s.len:Nat))) (v:=.int .i64 (Nat.min z.len s.len:Nat)) (b:=i.setCells s.bq s.off (o.map Ce.v)) t (by rw[nV];exact R.fq X) rfl (uY _ _ _ _) (by rw[nV];exact u) ?_ S;cases s with
     |nil=>
      have O:Nat.min z.len N.nil.len=0:=bO;have:o=[]:=cr.1 cG;subst this;have p:a.eval q=.slice none 0 0:=D;simp only[N.SC]at l⊢;simp only[execOp,resolve,eA,iv,dw,invoke,builtin,Builtin.copy_,qP,eI,iZ,p,E,B];simp only[sQ,wA,jZ,eA,run_underlying C,dw,y,A,l,iv];rfl
     |Dx I L sp=>
      have O:Nat.min z.len (N.Dx I L sp).len=0:=bO;have:o=[]:=cr.1 cG;subst this;have p:a.eval q=.slice (some ⟨I,L,some sp⟩) 0 0:=D;simp only[N.Xf]at l⊢;simp only[execOp,resolve,eA,iv,dw,invoke,builtin,Builtin.copy_,qP,eI,iZ,p,E,B];simp only[sQ,wA,jZ,eA,run_underlying C,dw,y,A,l,iv,de];rfl
     |mk I L ac O=>
      have Y:=ID (d:=b) o I L i W;have p:a.eval q=.slice (some ⟨I,L,none⟩) ac O:=D;simp only[N.lJ]at l⊢;simp only[execOp,resolve,eA,iv,dw,invoke,builtin,Builtin.copy_,qP,eI,iZ,p,E,B];simp only[sQ,wA,jZ,eA,run_underlying C,dw,y,A,l,iv,de,Y];rfl
    grind
   .exact j.elim
  .exact j.elim
 .exact j.elim
def U1(o:yE b T)(u:GOK b G)(l:mr n c a)(j:Bx n c m)(p:Oper)(i:wr b T G n c m p.dst p.type k p.op):JD b n a m p k:=by
 obtain⟨d,v,e,h,f,g⟩:=p;cases v with
 |alloc t=>exact VB o l j i
 |box t x=>exact Y6 l j i
 |buildSlice t q r=>exact Nu o l j i
 |store t x y=>exact VC o l j i
 |makeSlice t x y=>exact O7 o l j i
 |makeFunc r first q=>exact QR l j i
 |makeMap t w=>exact Sk l j i
 |lookup t x y q=>exact TS o l j i
 |mapUpdate t x y z=>exact O8 o l j i
 |call r=>
  obtain⟨s,t,x⟩:=r;cases s with
  |builtin q=>
   cases q with
   |append=>exact TR o l j i
   |copy=>exact XZ o l j i
   |_=>exact i.elim
  |value q=>exact XY u l j i
  |invoke w q=>exact i.elim
 |_=>exact i.elim
end
end Go.Vc
end
section
namespace Go.Vc
variable{b:Array Bool}{j:Nat}{L:List (Nat×(World->Prop))}{a:Act}{w:World}
section
variable{P:Program}{c:Array Oper}{Q:Exit->Act->World->Prop}{d:Region.Mode}{e:Nat->Nat->Bool}
def zL(P:Program)(d:Region.Mode)(c:Array Oper)(Q:Exit->Act->World->Prop)(e:Nat->Nat->Bool)(L:List (Nat×(World->Prop))):Nat->Array Bool->Act->World->Prop
 |0,b,a,w=>Region.ready d c b=[]/\Q .normal a w
 |h+1,b,a,w=>
  (Region.ready d c b=[]->Q .normal a w)/\
  ∀i∈Region.ready d c b,wpOp P c Q i (λg f=>(∀x∈L,e i x.1=false->x.2 w->x.2 f)/\zL P d c Q e L h (b.setIfInBounds i true) g f) a w
def QH{L:List (Nat×(World->Prop))}:∀(f:Nat)(b:Array Bool)(a:Act)(w:World),zL P d c Q e L f b a w->wpAny P d c Q f b a w
 |0,_,_,_,h=>h
 |f+1,_,_,_,h=>⟨h.1,λk j=>wpOp_mono (λg l i=>QH f _ g l i.2) (h.2 k j)⟩
theorem HY{L g:List (Nat×(World->Prop))}(j:∀x∈g,x∈L):∀(f:Nat)(b:Array Bool)(a:Act)(w:World),zL P d c Q e L f b a w->zL P d c Q e g f b a w
 |0,_,_,_,h=>h
 |f+1,_,_,_,h=>⟨h.1,λn l=>wpOp_mono (λk o i=>⟨λx m=>i.1 x (j x m),HY j f _ k o i.2⟩) (h.2 n l)⟩
def H9(e:Nat->Nat->Bool)(b:Array Bool):Prop:=∀i,b.getD i false=true->∀r,e i r=true->b.getD r false=true
def aae(d:Region.Mode)(c:Array Oper)(e:Nat->Nat->Bool):Prop:=
 ∀(i r:Nat)(o:Oper),c[i]? =some o->e i r=true->∃a∈o.after,Region.binds d a=true/\(a.on=r\/e a.on r=true)
theorem Bt(k:aae d c e)(l:H9 e b)(n:j∈Region.ready d c b){r:Nat}(p:e j r=true):b.getD r false=true:=by
 obtain⟨_,q,o,g⟩:=mem_ready.1 n;obtain⟨f,m,i,h⟩:=k j r q o p;have a:=g f m i;rcases h with rfl|h
 .exact a
 .exact l _ a r h
theorem H9.eB(k:aae d c e)(f:H9 e b)(l:j∈Region.ready d c b):H9 e (b.setIfInBounds j true):=by
 intro i a r h;by_cases g:j=i
 .grind [Go.getD_set_true,Bt]
 .rw[getD_set_ne false g]at a;exact getD_set_true (f i a r h)
def K9{i:Nat}{g:Oper}{v:Value}{S:World->Prop}(T:aae d c e)(z:c[i]? =some g)(C:∀(j:Nat)(D:Oper) m l,c[j]? =some D->D.op≠.select m l)
 (F:∀f a w,Q (.panic f) (a.put g.dst v) w->Q (.panic f) a w):
 ∀(n:Nat)(b:Array Bool)(a:Act)(w:World),H9 e b->
  (∀j h,c[j]? =some h->j≠i->b.getD j true=false->(∀f∈h.after,Region.binds d f=true->f.on≠i)->g.apart c h=true)->
  i∈Region.ready d c b->YieldsIf P c S g v a->S w->
  zL P d c Q e ((i,S)::L) n (b.setIfInBounds i true) (a.put g.dst v) w->zL P d c Q e L (n+1) b a w:=by
 intro n
 induction n with
 |zero=>
  intro b a w _ _ M u x H
  refine⟨λr=>cG,λj q=>?_⟩
  by_cases o:j=i
  .subst o;exact u.wpOp z x ⟨λk _ _ r=>r,H⟩
  .have:=ready_mono q o
   rw[H.1]at this
   cases this
 |succ n Z=>
  intro b a w V y M u x H
  refine⟨λr=>cG,λj q=>?_⟩
  by_cases o:j=i
  .grind [Go.YieldsIf.wpOp,HY,List.mem_cons_of_mem]
  .have E:=H.2 j (ready_mono q o)
   obtain⟨B,h,s,O⟩:=mem_ready.1 q
   have t:b.getD i false=false:=by
    grind [Go.mem_ready,Nat.lt_or_ge,Array.size,Array.getElem?_eq_none]
   have K:∀f∈h.after,Region.binds d f=true->f.on≠i:=λf W R X=>by
    grind
   have U:e j i=false:=by
    grind [Bt]
   have N:=wpOp_putIf s (y j h s o B K) (λm l=>C i g m l z) (λm l=>C j h m l s) F u E
   have Y:∀k p,c[k]? =some p->k≠i->(b.setIfInBounds j true).getD k true=false->
    (∀f∈p.after,Region.binds d f=true->f.on≠i)->g.apart c p=true:=λk p G I t J=>by
    refine y k p G I ?_ J
    by_cases A:j=k
    .subst A;exact B
    .rw[getD_set_ne true A]at t;exact t
   grind [Go.wpOp_mono,List.mem_cons_of_mem,Array.setIfInBounds,H9.eB,Go.ready_mono,List.mem_cons_self,Array.setIfInBounds_comm]
def Ww{f:Nat}(k:Region.ready d c b≠[])
 (j:∀i∈Region.ready d c b,wpOp P c Q i (λh g=>(∀x∈L,e i x.1=false->x.2 w->x.2 g)/\zL P d c Q e L f (b.setIfInBounds i true) h g) a w):
 zL P d c Q e L (f+1) b a w:=by constructor<;>grind
theorem U0(f:Region.ready d c b=[])(h:Q .normal a w):
 ∀g,zL P d c Q e L g b a w
 |0=>⟨f,h⟩
 |_+1=>⟨λ_=>h,by rw[f];simp⟩
end
end Go.Vc
end
section
namespace Go.Vc
variable{M:ad}{a:Act}{d:Option Nat}{o:Oper}{m:E}
variable{b:Program}{T:TT}{G:ad}{n:Nat}
def Pn:Op->Bool
 | .alloc _| .box ..| .buildSlice ..| .store ..| .makeSlice ..| .makeMap ..| .lookup ..| .mapUpdate ..| .makeFunc ..=>true
 | .call ⟨.builtin .append,_,_⟩| .call ⟨.builtin .copy,_,_⟩=>true
 | .call ⟨.builtin _,_,_⟩=>false
 | .call _=>true
 |_=>false
def wh(n:Nat):Option Nat->Bool
 |none=>true
 |some d=>Nat.blt d n
def Pj(a:ar)(j:Nat):Option Nat:=
 match LA a j with
 |some o=>o.dst
 |none=>none
def gd(e:ar)(a:Fr)(g:Option (Nat×Bool))(Tv b:Fr->Prop):Prop:=
 match g with
 |none=>Tv a
 |some (j,c)=>match Pj e j with
  |none=>False
  |some d=>match km a d with
   | .tt=>bif c then Tv a else b a
   | .ff=>bif c then b a else Tv a
   | .un=>b a
   | .c (.t x)=>(x=true->bif c then Tv ((d,.tt)::a)else b ((d,.tt)::a))/\(x=false->bif c then b ((d,.ff)::a)else Tv ((d,.ff)::a))
   |_=>False
def wz(b:Program)(T:TT)(G:ad)(n:Nat)(c:ar):ar->Fr->E->(Fr->E->Prop)->Prop
 |[],a,m,k=>k a m
 |o::mC,a,m,k=>
  bif wh n o.dst then
   gd c a o.guard
    (λa=>bif Pn o.op then wr b T G n a m o.dst o.type (λd x e=>wz b T G n c mC (yg d o.dst x) e k) o.op
     else rd T a m (λx=>wz b T G n c mC (yg a o.dst x) m k) o.op)
    (λa=>wz b T G n c mC (yg a o.dst .un) m k)
  else False
def DO:ar->ad
 |[]=>[]
 |o::r=>match o.dst with
  |some d=>d::DO r
  |none=>DO r
def oV(M:ad)(a b:Act):Prop:=∀t,t∉M->b.tmps.getD t undef=a.tmps.getD t undef
def oV.cZ(M:ad)(a:Act):oV M a a:=λ_ _=>rfl
def oV.O{b c:Act}(h:oV M a b)(k:oV M b c):oV M a c:=λt d=>(k t d).trans (h t d)
def oV.cB(hd:∀t,d=some t->t∈M){v:Value}:oV M a (a.put d v):=by
 cases d with
 |none=>exact oV.cZ M a
 |some d=>
  intro t c;have b:d≠t:=cG;simp[Act.put,Vj b]
theorem Py{d:Nat}(hd:o.dst=some d):∀(a:ar),o∈a->d∈DO a:=by
 intro a;induction a with
 |nil=>intro h;cases h
 |cons x r c=>
  intro h;rcases aY.1 h with b|b
  .grind [DO,List.mem_cons_self]
  .grind [DO,List.mem_cons_of_mem]
def Ih(h:wh n d=true):∀t,d=some t->t<n:=by
 rintro t rfl;have:Nat.blt t n=true:=h;simpa[Nat.blt,Nat.succ_le_iff]using this
def MI(g:Array Oper){i:Fr}(j:mr n i a)(u:Bx n i m)(o:Oper){Tv s:Fr->Prop}(h:gd g.toList i o.guard Tv s):
 (Region.wanted o (yielded g a.tmps)=true/\∃b,Tv b/\mr n b a/\Bx n b m)\/
 (Region.wanted o (yielded g a.tmps)=false/\∃b,s b/\mr n b a/\Bx n b m):=by
 unfold gd at h
 cases k:o.guard with
 |none=>
  rw[k]at h
  exact bu ⟨by simp[Region.wanted,k],i,h,j,u⟩
 |some v=>
  obtain⟨q,z⟩:=v
  rw[k]at h
  simp only at h
  split at h
  .exact h.elim
  .rename_i d hd
   have w:(g[q]?).bind (·.dst)=some d:=by
    grind [Pj,tS]
   have b:=j.D d
   have p:∀c:Bool,a.tmps.getD d undef=.bool c->yielded g a.tmps q=some c:=by
    intro c e;have:a.tmps[d]? =some (.bool c):=by
     cases r:a.tmps[d]? with
     |none=>rw[Du,r]at e;simp[undef]at e
     |some y=>rw[Du,r]at e;simp at e;rw[e]
    grind [Go.yielded]
   split at h
   .rename_i f
    rw[f]at b
    have l:=p true b
    grind [Go.Region.wanted]
   .rename_i f
    rw[f]at b
    have l:=p false b
    grind [Go.Region.wanted]
   .rename_i f
    rw[f]at b
    have l:yielded g a.tmps q=none:=by
     have t:a.tmps.getD d undef=undef:=b;rw[Du]at t;grind [Go.yielded,Go.undef]
    grind [Go.Region.wanted]
   .rename_i x f
    rw[f]at b
    have l:=p x b
    have y:∀c:Bool,x=c->mr n ((d,if c then SV.tt else SV.ff)::i) a:=by
     rintro c rfl;refine⟨j.aP,j.nI,λt=>?_⟩;simp only[km];cases e:Nat.beq d t
     .exact j.D t
     .have:=gB e;subst this;cases x<;>exact b
    grind [Go.Region.wanted,Bx.jz]
   .exact h.elim
def adV(g:yE b T){c:Fr}(f:mr n c a)(e:Bx n c m){k:SV->Prop}(h:rd T c m k o.op){w:World}(p:w.heap=m)
 {d:Act->World->Prop}{Q:Exit->Act->World->Prop}(j:∀x v,k x->x.Is v->d (a.put o.dst v) w):o.wp b a w d Q:=by
 obtain⟨x,v,i,q,l⟩:=PQ (P:=b) g f e o h
 unfold Oper.wp
 rw[l w (λr _=>by rw[p])]
 exact j x v i q
def zd(p:yE b T)(t:GOK b G)(c:Array Oper){Q:Exit->Act->World->Prop}{J:World}{F:Act}:
 ∀(mC:ar)(e:Fr)(m:E)(k:Fr->E->Prop)(a:Act)(w:World),(∀o∈mC,o∈c.toList)->wz b T G n c.toList mC e m k->mr n e a->Bx n e m->w.heap=m->rK J w->
  oV (DO c.toList) F a->
  (∀i f g,k i g.heap->mr n i f->Bx n i g.heap->rK J g->oV (DO c.toList) F f->Q .normal f g)->wpList b c Q mC a w
 |[],e,m,k,a,w,_,h,y,v,f,s,q,r=>by
  subst f;exact r e a w h y v s q
 |o::mC,e,m,k,a,w,M,h,y,v,f,s,q,r=>by
  simp only[wz]at h;cases hd:wh n o.dst
  .grind
  .rw[hd]at h;simp only[po]at h;have z:=Ih hd;have A:∀d,o.dst=some d->d∈DO c.toList:=by grind [Py,List.mem_cons_self]
   have B:=λR O=>M R (aW _ O);unfold wpList;rcases MI c y v o h with⟨H,i,u,l,j⟩|⟨H,i,N,l,j⟩
   .rw[ba H];refine .inl ?_;cases I:Pn o.op
    .simp only[I,zO]at u;refine adV p l j u f λU S D C=>?_;exact zd p t c mC _ m k _ w B D (l.cB C z) j.cB f s (q.O (oV.cB A)) r
    .simp only[I,po]at u;refine U1 p t l j o u w f _ _ λV U S g D L K C P=>?_;exact zd p t c mC _ _ k _ g B D (L.cB C z) K.cB rfl (s.O P) (q.O (oV.cB A)) r
   .rw[aU cG];exact zd p t c mC _ m k _ w B N (l.cB (x:=.un) rfl z) j.cB f s (q.O (oV.cB A)) r
end Go.Vc
end
section
namespace Go.Vc
variable{P:Program}{T:TT}{G:ad}{n:Nat}
def yp:ad->Nat->Nat
 |[],_=>0
 |x::_,0=>x
 |_::r,n+1=>yp r n
def oH:afp->Nat
 |[]=>0
 |e::r=>bif Region.binds .any e then 2^e.on|||oH r else oH r
def sa(a:ad):afp->Nat
 |[]=>0
 |e::r=>bif Region.binds .any e then(2^e.on|||yp a e.on)|||sa a r else sa a r
def ov(a:ad):ar->ad->ad->Bool
 |[],[],[]=>true
 |o::d,p::e,b::c=>Nat.beq p (oH o.after.toList)&&Nat.beq b (sa a o.after.toList)&&ov a d e c
 |_,_,_=>false
def Xn:Op->aE
 | .alloc _| .ready _| .waits _=>[]
 | .move x| .assign x| .box _ x| .load _ x| .nilCheck x| .unOp _ _ x| .convert _ _ x| .sliceToArrayPointer _ x| .makeInterface _ x
 | .makeChan _ x| .fieldAddr _ x _| .field _ x _| .range _ x| .next x _| .entry x| .typeAssert x _ _ _| .extract x _| .panic x| .recv _ x _=>[x]
 | .pick c a b=>[c,a,b]
 | .build _ b| .buildSlice _ _ b=>b.toList.map (·.2)
 | .store _ a v| .binOp _ _ a v _| .makeSlice _ a v| .indexAddr _ a v| .index _ a v| .lookup _ a v _| .mapEntry _ a v| .send a v=>[a,v]
 | .makeFunc _ first a=>first.toList++a.toList
 | .makeMap _ r=>r.toList
 | .slice _ x l h m=>[x]++l.toList++h.toList++m.toList
 | .mapUpdate _ m k v| .entryStore _ m k v| .insert _ m k v=>[m,k,v]
 | .call ⟨.value f,a,_⟩| .go ⟨.value f,a,_⟩| .defer ⟨.value f,a,_⟩=>f::a.toList
 | .call ⟨.invoke f _,a,_⟩| .go ⟨.invoke f _,a,_⟩| .defer ⟨.invoke f _,a,_⟩=>f::a.toList
 | .call ⟨.builtin _,a,_⟩| .go ⟨.builtin _,a,_⟩| .defer ⟨.builtin _,a,_⟩=>a.toList
 | .select a _=>(a.flatMap λc=>#[c.chan]++c.send.toArray).toList
def ZJ(a:Op):a.operands.toList=Xn a:=by
 cases a<;>try (simp[Op.operands,Xn];done)
 all_goals
  rename_i c
  obtain⟨b,d,e⟩:=c
  cases b<;>simp[Op.operands,Xn,Call.operands]
def Nq(d:Nat):aE->Bool
 |[]=>false
 | .tmp t::r=>Nat.beq t d||Nq d r
 |_::r=>Nq d r
def SE(a:ar)(o:Oper)(d:Nat):Bool:=
 Nq d (Xn o.op)||(match o.guard with
  |some (g,_)=>(match Pj a g with|some t=>Nat.beq t d|none=>false)
  |none=>false)
def Sa(a:ar)(x y:Oper):Bool:=
 (match x.dst with
  |some d=>!SE a y d&&(match y.dst with|some e=>!Nat.beq d e|none=>true)
  |none=>true)&&
 (match y.dst with
  |some d=>!SE a x d
  |none=>true)
def acZ:Op->Bool
 | .select ..=>true
 |_=>false
def DJ(b:ar)(i:Nat)(a:Nat)(o:Oper):Nat->ar->ad->Bool
 |_,[],_=>true
 |_,_,[]=>true
 |j,x::c,p::d=>(Nat.beq j i||Nat.testBit p i||Nat.testBit a j||Sa b o x)&&DJ b i a o (j+1) c d
def JI(a:ar)(b:ad):Nat->ar->ad->Bool
 |_,[],_=>true
 |_,_,[]=>true
 |i,o::e,c::d=>!acZ o.op&&(Pn o.op||DJ a i c o 0 a b)&&JI a b (i+1) e d
def nM(done p i:Nat):Bool:=!(Nat.testBit done i)&&Nat.beq (p&&&done) p
def A3(done:Nat):Nat->ar->ad->Option Nat
 |_,[],_=>none
 |_,_,[]=>none
 |i,o::a,p::b=>bif nM done p i&&!(Pn o.op)then some i else A3 done (i+1) a b
def tU(done:Nat):Nat->ar->ad->ad
 |_,[],_=>[]
 |_,_,[]=>[]
 |i,_::a,p::b=>bif nM done p i then i::tU done (i+1) a b else tU done (i+1) a b
def P3(m a:E):ao->Prop->Prop
 |[],k=>k
 |(b,o)::r,k=>aR a b o=aR m b o/\P3 m a r k
def HU(a:Nat)(m b:E):List (Nat×ao)->Prop->Prop
 |[],k=>k
 |(r,c)::L,k=>bif Nat.testBit a r then HU a m b L k else P3 m b c (HU a m b L k)
def R9:ad->(Nat->Prop)->Prop
 |[],_=>True
 |[i],f=>f i
 |i::r,f=>f i/\R9 r f
def sO(P:Program)(T:TT)(G:ad)(n:Nat)(b:ar)(c d:ad):Nat->Nat->Fr->E->List (Nat×ao)->(Fr->E->Prop)->Prop
 |0,done,a,m,_,k=>match tU done 0 b c with
  |[]=>k a m
  |_=>False
 |e+1,done,a,m,L,k=>
  match A3 done 0 b c with
  |some i=>match LA b i with
   |some o=>bif wh n o.dst then
    gd b a o.guard
     (λa=>rd T a m (λx=>sO P T G n b c d e (done|||2^i) (yg a o.dst x) m ((i,YF T a o.op)::L) k) o.op)
     (λa=>sO P T G n b c d e (done|||2^i) (yg a o.dst .un) m L k)
    else False
   |none=>False
  |none=>match tU done 0 b c with
   |[]=>k a m
   |h=>R9 h λi=>match LA b i with
    |some o=>bif wh n o.dst then
     gd b a o.guard
      (λa=>wr P T G n a m o.dst o.type (λg x f=>HU (yp d i) m f L (sO P T G n b c d e (done|||2^i) (yg g o.dst x) f L k)) o.op)
      (λa=>sO P T G n b c d e (done|||2^i) (yg a o.dst .un) m L k)
     else False
    |none=>False
theorem qX(r:Nat):∀(a:afp),Nat.testBit (oH a) r=true<->∃e∈a,Region.binds .any e=true/\e.on=r
 |[]=>by simp[oH]
 |e::a=>by
  have b:=qX r a;grind [oH,Go.Region.binds]
theorem CC(b:ad)(r:Nat):∀(a:afp),Nat.testBit (sa b a) r=true->∃e∈a,Region.binds .any e=true/\(e.on=r\/Nat.testBit (yp b e.on) r=true)
 |[],h=>by simp[sa]at h
 |e::a,h=>by
  have c:=CC b r a;grind [sa,Go.Region.binds,List.mem_cons_of_mem,List.mem_cons_self]
def oX(c:ad):∀{d:ar}{e a:ad},ov c d e a=true->∀(i:Nat)(o:Oper),d[i]? =some o->
 e[i]? =some (oH o.after.toList)/\yp a i=sa c o.after.toList/\∃b,a[i]? =some b
 |[],[],[],_,i,o,h=>by simp at h
 |x::d,p::e,b::a,h,i,o,f=>by
  simp only[ov,eX]at h;obtain⟨⟨g,j⟩,k⟩:=h;cases i with
  |zero=>
   simp at f;subst f;exact⟨by simp[gB g],by simp[yp,gB j],b,bO⟩
  |succ i=>
   have:=oX c k i o cG;simpa[yp]using this
 |[],[],_::_,h,_,_,_=>by simp[ov]at h
 |[],_::_,_,h,_,_,_=>by simp[ov]at h
 |_::_,[],_,h,_,_,_=>by simp[ov]at h
 |_::_,_::_,[],h,_,_,_=>by simp[ov]at h
def Na(d:ad):∀{a:ar}{c b:ad},ov d a c b=true->c.length=a.length/\b.length=a.length
 |[],[],[],_=>⟨rfl,rfl⟩
 |x::a,p::c,e::b,h=>by
  simp only[ov,eX]at h;have:=Na d h.2;simp[this.1,this.2]
 |[],[],_::_,h=>by simp[ov]at h
 |[],_::_,_,h=>by simp[ov]at h
 |_::_,[],_,h=>by simp[ov]at h
 |_::_,_::_,[],h=>by simp[ov]at h
end Go.Vc
end
section
namespace Go.Vc
variable{N a:Nat}{b:Array Bool}
variable{P:Program}{T:TT}{G:ad}{n:Nat}
def xS{d:Nat}:∀{a:aE},Nq d a=false->d∉(a.filterMap λ| .tmp t=>some t|_=>none)
 |[],_=>bO
 |x::r,h=>by
  cases x with
  |tmp t=>
   simp only[Nq,cU]at h;have b:=xS h.2;have:t≠d:=λe=>by subst e;simp at h
   simp only[List.filterMap_cons,aY,Cj];exact⟨λe=>this e.symm,b⟩
  |const v=>simpa using xS (a:=r) (by simpa[Nq]using h)
  |global g=>simpa using xS (a:=r) (by simpa[Nq]using h)
  |func f=>simpa using xS (a:=r) (by simpa[Nq]using h)
def Zm(a:Array Oper)(g:Nat):Pj a.toList g=(a[g]?).bind (·.dst):=by
 grind [Pj,tS]
theorem MY(b:Array Oper){o:Oper}{d:Nat}(h:SE b.toList o d=false):d∉o.looksAt b:=by
 simp only[SE,cU]at h;unfold Oper.looksAt;rw[ZJ,bR,Cj];refine⟨xS h.1,?_⟩;have a:=h.2;cases c:o.guard with
 |none=>simp
 |some p=>
  obtain⟨g,f⟩:=p;rw[c]at a;simp only at a⊢;rw[Zm]at a;cases hd:(b[g]?).bind (·.dst)with
  |none=>simp
  |some t=>
   rw[hd]at a;simp only at a;simp only[Option.toList_some,FJ];intro e;subst e;simp at a
theorem TL(c:Array Oper){x y:Oper}(h:Sa c.toList x y=true):x.apart c y=true:=by
 simp only[Sa,eX]at h;obtain⟨a,j⟩:=h;unfold Oper.apart;simp only[eX];constructor
 .cases e:x.dst with
  |none=>rfl
  |some g=>
   rw[e]at a;simp only[eX,xX]at a⊢;refine⟨?_,?_⟩
   .grind [MY]
   .have b:=a.2;cases f:y.dst with
    |none=>simp
    |some i=>
     rw[f]at b;simp only[xX]at b;simp only[Tt,ne_eq,Vg];intro d;subst d;simp at b
 .grind [Bool.not_eq_true',MY]
def HA(f:ar)(a d:Nat)(o:Oper):∀{e:ar}{g:ad}{b:Nat},DJ f a d o b e g=true->∀(j:Nat)(x:Oper)(p:Nat),e[j]? =some x->g[j]? =some p->
 b+j=a\/Nat.testBit p a=true\/Nat.testBit d (b+j)=true\/Sa f o x=true
 |[],_,_,_,j,x,p,h,_=>by simp at h
 |_::_,[],_,_,j,x,p,_,h=>by simp at h
 |y::e,q::g,b,h,j,x,p,k,i=>by
  simp only[DJ,eX,eD]at h;obtain⟨c,m⟩:=h;cases j with
  |zero=>
   simp at k i;subst k;subst i;rcases c with((c|c)|c)|c
   .grind [Nat.eq_of_beq_eq_true]
   .grind
   .grind
   .grind
  |succ j=>
   have:=HA f a d o m j x p cG cG;have l:b+1+j=b+(j+1):=V;rw[l]at this;exact this
def AX(d:ar)(g:ad):∀{f:ar}{e:ad}{c:Nat},JI d g c f e=true->∀(a:Nat)(o:Oper)(b:Nat),f[a]? =some o->e[a]? =some b->
 acZ o.op=false/\(Pn o.op=true\/DJ d (c+a) b o 0 d g=true)
 |[],_,_,_,a,o,b,h,_=>by simp at h
 |_::_,[],_,_,a,o,b,_,h=>by simp at h
 |y::f,q::e,c,h,a,o,b,j,i=>by
  simp only[JI,eX,eD,xX]at h;obtain⟨⟨l,m⟩,n⟩:=h;cases a with
  |zero=>simp at j i;subst j;subst i;exact⟨l,sp m⟩
  |succ a=>
   have:=AX d g n a o b cG cG;have k:c+1+a=c+(a+1):=V;rw[k]at this;exact this
theorem MX(p d:Nat):Nat.beq (p&&&d) p=true<->∀r,Nat.testBit p r=true->Nat.testBit d r=true:=by
 constructor
 .grind [Nat.eq_of_beq_eq_true]
 .intro h;have:p&&&d=p:=by
   apply Nat.eq_of_testBit_eq;grind [Nat.testBit]
  rw[this];simp
@[grind cases] structure CG (N done:Nat) (listed:Array Bool):Prop where
 aP:listed.size=N
 bit:∀i,listed.getD i false=Nat.testBit done i
theorem CG.un{done:Nat}(h:CG N done b)(c:a<N):b.getD a true=Nat.testBit done a:=by
 grind [CG.bit,Array.size,CG.aP]
def CG.eB{done:Nat}(h:CG N done b)(d:a<N):CG N (done|||2^a) (b.setIfInBounds a true):=by
 refine⟨by simp[h.aP],λj=>?_⟩;have c:a<b.size:=by grind [CG.aP]
 rw[Nat.testBit_or,Nat.testBit_two_pow];by_cases e:a=j
 .subst e;simp[c]
 .rw[getD_set_ne false e,h.bit j];simp[e]
theorem LI(c:Array Oper){h e i:ad}(f:ov e c.toList h i=true){done:Nat}(l:CG c.size done b)(a:Nat):
 a∈Region.ready .any c b<->∃o p,c[a]? =some o/\h[a]? =some p/\nM done p a=true:=by
 rw[mem_ready]
 constructor
 .rintro⟨k,o,d,m⟩
  have j:a<c.size:=(gN.1 d).1
  have g:=(oX e f a o cG).1
  refine⟨o,_,d,g,?_⟩
  grind [nM,Bool.not_eq_true',CG.un,MX,qX,CG.bit]
 .rintro⟨o,p,d,g,m⟩
  have j:a<c.size:=(gN.1 d).1
  have k:=(oX e f a o cG).1
  grind [Option.some.injEq,nM,Bool.not_eq_true',CG.un,CG.bit,MX,qX]
theorem Pz(done:Nat):∀{c:ar}{d:ad}{b a:Nat},a∈tU done b c d<->∃j o p,a=b+j/\c[j]? =some o/\d[j]? =some p/\nM done p a=true
 |[],_,_,_=>by simp[tU]
 |_::_,[],_,_=>by simp[tU]
 |x::c,q::d,b,a=>by
  have h:=Pz done (c:=c) (d:=d) (b:=b+1) (a:=a);have k:(∃j o p,a=b+j/\(x::c)[j]? =some o/\(q::d)[j]? =some p/\nM done p a=true)<->
   ((a=b/\nM done q b=true)\/∃j o p,a=b+1+j/\c[j]? =some o/\d[j]? =some p/\nM done p a=true):=by
   constructor
   .grind
   .rintro(⟨rfl,e⟩|⟨j,o,p,rfl,f,g,e⟩)
    .exact⟨0,x,q,rfl,bO,bO,e⟩
    .exact⟨j+1,o,p,V,sp f,sp g,e⟩
  grind [tU,nM]
def MP(done:Nat):∀{c:ar}{d:ad}{b a:Nat},A3 done b c d=some a->∃j o p,a=b+j/\c[j]? =some o/\d[j]? =some p/\nM done p a=true/\Pn o.op=false
 |[],_,_,_,h=>by simp[A3]at h
 |_::_,[],_,_,h=>by simp[A3]at h
 |x::c,q::d,b,a,h=>by
  simp only[A3]at h;cases e:(nM done q b&&!(Pn x.op))
  .rw[e]at h;obtain⟨j,o,p,rfl,f,g,i,k⟩:=MP done h;grind
  .rw[e]at h;simp at h;subst h;grind [Bool.not_eq_true']
def Rq:∀{l:ad}{f:Nat->Prop},R9 l f->∀a∈l,f a
 |[a],f,h,j,b=>by simp at b;subst b;exact h
 |a::c::r,f,h,j,b=>by
  rcases aY.1 b with rfl|b
  .exact h.1
  .exact Rq h.2 j b
def P4{m b:E}:∀{l:ao}{k:Prop},P3 m b l k->k/\∀q∈l,aR b q.1 q.2=aR m q.1 q.2
 |[],k,h=>⟨h,bO⟩
 |(e,o)::r,k,h=>by
  obtain⟨c,d⟩:=P4 h.2;refine⟨c,λq a=>?_⟩;rcases aY.1 a with rfl|a
  .exact h.1
  .exact d q a
def Jx{a:Nat}{m d:E}:∀{L:List (Nat×ao)}{k:Prop},HU a m d L k->k/\∀x∈L,Nat.testBit a x.1=false->∀q∈x.2,aR d q.1 q.2=aR m q.1 q.2
 |[],k,h=>⟨h,bO⟩
 |(r,j)::L,k,h=>by
  simp only[HU]at h;cases c:Nat.testBit a r
  .rw[c]at h;obtain⟨e,l⟩:=P4 h;obtain⟨b,f⟩:=Jx e;refine⟨b,λx g i=>?_⟩;grind
  .rw[c]at h;obtain⟨b,f⟩:=Jx h;refine⟨b,λx g i=>?_⟩;grind
def aeR(L:List (Nat×ao))(b:List (Nat×(World->Prop))):Prop:=
 ∀x∈b,(∀w,x.2 w)\/∃(a:ao)(c:Nat×Nat->Option Value),(x.1,a)∈L/\x.2=λw=>∀q∈a,aR w.heap q.1 q.2=c q
end Go.Vc
end
section
namespace Go.Vc
variable{a:Program}{T:TT}{G:ad}{n:Nat}
def Tm(hT:yE a T)(hG:GOK a G)(b:Array Oper){M d:ad}(F:ov d b.toList M d=true)(af:JI b.toList M 0 b.toList d=true)
 {ab:Exit->Act->World->Prop}(hQ:∀z e w,¬ab (.panic z) e w){w0:World}{a0:Act}:
 ∀(t done:Nat)(A:Fr)(X:E)(L:List (Nat×ao))(r:Fr->E->Prop)(y:List (Nat×(World->Prop)))(c:Array Bool)(e:Act)(w:World),
  sO a T G n b.toList M d t done A X L r->aeR L y->CG b.size done c->H9 (λi N=>Nat.testBit (yp d i) N) c->mr n A e->Bx n A X->w.heap=X->rK w0 w->
  oV (DO b.toList) a0 e->
  (∀m g f,r m f.heap->mr n m g->Bx n m f.heap->rK w0 f->oV (DO b.toList) a0 g->ab .normal g f)->
  zL a .any b ab (λi N=>Nat.testBit (yp d i) N) y t c e w:=by
 have C:aae .any b (λi N=>Nat.testBit (yp d i) N):=by
  intro i N o u hr;have Z:=(oX d F i o cG).2.1;grind [CC]
 have ay:=Na d F
 have ai:∀(j:Nat)(o:Oper) cs l,b[j]? =some o->o.op≠.select cs l:=by
  intro j o cs l u g;obtain⟨_,_,bj,am⟩:=oX d F j o cG;have:=(AX _ _ af j o bj cG am).1;grind [acZ]
 have ah:∀{done:Nat}{c:Array Bool},CG b.size done c->∀i,i∈Region.ready .any b c<->i∈tU done 0 b.toList M:=by
  grind [LI,Pz]
 have ap:∀{done:Nat}{c:Array Bool},CG b.size done c->tU done 0 b.toList M=[]->Region.ready .any b c=[]:=by
  intro done c hD h;apply List.eq_nil_iff_forall_not_mem.2;grind
 intro t
 induction t with
 |zero=>
  intro done A X L r y c e w h hL hD hC hR hB hw hs hk hq
  subst hw
  simp only[sO]at h
  split at h
  .rename_i k
   exact⟨ap hD k,hq A e w h hR hB hs hk⟩
  .exact h.elim
 |succ t J=>
  intro done A X L r y c e w h hL hD hC hR hB hw hs hk hq
  subst hw
  simp only[sO]at h
  split at h
  · -- a reading is taken first
   rename_i i D
   obtain⟨j,o,aw,g,u,hp,hr,aA⟩:=MP done D
   have:i=j:=V
   subst this
   rw[tS,u]at h
   simp only at h
   have H:b[i]? =some o:=cG
   have W:i<b.size:=(gN.1 H).1
   have aa:i∈Region.ready .any b c:=by grind [LI]
   cases hd:wh n o.dst
   .grind
   .rw[hd]at h
    simp only[po]at h
    have R:=Ih hd
    have U:∀Q,o.dst=some Q->Q∈DO b.toList:=by grind [Py,List.mem_of_getElem?]
    have ag:∀j K,b[j]? =some K->j≠i->c.getD j true=false->(∀g∈K.after,Region.binds .any g=true->g.on≠i)->o.apart b K=true:=by
     intro j K an av ax az;have au:j<b.size:=(gN.1 an).1;obtain⟨_,ar,bi,al⟩:=oX d F i o u;rcases(AX _ _ af i o bi u al).2 with B|B
     .grind
     .have p:=(oX d F j K cG).1;have q:yp d i=bi:=by
       have:∀(k:ad)(i l:Nat),k[i]? =some l->yp k i=l:=by
        intro k;induction k with
        |nil=>intro i l h;simp at h
        |cons Y k J=>intro i l h;cases i with
         |zero=>simpa[yp]using h
         |succ i=>simpa[yp]using J i l cG
       grind
      rcases HA _ _ _ _ B j K _ cG p with g|g|g|g
      .grind
      .grind [qX]
      .grind [Bt,CG.bit,CG.un]
      grind [TL]
    rcases MI b hR hB o h with⟨I,m,ae,q,p⟩|⟨I,m,ac,q,p⟩
    .obtain⟨Y,aj,hx,hv,aq⟩:=PQ (P:=a) hT q p o ae
     let ak:World->Prop:=λf=>∀s∈YF T m o.op,aR f.heap s.1 s.2=aR w.heap s.1 s.2
     refine K9 (S:=ak) C H ai (λz e w hc=>absurd hc (hQ _ _ _)) t c e w hC ag aa (v:=aj) (bu ⟨I,λf k=>aq f k⟩) (λs _=>rfl) ?_
     refine J _ _ _ _ r _ _ _ w hx ?_ (hD.eB W) (hC.eB C aa) (q.cB hv R) p.cB rfl hs (hk.O (oV.cB U)) hq
     intro O k
     rcases aY.1 k with rfl|k
     .grind [aR,List.mem_cons_self]
     .rcases hL O k with B|⟨As,z,Z,h2⟩
      .exact bu B
      .exact bG ⟨As,z,aW _ Z,h2⟩
    .refine K9 (S:=λ_=>True) C H ai (λz e w hc=>absurd hc (hQ _ _ _)) t c e w hC ag aa (v:=undef) (bG ⟨I,rfl⟩) trivial ?_
     refine J _ _ _ _ r _ _ _ w ac ?_ (hD.eB W) (hC.eB C aa) (q.cB (x:=.un) rfl R) p.cB rfl hs (hk.O (oV.cB U)) hq
     intro O k
     rcases aY.1 k with rfl|k
     .grind
     .exact hL O k
  .split at h
   .grind [U0]
   .rename_i rs an
    have al:=Rq h
    refine Ww ?_ ?_
    .intro g
     apply an
     cases h:tU done 0 b.toList M with
     |nil=>rfl
     |cons Y K=>
      have:Y∈Region.ready .any b c:=(ah hD Y).2 cG
      rw[g]at this
      cases this
    .intro i D
     have h:=al i ((ah hD i).1 D)
     obtain⟨o,aw,H,hp,hr⟩:=(LI b F hD i).1 D
     have u:b.toList[i]? =some o:=cG
     have W:i<b.size:=(gN.1 H).1
     rw[tS,u]at h
     simp only at h
     cases hd:wh n o.dst
     .grind
     .rw[hd]at h
      simp only[po]at h
      have R:=Ih hd
      have U:∀Q,o.dst=some Q->Q∈DO b.toList:=by grind [Py,List.mem_of_getElem?]
      unfold wpOp
      simp only[H]
      rcases MI b hR hB o h with⟨I,m,ae,q,p⟩|⟨I,m,ac,q,p⟩
      .rw[ba I]
       refine .inl (U1 hT hG q p o ae w rfl _ _ λax Y aj f hx ak ag hv aq=>?_)
       obtain⟨ar,au⟩:=Jx hx
       refine⟨λO k av K=>?_,J _ _ _ L r y _ _ f ar hL (hD.eB W) (hC.eB C D) (ak.cB hv R) ag.cB rfl (hs.O aq) (hk.O (oV.cB U)) hq⟩
       rcases hL O k with B|⟨As,z,Z,h2⟩
       .exact B f
       .rw[h2]at K⊢
        intro s aa
        rw[au _ Z av s aa,K s aa]
      .rw[aU cG]
       exact⟨λO k _ K=>K,J _ _ _ L r y _ _ w ac hL (hD.eB W) (hC.eB C D) (q.cB (x:=.un) rfl R) p.cB rfl hs (hk.O (oV.cB U)) hq⟩
end Go.Vc
end
section
namespace Go.Vc
variable{M:ad}{a:Act}{s:Sh}{y:s.ty}
variable{P:Program}{T:TT}{G:ad}{n:Nat}
structure Tu where
 Zz:List (Nat×aw)
 aax:List (Nat×aw)
 fL:List (Nat×ad)
def lk{α:Type}:List (Nat×α)->Nat->Option α
 |[],_=>none
 |(u,x)::r,t=>bif Nat.beq u t then some x else lk r t
def HG:Code->Option Nat
 | .region id _ _=>some id
 | .seq a b=>match HG a with
  |some i=>some i
  |none=>HG b
 | .cond _ a b=>match HG a with
  |some i=>some i
  |none=>HG b
 | .block _ c=>HG c
 | .loop c=>HG c
 | .scope c=>HG c
 |_=>none
def lkH{α:Type}(l:List (Nat×α))(c:Code):Option α:=
 match HG c with
 |some i=>lk l i
 |none=>none
def Lb:aw->Type
 |[]=>E->Prop
 |(_,s)::r=>s.ty->Lb r
def RZ:aw->Type
 |[]=>E->Nat
 |(_,s)::r=>s.ty->RZ r
def VL:(s:Sh)->SV->Option s.ty
 | .I,.c (.i n)=>some n
 | .U k,.c (.u b n)=>if k=b then some n else none
 | .T,.c (.t b)=>some b
 | .T,.tt=>some true
 | .T,.ff=>some false
 | .S,.c (.s x)=>some x
 | .P,.c (.p b o)=>some (b,o)
 | .P,.c (.bp _ b o)=>some (b,o)
 | .Q,.c (.pp q)=>some q
 | .Q,.c (.p b o)=>some (some (b,o))
 | .Q,.c .pn=>some none
 | .F,.c (.fn f a c)=>some (f,a,c)
 | .F,.c (.fv q)=>some q
 | .M,.c (.mp b)=>some b
 |_,_=>none
def Lf:(l:aw)->Lb l->Fr->E->Prop
 |[],I,_,m=>I m
 |(t,s)::r,I,a,m=>match VL s (km a t)with
  |some x=>Lf r (I x) a m
  |none=>False
def Sb:(l:aw)->Lb l->RZ l->Fr->E->Nat->Prop
 |[],I,μ,_,m,N=>I m/\μ m<N
 |(t,s)::r,I,μ,a,m,N=>match VL s (km a t)with
  |some x=>Sb r (I x) (μ x) a m N
  |none=>False
def TG:(l:aw)->Lb l->Fr->(Fr->(E->Prop)->Prop)->Prop
 |[],I,a,k=>k a I
 |(t,s)::r,I,a,k=>∀x:s.ty,TG r (I x) ((t,.c (s.mk x))::a) k
def TH:(l:aw)->Lb l->RZ l->Fr->(Fr->(E->Prop)->(E->Nat)->Prop)->Prop
 |[],I,μ,a,k=>k a I μ
 |(t,s)::r,I,μ,a,k=>∀x:s.ty,TH r (I x) (μ x) ((t,.c (s.mk x))::a) k
def rB:ad->Fr->Fr
 |[],a=>a
 |t::r,a=>(t,.jz)::rB r a
def sI:Code->ad
 | .region _ b _=>DO b.toList
 | .seq a b=>sI a++sI b
 | .cond _ a b=>sI a++sI b
 | .block _ c=>sI c
 | .loop c=>sI c
 |_=>[]
def tY(M:ad):aw->Bool
 |[]=>true
 |(t,_)::r=>Bl t M&&tY M r
def eqS(x y:SV)(k:Prop):Prop:=x=y/\k
theorem nJ(x:SV)(k:Prop):eqS x x k=k:=by simp[eqS]
def eG(A:Tu)(c:Code):ad:=
 match lkH A.fL c with
 |some K=>K
 |none=>[]
def HB(n:Nat)(K:ad):Fr->ad
 |[]=>[]
 |(q,_)::r=>bif Nat.ble n q&&!Bl q K then q::HB n K r else HB n K r
def yJ(n:Nat)(K:ad)(a:Fr):Fr:=rB (HB n K a) a
def eqK(a b:Fr):ad->Prop->Prop
 |[],k=>k
 |q::K,k=>eqS (km b q) (km a q) (eqK a b K k)
def PN(c:Fr):Op->Option SV
 | .move x| .assign x=>match ev c x with
  | .jz=>none
  |y=>some y
 | .binOp d _ x y _=>match ev c x,ev c y with
  | .c (.i a),.c (.i b)=>match d with
   | .eql=>some (.c (.t (a==b)))
   | .neq=>some (.c (.t (a !=b)))
   | .lss=>some (.c (.t (decide (a<b))))
   | .leq=>some (.c (.t (decide (a<=b))))
   | .gtr=>some (.c (.t (decide (a>b))))
   | .geq=>some (.c (.t (decide (a>=b))))
   |_=>none
  |_,_=>none
 |_=>none
def uX(n:Nat):ar->Fr->Option Fr
 |[],a=>some a
 |o::r,a=>bif wh n o.dst then
  match o.guard with
  |none=>match PN a o.op with
   |some x=>uX n r (yg a o.dst x)
   |none=>none
  |some _=>none
  else none
def orB(A:Tu)(n t:Nat):Code->Fr->Option Bool
 | .region _ d false,b=>match uX n d.toList b with
  |some a=>oD (km a t)
  |none=>none
 | .seq (.region _ d false) (.cond (.tmp u) .skip c),b=>
  match lkH A.aax (.cond (.tmp u) .skip c)with
  |some _=>none
  |none=>bif Nat.beq u t&&Bl t (sI c)then
   match uX n d.toList b with
   |some a=>match oD (km a t),orB A n t c a with
    |some x,some y=>some (x||y)
    |_,_=>none
   |none=>none
   else none
 |_,_=>none
def orT(A:Tu)(n:Nat)(c:Operand)(a b:Code)(d:Fr):Option (Nat×Bool):=
 match c,a with
 | .tmp t,.skip=>bif Bl t (sI b)then
  match orB A n t b d with
  |some y=>some (t,y)
  |none=>none
  else none
 |_,_=>none
def yR(a:Fr)(c:Operand)(v:SV):Fr:=
 match c with
 | .tmp t=>(t,v)::a
 |_=>a
def pmG:ar->ad
 |[]=>[]
 |o::r=>oH o.after.toList::pmG r
def YZ:ad->ar->ad
 |a,[]=>a
 |a,o::r=>YZ (a++[sa a o.after.toList]) r
def uA:Code->Bool
 | .region _ b c=>!c||(ov (YZ [] b.toList) b.toList (pmG b.toList) (YZ [] b.toList)&&JI b.toList (pmG b.toList) 0 b.toList (YZ [] b.toList))
 | .seq a b=>uA a&&uA b
 | .cond _ a b=>uA a&&uA b
 | .block _ c=>uA c
 | .loop c=>uA c
 |_=>true
def vc(P:Program)(T:TT)(G:ad)(n:Nat)(A:Tu):Code->Fr->E->(Exit->Fr->E->Prop)->Prop
 | .skip,b,m,Q=>Q .normal b m
 | .region id c d,b,m,Q=>
  bif d then sO P T G n c.toList (pmG c.toList) (YZ [] c.toList) c.toList.length 0 b m [] (λb m=>Q .normal b m)
  else wz P T G n c.toList c.toList b m (λb m=>Q .normal b m)
 | .seq a f,b,m,Q=>match lkH A.aax f with
  |none=>vc P T G n A a b m λ
   | .normal,d,c=>vc P T G n A f d c Q
   |g,d,c=>Q g d c
  |some l=>bif tY (sI a) l then∃K:Lb l,(vc P T G n A a b m λ
   | .normal,d,c=>eqK b d (eG A f) (Lf l K d c)
   |g,d,c=>Q g d c)/\
   (TG l K (rB (sI a) (yJ n (eG A f) b)) λd e=>∀c,e c->vc P T G n A f d c Q)else False
 | .cond e a f,b,m,Q=>match ev b e with
  | .tt=>vc P T G n A a b m Q
  | .ff=>vc P T G n A f b m Q
  | .c (.t x)=>match orT A n e a f b with
   |some (t,y)=>Q .normal ((t,.c (.t (x||y)))::rB (sI f) b) m
   |none=>(x=true->vc P T G n A a (yR b e .tt) m Q)/\(x=false->vc P T G n A f (yR b e .ff) m Q)
  |_=>False
 | .block id e,b,m,Q=>vc P T G n A e b m λ
  | .exit i,d,c=>bif Nat.beq i id then Q .normal d c else Q (.exit i) d c
  |g,d,c=>Q g d c
 | .loop e,b,m,Q=>match lkH A.Zz e with
  |none=>False
  |some l=>bif tY (sI e) l then∃(I:Lb l)(μ:RZ l),Lf l I b m/\
   (TH l I μ (rB (sI e) (yJ n (eG A e) b)) λd i μ'=>∀c,i c->vc P T G n A e d c λ
    | .normal,f,h=>eqK b f (eG A e) (Sb l I μ f h (μ' c))
    |g,f,h=>Q g f h)else False
 | .exit id,b,m,Q=>Q (.exit id) b m
 | .ret,b,m,Q=>Q .ret b m
 |_,_,_,_=>False
theorem oV.aO{b:ad}{c:Act}(h:oV M a c)(e:∀t∈M,t∈b):oV b a c:=λt f=>h t λd=>f (e t d)
def FU:∀(M:ad)(a:Fr)(t:Nat),(t∈M/\km (rB M a) t=.jz)\/(t∉M/\km (rB M a) t=km a t)
 |[],_,_=>bG ⟨bO,rfl⟩
 |u::M,a,t=>by
  simp only[rB,km];cases d:Nat.beq u t
  .have f:u≠t:=λe=>by subst e;simp at d
   rcases FU M a t with⟨b,c⟩|⟨b,c⟩
   .grind [List.mem_cons_of_mem]
   grind
  .grind [Nat.eq_of_beq_eq_true,List.mem_cons_self]
def Et{c:Fr}{b:Act}(f:mr n c a)(i:b.tmps.size=n)(hd:b.defers=[])(g:oV M a b):mr n (rB M c) b:=by
 refine⟨i,hd,λt=>?_⟩;rcases FU M c t with⟨_,h⟩|⟨d,e⟩
 .rw[h];trivial
 .rw[e,g t d];exact f.D t
def mr.rB{b:Fr}{a:Act}(c:mr n b a):∀(M:ad),mr n (rB M b) a
 |[]=>c
 |t::M=>(mr.rB c M).jz t
def Bx.rB{a:Fr}{m:E}(h:Bx n a m):∀(M:ad),Bx n (rB M a) m
 |[]=>h
 |t::M=>(Bx.rB h M).jz bO
theorem Rw{K:ad}{q:Nat}(c:n<=q)(b:q∉K):∀{a:Fr},q∈HB n K a\/km a q=.jz
 |[]=>bG rfl
 |(u,x)::r=>by
  simp only[HB,km];cases d:Nat.beq u q
  .rcases Rw c b (a:=r)with h|h
   .grind [Nat.ble,Bl,List.mem_cons_of_mem]
   .exact bG h
  .grind [Nat.eq_of_beq_eq_true,Bl,Lv,Nat.ble,Nat.ble_eq_true_of_le]
def O9{b c:Fr}:∀{K:ad}{k:Prop},eqK b c K k->(∀q∈K,km c q=km b q)/\k
 |[],k,h=>⟨bO,h⟩
 |q::K,k,h=>by
  obtain⟨d,e⟩:=O9 h.2;refine⟨λu a=>?_,e⟩;rcases aY.1 a with rfl|a
  .exact h.1
  .exact d u a
def Bx.eG{K:ad}{a g:Fr}{t k:E}(h:Bx n a t)(p:Bx n g k)(v:∀q∈K,km g q=km a q):Bx n (Vc.rB M (yJ n K a)) k:=by
 have f:∀{q b e l},oQ (Vc.rB M (yJ n K a)) q b e l->oQ a q b e l/\oQ g q b e l:=by
  intro q b e l c;have d:km (Vc.rB M (yJ n K a)) q=km (yJ n K a) q\/km (Vc.rB M (yJ n K a)) q=.jz:=by
   rcases FU M (yJ n K a) q with⟨_,h⟩|⟨_,h⟩
   .exact bG h
   .exact bu h
  unfold oQ at c;rcases d with d|d
  .rw[d]at c;unfold yJ at c;rcases FU (HB n K a) a q with⟨_,i⟩|⟨j,i⟩
   .grind
   grind [Bx.MW,oQ,Rw]
  .grind
 exact⟨λq b e l c=>p.bq q b e l (f c).2,λq u b e l m o s r j i=>h.VA q u b e l m o s r (f j).1 (f i).1,λq b e l c=>h.MW q b e l (f c).1⟩
def Yb{x:SV}(h:VL s x=some y):x.mJ=true/\x.v=(s.mk y).v:=by
 unfold VL at h;split at h<;>first|(simp at h;subst h;exact⟨rfl,rfl⟩)|skip
 .split at h
  .rename_i a;subst a;simp at h;subst h;exact⟨rfl,rfl⟩
  .simp at h
 .simp at h
def PX{c da:Fr}{t:Nat}(f:mr n c a)(b:mr n da a)(h:VL s (km c t)=some y):mr n ((t,.c (s.mk y))::da) a:=by
 refine⟨b.aP,b.nI,λu=>?_⟩;simp only[km];cases g:Nat.beq t u
 .exact b.D u
 .have:=gB g;subst this;have d:=f.D t;obtain⟨i,j⟩:=Yb h;have e:=d.eq i;show _=_;rw[e,j];rfl
def YL:(l:aw)->Lb l->RZ l->Fr->Fr->(E->Prop)->(E->Nat)->Prop
 |[],I,μ,b,c,a,μ'=>c=b/\a=I/\μ'=μ
 |(t,s)::r,I,μ,b,c,a,μ'=>∃x:s.ty,YL r (I x) (μ x) ((t,.c (s.mk x))::b) c a μ'
def Rr:∀{l:aw}{I:Lb l}{μ:RZ l}{b:Fr}{k:Fr->(E->Prop)->(E->Nat)->Prop},TH l I μ b k->∀{fr' I' μ'},YL l I μ b fr' I' μ'->k fr' I' μ'
 |[],_,_,_,_,h,_,_,_,a=>by obtain⟨rfl,rfl,rfl⟩:=a;exact h
 |(t,s)::r,_,_,_,_,h,_,_,_,a=>by obtain⟨x,a⟩:=a;exact Rr (h x) a
def Sh.ZC(s:Sh)(x:s.ty)(b e:Nat)(l:ae):SV.c (s.mk x)≠.box b e l/\SV.c (s.mk x)≠.DK b e l:=⟨bO,bO⟩
def Rv{a:Act}{f:Fr}(g:mr n f a):∀{l:aw}{I:Lb l}{μ:RZ l}{da:Fr}{m:E}{N:Nat},mr n da a->Bx n da m->Sb l I μ f m N->
 ∃b c μ',YL l I μ da b c μ'/\mr n b a/\Bx n b m/\c m/\μ' m<N
 |[],I,μ,da,_,_,e,d,h=>⟨da,I,μ,⟨rfl,rfl,rfl⟩,e,d,h.1,h.2⟩
 |(t,s)::r,I,μ,da,m,N,e,d,h=>by
  simp only[Sb]at h;split at h
  .rename_i x p;obtain⟨b,c,μ',i,j,k,o⟩:=Rv g (PX g e p) (d.jz (s.ZC x)) h;exact⟨b,c,μ',⟨x,i⟩,j,k,o⟩
  .exact h.elim
def Ru{a:Act}{f:Fr}(g:mr n f a):∀{l:aw}{I:Lb l}{μ:RZ l}{da:Fr}{m:E},mr n da a->Bx n da m->Lf l I f m->
 ∃b c μ',YL l I μ da b c μ'/\mr n b a/\Bx n b m/\c m
 |[],I,μ,da,_,e,d,h=>⟨da,I,μ,⟨rfl,rfl,rfl⟩,e,d,h⟩
 |(t,s)::r,I,μ,da,m,e,d,h=>by
  simp only[Lf]at h;split at h
  .rename_i x o;obtain⟨b,c,μ',i,j,k⟩:=Ru g (PX g e o) (d.jz (s.ZC x)) h;exact⟨b,c,μ',⟨x,i⟩,j,k⟩
  .exact h.elim
def TM{a:Act}{g:Fr}(i:mr n g a):∀{l:aw}{I:Lb l}{da:Fr}{m:E}{k:Fr->(E->Prop)->Prop},mr n da a->Bx n da m->Lf l I g m->TG l I da k->
 ∃b f,k b f/\mr n b a/\Bx n b m/\f m
 |[],I,da,_,_,d,c,h,e=>⟨da,I,e,d,c,h⟩
 |(t,s)::r,I,da,m,k,d,c,h,e=>by
  simp only[Lf]at h;split at h
  .rename_i x j;exact TM i (PX i d j) (c.jz (s.ZC x)) h (e x)
  .exact h.elim
def Yz{d:Code}{Q:Exit->Act->World->Prop}(b:Nat->Act->World->Prop)
 (f:∀N a w,b N a w->d.wp P (Exit.then (λe g=>∃c,c<N/\b c e g) Q) a w):∀N a w,b N a w->(Code.loop d).wp P Q a w:=by
 have g:∀N a w,b N a w->∃M,b M a w/\∀c,c<M->¬b c a w:=by
  intro N;induction N using Nat.strongRecOn with
  |_ N i=>
   intro a w h;by_cases e:∃c,c<N/\b c a w
   .grind
   .grind
 intro N a w e
 classical
 let μ:Act->World->Nat:=λa w=>if h:∃M,b M a w/\∀c,c<M->¬b c a w then Classical.choose h else 0
 have hμ:∀a w N,b N a w->b (μ a w) a w/\μ a w<=N:=by
  grind [Classical.choose,Classical.choose_spec,Nat.lt_or_ge]
 refine wp_loop (λa w=>∃N,b N a w) μ ⟨N,e⟩ ?_
 rintro a w ⟨N,h⟩
 refine mj ?_ (f (μ a w) a w (hμ a w N h).1)
 grind [Nat.lt_of_le_of_lt]
end Go.Vc
end
section
namespace Go.Vc
variable{i w:World}{j p:ad}{l a:Act}{f:Exit->Fr->E->Prop}{e:Exit}{b:E}
variable{g:Program}{h:TT}{G:ad}{d:Nat}{o:Tu}
def mG(d:Nat)(i:World)(j:ad)(l:Act)(f:Exit->Fr->E->Prop):Exit->Act->World->Prop
 | .panic _,_,_=>False
 | .outgrown,_,_=>False
 |e,a,w=>∃b,mr d b a/\Bx d b w.heap/\rK i w/\oV j l a/\f e b w.heap
theorem mG.mk{b:Fr}(g:(∀c,e≠.panic c)/\e≠.outgrown)
 (k:mr d b a)(h:Bx d b w.heap)(o:rK i w)(m:oV j l a)(n:f e b w.heap):mG d i j l f e a w:=by
 cases e with
 |panic c=>exact absurd rfl (g.1 c)
 |outgrown=>exact absurd rfl g.2
 |_=>exact⟨b,k,h,o,m,n⟩
theorem mG.cC(h:mG d i j l f e a w):
 ((∀c,e≠.panic c)/\e≠.outgrown)/\∃b,mr d b a/\Bx d b w.heap/\rK i w/\oV j l a/\f e b w.heap:=by
 cases e with
 |panic c=>exact h.elim
 |outgrown=>exact h.elim
 |_=>exact⟨⟨bO,bO⟩,h⟩
def mG.Zw(h:mG d i j l f e a w):mG d i (j++p) l f e a w:=by
 grind [mG.cC,mG.mk,oV.aO,List.mem_append_left]
def mG.Xp(h:mG d i j l f e a w):mG d i (p++j) l f e a w:=by
 grind [mG.cC,mG.mk,oV.aO,List.mem_append_right]
def Yl{f:Fr}{e:Op}{x:SV}{k:SV->Prop}(c:PN f e=some x)(d:k x):Pn e=false/\rd h f b k e:=by
 unfold PN at c;split at c
 .split at c
  .simp at c
  .simp at c;subst c;exact⟨rfl,d⟩
 .split at c
  .simp at c
  .simp at c;subst c;exact⟨rfl,d⟩
 .rename_i o t y z l;split at c
  .rename_i a j g i;refine⟨rfl,?_⟩;simp only[rd,g,i];split at c<;>simp at c<;>subst c<;>exact d
  .simp at c
 .simp at c
theorem Iz(j:ar){b:E}{i:Fr->E->Prop}:∀{n:ar}{c e:Fr},uX d n c=some e->i e b->wz g h G d j n c b i
 |[],c,e,a,f=>by simp[uX]at a;subst a;exact f
 |o::r,c,e,a,f=>by
  simp only[uX]at a;simp only[wz];cases hd:wh d o.dst
  .grind
  .rw[hd]at a;simp only[po]at a⊢;cases l:o.guard with
   |some p=>rw[l]at a;simp at a
   |none=>
    rw[l]at a;simp only[gd]at a⊢;split at a
    .rename_i x p;obtain⟨q,s⟩:=Yl (h:=h) (b:=b) (k:=λx=>wz g h G d j r (yg c o.dst x) b i) p (Iz j a f);grind
    .simp at a
def ZK(p:Nat){b:E}{f:Exit->Fr->E->Prop}:∀(k:Code)(l:Fr)(y:Bool),orB o d p k l=some y->(∀i,oD (km i p)=some y->f .normal i b)->vc g h G d o k l b f
 | .region id z e,l,y,a,n=>by
  cases e
  .grind [orB,vc,Iz]
  .simp[orB]at a
 | .seq (.region id z false) (.cond (.tmp u) .skip k),l,y,a,n=>by
  simp only[orB]at a;split at a
  .simp at a
  .rename_i s;cases m:(Nat.beq u p&&Bl p (sI k))
   .grind
   .rw[m]at a;simp only[po]at a;simp only[eX]at m;have x:=gB m.1;subst x;split at a
    .rename_i i w;split at a
     .rename_i C A e q;simp at a;subst a;rw[vc,s];simp only;rw[vc];simp only[zO];refine Iz _ w ?_;rw[vc];have v:ev i (.tmp u)=(km i u).nb:=rfl;rw[v];cases j:km i u with
      |tt=>
       rw[j]at e;simp[oD]at e;subst e;simp only[SV.nb,vc];exact n i (by rw[j];simp[oD])
      |ff=>
       rw[j]at e;simp[oD]at e;subst e;simp only[SV.nb];exact ZK u k i A q (λr B=>n r cG)
      |c r=>
       cases r with
       |t B=>
        rw[j]at e;simp[oD]at e;subst e;simp only[SV.nb,orT,m.2,po,q];exact n _ (by simp[km,oD])
       |_=>rw[j]at e;simp[oD]at e
      |_=>rw[j]at e;simp[oD]at e
     .simp at a
    .simp at a
def Z2(hT:yE g h)(hG:GOK g G)(aq:g.follows .mixedOrders=true)(i:World):∀(D:Code),uA D=true->∀(l:Fr)(b:E)(f:Exit->Fr->E->Prop)(a:Act)(w:World),
 vc g h G d o D l b f->mr d l a->Bx d l b->w.heap=b->rK i w->D.wp g (mG d i (sI D) a f) a w:=by
 intro D
 induction D with
 |skip=>
  intro hd l b f a w c k s x t
  subst x
  exact wp_skip ⟨l,k,s,t,oV.cZ _ _,c⟩
 |region id p z=>
  intro hd l b f a w c k s x t
  simp only[vc]at c
  cases z
  .simp only[zO]at c
   refine wp_region_list ?_
   exact zd hT hG p p.toList l b (f .normal) a w (λ_ c=>c) c k s x t (oV.cZ _ _) λB H O j r v u q=>⟨B,r,v,u,q,j⟩
  .simp only[po]at c
   simp only[uA,aa3,aa2,eX]at hd
   refine wp_region_any aq (QH (e:=λy C=>Nat.testBit (yp (YZ [] p.toList) y) C) (L:=[]) _ _ _ _ ?_)
   have F:p.toList.length=p.size:=bO
   rw[F]at c
   refine Tm hT hG p hd.1 hd.2 (λD a w Z=>Z) (w0:=i) (a0:=a) p.size 0 l b [] (f .normal) [] _ a _ c (λC Z=>by cases Z) ⟨bO,λy=>by simp[aa1];split<;>rfl⟩ (λy X=>by simp[aa1]at X;split at X<;>simp at X) k s x ⟨t.os,t.Wu,t.PJ⟩ (oV.cZ _ _) λB H O j r v u q=>⟨B,r,v,u,q,j⟩
 |seq C R Y S=>
  intro hd l b f a w c k s x t
  simp only[vc]at c
  simp only[uA,eX]at hd
  refine wp_seq ?_
  split at c
  .refine mj ?_ (Y hd.1 l b _ a w c k s x t)
   intro e H O j
   obtain⟨p,B,r,v,u,z,j⟩:=j.cC
   cases e with
   |normal=>
    refine mj ?_ (S hd.2 B _ f H O j r v rfl u)
    intro e V ad j
    obtain⟨p,W,J,I,U,K,j⟩:=j.cC
    exact mG.mk p J I U ((z.aO (λF q=>dK _ q)).O (K.aO (λF q=>mM _ q))) j
   |panic D=>exact absurd rfl (p.1 D)
   |outgrown=>exact absurd rfl p.2
   |exit y=>exact mG.mk (e:=.exit y) p r v u (z.aO (λF q=>dK _ q)) j
   |goto y=>exact mG.mk (e:=.goto y) p r v u (z.aO (λF q=>dK _ q)) j
   |ret=>exact mG.mk (e:=.ret) p r v u (z.aO (λF q=>dK _ q)) j
  .rename_i N hl
   cases ac:tY (sI C) N
   .grind
   rw[ac]at c
   obtain⟨af,h1,h2⟩:=c
   refine mj ?_ (Y hd.1 l b _ a w h1 k s x t)
   intro e H O j
   obtain⟨p,B,r,v,u,z,j⟩:=j.cC
   cases e with
   |normal=>
    obtain⟨ab,j⟩:=O9 j
    obtain⟨ae,K',h3,h4,aa,h5⟩:=TM r (Et (k.rB _) r.aP r.nI z) (Bx.eG s v ab) j h2
    refine mj ?_ (S hd.2 ae _ f H O (h3 _ h5) h4 aa rfl u)
    intro e V ad j
    obtain⟨p,W,J,I,U,K,j⟩:=j.cC
    exact mG.mk p J I U ((z.aO (λF q=>dK _ q)).O (K.aO (λF q=>mM _ q))) j
   |panic D=>exact absurd rfl (p.1 D)
   |outgrown=>exact absurd rfl p.2
   |exit y=>exact mG.mk (e:=.exit y) p r v u (z.aO (λF q=>dK _ q)) j
   |goto y=>exact mG.mk (e:=.goto y) p r v u (z.aO (λF q=>dK _ q)) j
   |ret=>exact mG.mk (e:=.ret) p r v u (z.aO (λF q=>dK _ q)) j
 |cond aa C R Y S=>
  intro hd l b f a w c k s x t
  simp only[vc]at c
  simp only[uA,eX]at hd
  have af:∀{I:Bool},a.eval aa=.bool I->mr d (yR l aa (if I then .tt else .ff)) a:=by
   intro I J;unfold yR;split
   .rename_i F;refine⟨k.aP,k.nI,λad=>?_⟩;simp only[km];cases K:Nat.beq F ad
    .exact k.D ad
    .have:=gB K;subst this;cases I<;>exact J
   .exact k
  have ag:∀{C:SV},(∀I e N,C≠.box I e N/\C≠.DK I e N)->Bx d (yR l aa C) b:=by
   intro C Z;unfold yR;grind [Bx.jz]
  split at c
  .rename_i V
   exact wp_cond_true (k.eq V rfl) (mj (λ_ _ _ c=>c.Zw) (Y hd.1 l b f a w c k s x t))
  .rename_i V
   exact wp_cond_false (k.eq V rfl) (mj (λ_ _ _ c=>c.Xp) (S hd.2 l b f a w c k s x t))
  .rename_i I V
   have W:a.eval aa=.bool I:=k.eq V rfl
   split at c
   .rename_i F y' K
    unfold orT at K
    split at K
    .rename_i U
     cases ai:Bl U (sI R)
     .grind
     .rw[ai]at K
      simp only[po]at K
      split at K
      .rename_i y0 aj
       simp at K
       obtain⟨rfl,rfl⟩:=K
       have al:a.tmps.getD U undef=.bool I:=W
       refine wp_cond_split W (λq=>?_) (λq=>?_)
       .subst x
        subst q
        refine wp_skip (mG.mk (e:=.normal) (b:=(U,.c (.t (true||y0)))::rB (sI R) l) ⟨bO,bO⟩ ?_ ((s.rB _).jz bO) t (oV.cZ _ _) c)
        have J:=Et (M:=sI R) k k.aP k.nI (oV.cZ _ a)
        constructor<;>grind [mr.aP,mr.nI,km,Nat.beq,mr.D,Nat.eq_of_beq_eq_true,SV.Is,SV.v,Ce.v]
       .subst q
        have hv:=ZK (g:=g) (h:=h) (G:=G) (o:=o) (d:=d) U (b:=b) (f:=λe B m'=>e=.normal/\m'=b/\oD (km B U)=some y0) R l y0 aj (λB h'=>⟨rfl,rfl,h'⟩)
        refine mj ?_ (S hd.2 l b _ a w hv k s x t)
        intro e H O j
        obtain⟨p,B,r,v,u,z,rfl,ah,ak⟩:=j.cC
        refine mG.mk (e:=.normal) (b:=(U,.c (.t (false||y0)))::rB (sI R) l) p ?_ (by rw[ah];exact(s.rB _).jz bO) u (z.aO (λF q=>mM _ q)) cG
        have J:=Et (M:=sI R) k r.aP r.nI z
        refine⟨J.aP,J.nI,λad=>?_⟩
        simp only[km]
        grind [Nat.beq,mr.D,Nat.eq_of_beq_eq_true,AY,SV.Is.eq,SV.Is,SV.v,Ce.v]
      .simp at K
    .simp at K
   .refine wp_cond_split W (λq=>?_) (λq=>?_)
    .subst q
     exact mj (λ_ _ _ c=>c.Zw) (Y hd.1 _ b f a w (c.1 rfl) (af W) (ag bO) x t)
    .subst q
     exact mj (λ_ _ _ c=>c.Xp) (S hd.2 _ b f a w (c.2 rfl) (af W) (ag bO) x t)
  .exact c.elim
 |block id C S=>
  intro hd l b f a w c k s x t
  simp only[vc]at c
  refine wp_block (mj ?_ (S hd l b _ a w c k s x t))
  intro e H O j
  obtain⟨p,B,r,v,u,z,j⟩:=j.cC
  cases e with
  |exit y=>
   simp only[Exit.inBlock]
   simp only at j
   cases J:Nat.beq y id
   .rw[J]at j
    have q:y≠id:=λe=>by subst e;simp at J
    rw[aU q]
    exact mG.mk (e:=.exit y) p r v u z j
   .rw[J]at j
    rw[ba (gB J)]
    exact mG.mk (e:=.normal) ⟨bO,bO⟩ r v u z j
  |normal=>exact mG.mk (e:=.normal) p r v u z j
  |panic D=>exact absurd rfl (p.1 D)
  |outgrown=>exact absurd rfl p.2
  |goto y=>exact mG.mk (e:=.goto y) p r v u z j
  |ret=>exact mG.mk (e:=.ret) p r v u z j
 |loop C S=>
  intro hd l b f a w c k s x t
  subst x
  simp only[vc]at c
  split at c
  .exact c.elim
  .rename_i N hl
   cases ac:tY (sI C) N
   .grind
   rw[ac]at c
   obtain⟨V,μ,h0,h1⟩:=c
   let Z:Nat->Act->World->Prop:=λU H w=>∃B K μ',YL N V μ (rB (sI C) (yJ d (eG o C) l)) B K μ'/\mr d B H/\Bx d B w.heap/\K w.heap/\μ' w.heap=U/\rK i w/\oV (sI C) a H
   obtain⟨aa,W,μ1,an,ak,af,ai⟩:=Ru (μ:=μ) k (Et (k.rB _) k.aP k.nI (oV.cZ (sI C) a)) (Bx.eG s s (λ_ _=>rfl)) h0
   refine Yz Z ?_ (μ1 w.heap) a w ⟨aa,W,μ1,an,ak,af,ai,rfl,t,oV.cZ _ _⟩
   rintro U a1 w ⟨B,K,μ',X,r,v,ah,rfl,u,z⟩
   have am:=Rr h1 X w.heap ah
   refine mj ?_ (S hd B w.heap _ a1 w am r v rfl u)
   intro e H O j
   obtain⟨p,ae,q,I,J,F,j⟩:=j.cC
   cases e with
   |normal=>
    obtain⟨ab,j⟩:=O9 j
    obtain⟨ad,Y,μ3,ao,al,ag,aj,ap⟩:=Rv q (Et (k.rB _) q.aP q.nI (z.O F)) (Bx.eG s I ab) j
    exact⟨_,ap,ad,Y,μ3,ao,al,ag,aj,rfl,J,z.O F⟩
   |panic D=>exact absurd rfl (p.1 D)
   |outgrown=>exact absurd rfl p.2
   |exit y=>exact mG.mk (e:=.exit y) p q I J (z.O F) j
   |goto y=>exact mG.mk (e:=.goto y) p q I J (z.O F) j
   |ret=>exact mG.mk (e:=.ret) p q I J (z.O F) j
 |exit id=>
  intro hd l b f a w c k s x t
  subst x
  exact wp_exit ⟨l,k,s,t,oV.cZ _ _,c⟩
 |ret=>
  intro hd l b f a w c k s x t
  subst x
  exact wp_ret ⟨l,k,s,t,oV.cZ _ _,c⟩
 |rangeFunc j k C R _ _=>intro _ l b f a w c;exact c.elim
 |scope C _=>intro _ l b f a w c;exact c.elim
 |label N=>intro _ l b f a w c;exact c.elim
 |goto N=>intro _ l b f a w c;exact c.elim
 |refuse s=>intro _ l b f a w c;exact c.elim
def yI:Nat->aC->Fr
 |_,[]=>[]
 |i,x::r=>(i,x)::yI (i+1) r
def Ki(h:TT)(a:Fr)(b:E):ay->(aC->Prop)->Prop
 |[],k=>k []
 | .tmp t::r,k=>bif (km a t).mJ then Ki h a b r λl=>k (km a t::l)else False
 | .cell p t::r,k=>rd h a b (λx=>bif x.mJ then Ki h a b r λl=>k (x::l)else False) (.load t (.tmp p))
def acY(h:TT)(c:ay)(a:Fr)(b:E)(R:ai):Prop:=
 Ki h a b c λ
  |[x]=>R x.v b
  |l=>R (.tuple (l.map SV.v).toArray) b
def Yx(g:Program)(h:TT)(G:ad)(o:Tu)(d:Nat)(c:ay)(f:Code)(e:aC)(b:E)(R:ai):Prop:=
 vc g h G d o f (yI 0 e) b λ
  | .normal,a,b=>acY h c a b R
  | .ret,a,b=>acY h c a b R
  |_,_,_=>False
def Lg:∀(a:aC)(i t:Nat),(t<i/\km (yI i a) t=.jz)\/(i<=t/\km (yI i a) t=a.getD (t -i) .jz)
 |[],i,t=>by
  grind [Nat.lt_or_ge,yI,km]
 |x::r,i,t=>by
  simp only[yI,km];cases d:Nat.beq i t
  .have f:i≠t:=λe=>by subst e;simp at d
   rcases Lg r (i+1) t with⟨b,c⟩|⟨b,c⟩
   .grind
   grind [List.getD_cons_succ]
  .grind [Nat.eq_of_beq_eq_true]
def PY(a:Array Value):ResultVar->Sem Value
 | .tmp t=>pure (a.getD t undef)
 | .cell p t=>do loadVar t (<-asAddr (a.getD p undef))
def We(b:Func)(c:Array Value):results b c=(do
 let a<-b.results.mapM (PY c)
 pure (if h:a.size=1 then a[0]else .tuple a)):=by
 unfold results
 congr 2
def LJ{i:Fr}{a:Act}(r:yE g h)(f:mr d i a):∀(B:ay)(k:aC->Prop)(w:World),Bx d i w.heap->Ki h i w.heap B k->
 ∃n,k n/\(B.mapM (PY a.tmps)).run g w=.ok (n.map SV.v) w
 |[],k,w,_,b=>⟨[],b,bO⟩
 | .tmp t::u,k,w,j,b=>by
  simp only[Ki]at b;cases c:(km i t).mJ
  .grind
  .rw[c]at b;obtain⟨n,q,E⟩:=LJ r f u _ w j b;refine⟨_,q,?_⟩;have z:=(f.D t).eq c;have D:PY a.tmps (.tmp t)=pure (a.tmps.getD t undef):=rfl;grind [Go.Sem.run_bind,Go.Sem.run_pure,Go.Result.andThen_ok]
 | .cell p t::u,k,w,j,m=>by
  obtain⟨C,v,A,z,b⟩:=PQ (P:=g) r f j ⟨none,.load t (.tmp p),0,"",#[],none⟩ m;have b:=b w (λy _=>rfl);cases x:C.mJ
  .grind
  rw[x]at A;obtain⟨n,q,E⟩:=LJ r f u _ w j A;refine⟨_,q,?_⟩;have G:∃c o,a.tmps.getD p undef=.pointer (some ⟨c,o,none⟩):=by
   have l:=SV.ZF (f.D p);simp only[Ki,rd,ev]at m;split at m
   .rename_i c o s;rw[s]at l;exact⟨c,o,l⟩
   .rename_i y c o s;rw[s]at l;exact⟨c,o,l⟩
   .exact m.elim
  obtain⟨c,o,s⟩:=G;simp only[execOp,Instr.loadAt,Act.eval,s,Instr.sureAddr,eA,iv,dw]at b;have F:(loadVar t ⟨c,o,none⟩).run g w=.ok v w:=by
   cases y:(loadVar t ⟨c,o,none⟩).run g w with
   |ok I H=>
    rw[y]at b;simp at b;rw[b.1,b.2]
   |halt e H=>rw[y]at b;simp at b
  have H:v=C.v:=z.eq x;have D:(PY a.tmps (.cell p t)).run g w=.ok v w:=by
   simp only[PY,s,eA,asAddr,iv,dw,F]
  grind [Go.Sem.run_bind,Go.Sem.run_pure,Go.Result.andThen_ok]
def xW(z:yE g h)(J:GOK g G)(N:g.follows .mixedOrders=true){y:FuncId}{i:Func}{m:Code}{r:ay}{a:aC}{R:ai}
 (M:g.funcs[y]? =some i)(L:i.body=some m)(O:i.ntmps=d)(Q:i.results=r.toArray)(A:a.all SV.mJ=true)(W:a.length<=d)(hd:uA m=true)
 (j:Yx g h G o d r m a b R):bJ g y (a.map SV.v) b R:=by
 intro w T
 refine calls_of_wp M L ?_
 have K:mr d (yI 0 a) {tmps:=(a.map SV.v).toArray++Array.replicate (i.ntmps -(a.map SV.v).toArray.size) undef,defers:=[]}:=by
  refine⟨by simp[O];omega,rfl,λt=>?_⟩;rcases Lg a 0 t with⟨n,_⟩|⟨_,p⟩
  .omega
  .rw[p,Nat.sub_zero];rcases eJ t a.length with k|s
   .have u:(a[t]).mJ=true:=La.1 A _ (List.getElem_mem k);have c:a.getD t .jz=a[t]:=by simp[k]
    rw[c];have f:((a.map SV.v).toArray++Array.replicate (i.ntmps -(a.map SV.v).toArray.size) undef).getD t undef=(a[t]).v:=by
     simp[Array.getElem?_append,k]
    rw[f];exact qU
   .have c:a.getD t .jz=.jz:=by simp[kX s]
    rw[c];trivial
 have v:∀{q x e l},¬oQ (yI 0 a) q x e l:=by
  intro q x e l f;rcases Lg a 0 q with⟨n,_⟩|⟨_,p⟩
  .omega
  .unfold oQ at f;rw[p,Nat.sub_zero]at f;rcases eJ q a.length with k|s
   .have u:(a[q]).mJ=true:=La.1 A _ (List.getElem_mem k);have c:a.getD q .jz=a[q]:=by simp[k]
    rw[c]at f;rcases f with f|f<;>rw[f]at u<;>simp[SV.mJ]at u
   .have c:a.getD q .jz=.jz:=by simp[kX s]
    rw[c]at f;simp at f
 have H:Bx d (yI 0 a) b:=⟨λ_ _ _ _ j=>absurd j v,λ_ _ _ _ _ _ _ _ _ j=>absurd j v,λ_ _ _ _ j=>absurd j v⟩
 refine mj ?_ (Z2 z J N w m hd _ b _ _ w j K H T (rK.cZ w))
 intro e s k c
 obtain⟨B,F,u,I,S,V,c⟩:=c.cC
 have C:∀(c:acY h r F k.heap R),s.defers=[]/\∃D,(results i s.tmps).run g k=.ok D k/\∃E,Ending.returned D=.returned E/\rK w k/\R E k.heap:=by
  intro c;refine⟨u.nI,?_⟩;obtain⟨l,n,p⟩:=LJ z u r _ k I c;have P:(results i s.tmps).run g k=.ok (if j:(l.map SV.v).toArray.size=1 then(l.map SV.v).toArray[0]else .tuple (l.map SV.v).toArray) k:=by
   rw[We,Q,aab];simp only[eA,Sem.run_map];rw[p];rfl
  refine⟨_,P,_,rfl,S,?_⟩;cases l with
  |nil=>exact n
  |cons U l=>cases l with
   |nil=>exact n
   |cons X l=>exact n
 cases e with
 |normal=>exact C c
 |ret=>exact C c
 |exit U=>exact c.elim
 |goto U=>exact c.elim
 |panic m=>exact absurd rfl (B.1 m)
 |outgrown=>exact absurd rfl B.2
end Go.Vc
end
section
namespace Go.Vc
abbrev vi(n:Int):Value:=.int .i64 n
abbrev vb(b:Bool):Value:=.bool b
abbrev vp(b o:Nat):Value:=.pointer (some ⟨b,o,none⟩)
def OU(f:Func):Code:=
 match f.body with
 |some c=>c
 |none=>.skip
end Go.Vc
end
section
namespace Go.Vc
variable{m a c e:E}{b k f n:Nat}{o:Obj}{v:Value}{l:ae}{s:N}{x:Int}{p:Prop}{P:Program}{d:ap}{K:ai}
@[grind cases] structure J (m m':E):Prop where
 aP:m.size<=m'.size
 bC:∀b,b<m.size->m'[b]? =m[b]?
theorem J.cZ(m:E):J m m:=by constructor<;>grind
def di:J m m:=J.cZ m
theorem J.O{b c:E}(h:J a b)(k:J b c):J a c:=
 by constructor<;>grind [J.aP,J.bC]
theorem J.push(m:E)(o:Obj):J m (m.push o):=
 by constructor<;>grind
theorem J.cw(h:J a m)(o:Obj):J a (m.push o):=h.O (J.push m o)
theorem J.aV(h:J a m)(c:a.size<=b)(o:Nat)(l:ae):J a (aV m b o l):=
 by constructor<;>grind [bD,J.aP,cg,J.bC]
theorem J.aR(h:J m c){o:Nat}(a:aR m b o=some v):aR c b o=some v:=by
 grind [bB,J.bC,qv]
theorem J.kV(h:J m c){o:Nat}(e:jt m b o l):jt c b o l:=λi a d=>h.aR (e i a d)
theorem dJ.ext(h:J m c){e:Nat}(a:dJ m b e l):dJ c b e l:=by
 grind [dJ,J.bC,Array.getElem?_eq_some_iff]
@[grind cases] structure fU {α:Type} (m:E) (sz:Nat) (R:ae->α->Prop) (s:N) (l:List α):Prop where
 aS:s.len=l.length
 lZ:s.len<=s.cap
 kA:s.len<=9223372036854775807
 kV:∀(k:Nat)(x:α),l[k]? =some x->∃cs,R cs x/\jt m s.bq (s.off+k*sz) cs
def fU.aO{α:Type}{d:Nat}{R a:ae->α->Prop}{l:List α}(h:fU m d R s l)(f:J m c)(e:∀b x,R b x->a b x):fU c d a s l:=
 by constructor<;>grind [fU.aS,fU.lZ,fU.kA,fU.kV,J.kV]
def aai(a:ae)(n:Int):Prop:=a=[.i n]
abbrev bd(m:E)(s:N)(l:ab):Prop:=fU m 1 aai s l
theorem bd.D{l:ab}(h:bd m s l)(a:l[k]? =some x):aR m s.bq (s.off+k*1)=some (vi x):=by
 obtain⟨c,rfl,b⟩:=h.kV k x a;exact b 0 (.i x) rfl
theorem bd.ext(a:J m c){l:ab}(h:bd m s l):bd c s l:=h.aO a λ_ _ h=>h
def px(a:E)(h:a=m.push o:=by rfl):J m a:=h▸(J.cZ m).cw o
def pz(a:E)(h:a=m.push o:=by rfl):a.size=m.size+1:=by rw[h];simp
def pu(a:E)(h:a=m.push o:=by rfl):J m a/\a.size=m.size+1:=⟨px a h,pz a h⟩
def py(a:E)(h:a=aV (m.push o) m.size 0 l:=by rfl):J m a:=h▸((J.cZ m).cw o).aV bW _ _
def pv(a:E)(h:a=aV (m.push o) m.size 0 l:=by rfl):J m a/\a.size=m.size+1:=⟨py a h,by rw[h,bD];simp⟩
theorem jk{α:Type}{l:List α}(h:k<l.length):∃x,l[k]? =some x:=⟨l[k],by simp[h]⟩
theorem dY{α:Type}(l:List α)(k:Nat)(h:k<l.length:=by omega):∃x,l[k]? =some x:=jk h
def iC(h: -9223372036854775808<=x:=by omega)(k:x<=9223372036854775807:=by omega):eR x=x:=dt h k
def dU:(∀(b:Nat)(k:Prop),Oq b b k=k)/\∀(x:SV)(k:Prop),eqS x x k=k:=⟨kd,nJ⟩
def oh{a:Prop}(x:a)(h:a->p:=by omega):p:=h x
def Xm{a b:Prop}(x:a)(y:b)(h:a->b->p:=by omega):p:=h x y
def sx{a:Prop}(h:a=False:=by simp)(x:a):p:=(h▸x:False).elim
theorem bA{α:Type}{l:List α}{x:α}(h:l[k]? =some x):k<l.length:=by grind [List.all]
theorem bX{α:Type}{l:List α}{x:α}(h:l[k]? =some x):l.take (k+1)=l.take k++[x]:=by
 rw[List.take_add_one,h];rfl
theorem eW{α:Type}{l:List α}(h:l.length<=k):l.take k=l:=yd h
def Gg(P:Program)(f:Nat)(d:ap)(m:E)(v:Value):Prop:=bJ P f d m λa c=>a=v/\J m c
theorem Gg.bZ(h:Gg P f d m v)(b:∀c,J m c->K v c):bJ P f d m K:=
 h.aO λ_ _⟨a,e⟩=>a▸b _ e
def OB(h:k<9223372036854775807):eR ((k:Int)+1)=((k+1:Nat):Int):=by rw[dt V V];rfl
theorem N.XA{t:N}:s.v=t.v<->s=t:=by
 refine⟨λh=>?_,λh=>h▸rfl⟩;cases s<;>cases t<;>simp_all [N.v]
theorem J.fq(h:J m c){l:ad}(d:∀b∈l,b<m.size):gL l m c:=λb a=>h.bC b (d b a)
theorem J.lt(h:J m c)(a:b<m.size):b<c.size:=cG
def J.db(h:J m c){o:Nat}(a:Vc.aR m b o=some v):Vc.aR c b o=Vc.aR m b o:=by rw[h.aR a,a]
theorem nQ(h:k<n)(a:n<=9223372036854775807):eR ((k:Int)+1)=((k+1:Nat):Int):=by rw[dt V V];rfl
theorem PB(h:k<n):((n:Int) -((k+1:Nat):Int)).toNat<((n:Int) -(k:Int)).toNat:=V
def ik(g:n<=9223372036854775807){b:(Int->E->Prop)->(Int->E->Nat)->Int->E->Prop}(Q:Nat->E->Prop)(d:Q 0 m)
 (h:∀(k:Nat)(a:E)(I:Int->E->Prop)(μ:Int->E->Nat),k<=n->Q k a->
  (k<n->∀c,Q (k+1) c->I (eR ((k:Int)+1)) c/\μ (eR ((k:Int)+1)) c<μ k a)->b I μ k a):
 ∃(I:Int->E->Prop)(μ:Int->E->Nat),I 0 m/\∀i a,I i a->b I μ i a:=by
 refine⟨λi c=>∃k:Nat,i=k/\k<=n/\Q k c,λi _=>(n -i).toNat,⟨0,rfl,jb _,d⟩,?_⟩
 rintro i a ⟨k,rfl,e,j⟩
 refine h k a _ _ e j λf c l=>?_
 rw[nQ f g]
 grind
def gP{σ:Type}(l:n<=9223372036854775807){e:σ}{d:(σ->Int->E->Prop)->(σ->Int->E->Nat)->σ->Int->E->Prop}(Q:Nat->σ->E->Prop)(f:Q 0 e m)
 (h:∀(k:Nat)(s:σ)(a:E)(I:σ->Int->E->Prop)(μ:σ->Int->E->Nat),k<=n->Q k s a->
  (k<n->∀b c,Q (k+1) b c->I b (eR ((k:Int)+1)) c/\μ b (eR ((k:Int)+1)) c<μ s k a)->d I μ s k a):
 ∃(I:σ->Int->E->Prop)(μ:σ->Int->E->Nat),I e 0 m/\∀s i a,I s i a->d I μ s i a:=by
 refine⟨λs i c=>∃k:Nat,i=k/\k<=n/\Q k s c,λ_ i _=>(n -i).toNat,⟨0,rfl,jb _,f⟩,?_⟩
 rintro s i a ⟨k,rfl,g,o⟩
 refine h k s a _ _ g o λj b c p=>?_
 rw[nQ j l]
 grind
def gK(P:Program)(f:Nat)(d:ap)(m:E)(p:Prop):Prop:=bJ P f d m λv c=>∃b:Bool,v=.bool b/\(b=true<->p)/\J m c
def gK.bZ(h:gK P f d m p)(g:∀(b:Bool) c,(b=true<->p)->J m c->K (.bool b) c):bJ P f d m K:=
 h.aO λ_ _⟨b,e,a,i⟩=>e▸g b _ a i
def gK.bK{l:ad}(i:gK P f d m p)(g:J e m)(q:∀b∈l,b<e.size)
 (o:∀(b:Bool) c,(b=true<->p)->J m c->J e c->K (.bool b) c):bJ P f d m λv c=>gL l m c/\K v c:=
 i.aO λ_ _⟨b,n,j,a⟩=>⟨a.fq λh k=>g.lt (q h k),n▸o b _ j a (g.O a)⟩
def Gg.bK{l:ad}(i:Gg P f d m v)(g:J e m)(o:∀b∈l,b<e.size)
 (n:∀c,J m c->J e c->K v c):bJ P f d m λv c=>gL l m c/\K v c:=
 i.aO λ_ _⟨k,a⟩=>⟨a.fq λh j=>g.lt (o h j),k▸n _ a (g.O a)⟩
def bJ.bK{a:ai}{l:ad}(j:bJ P f d m K)(o:J e m)(n:∀b∈l,b<e.size)
 (g:∀v c,K v c->J m c/\a v c):bJ P f d m λv c=>gL l m c/\a v c:=
 j.aO λv c h=>⟨(g v c h).1.fq λi k=>o.lt (n i k),(g v c h).2⟩
def lg{b:Bool}(h:b=true<->p)(d:J m c):∃a:Bool,Value.bool b=.bool a/\(a=true<->p)/\J m c:=⟨b,rfl,h,d⟩
def fW(h:¬p)(b:J m c):∃a:Bool,Value.bool false=.bool a/\(a=true<->p)/\J m c:=cG
def pw(h:p)(b:J m c):∃a:Bool,Value.bool true=.bool a/\(a=true<->p)/\J m c:=by grind [List.take]
def nb{b:Bool}(a:b=true<->p)(h:(!b)=true):¬p:=cG
def yb{b:Bool}(a:b=true<->p)(h:(!b)=false):p:=a.1 cG
def fb{b:Bool}(a:b=true<->p)(h:b=false):¬p:=cG
def eC{α:Type}{l:List α}{x:α}{p:α->Prop}(a:l[k]? =some x)(h:∀y∈l.take k,p y)(b:p x):∀y∈l.take (k+1),p y:=by
 rw[bX a];grind
def ig{α:Type}{l:List α}{p:α->Prop}(a:l.length<=k)(h:∀y∈l.take k,p y):∀y∈l,p y:=by rw[<-eW a];exact h
theorem aZ{α:Type}{l:List α}{x:α}(h:l[k]? =some x):x∈l:=kv h
end Go.Vc
end
section
namespace Go.Vc
variable{m:E}{s:N}{k:Nat}
structure cL where
 qd:Int
 to:Int
 dS:List ab
abbrev af:=List cL
structure Instr where
 op:Int
 br:Int
 cE:Int
 cY:Int
 aN:ab
 fQ:ab
structure dP where
 aX:ab
 cR:ab
 bL:Int
 aT:Int
 cF:List Instr
abbrev aA:=List (dP×N)
abbrev av:=List dP
structure cV where
 bQ:af
 cO:av
def nm(m:E)(a:ae)(c:ab):Prop:=∃f,a=[.s f]/\bd m f c
def jL(m:E)(a:ae)(d:cL):Prop:=∃f,a=[.i d.qd,.i d.to,.s f]/\fU m 1 (nm m) f d.dS
def eS(m:E)(b:ae)(x:Instr):Prop:=∃a j,b=[.i x.op,.i x.br,.i x.cE,.i x.cY,.s a,.s j]/\bd m a x.aN/\bd m j x.fQ
def oB(m:E)(b:ae)(p:dP):Prop:=
 ∃a l c,b=[.s a,.s l,.i p.bL,.i p.aT,.s c]/\bd m a p.aX/\bd m l p.cR/\fU m 6 (eS m) c p.cF
abbrev rJ(m:E)(s:N)(l:List ab):Prop:=fU m 1 (nm m) s l
abbrev dq(m:E)(s:N)(l:af):Prop:=fU m 3 (jL m) s l
abbrev gR(m:E)(s:N)(l:List Instr):Prop:=fU m 6 (eS m) s l
abbrev kY(m:E)(s:N)(l:av):Prop:=fU m 5 (oB m) s l
@[grind cases] structure iF (m:E) (d p:N) (im:cV):Prop where
 bQ:dq m d im.bQ
 cO:kY m p im.cO
def nm.ext{m b:E}(g:J m b)(a:ae)(c:ab):nm m a c->nm b a c:=λ⟨f,d,e⟩=>⟨f,d,e.ext g⟩
def rJ.ext{m b:E}(a:J m b){s:N}{l:List ab}(h:rJ m s l):rJ b s l:=h.aO a (nm.ext a)
def jL.ext{m b:E}(g:J m b)(a:ae)(c:cL):jL m a c->jL b a c:=λ⟨f,d,e⟩=>⟨f,d,rJ.ext g e⟩
theorem dq.ext{m b:E}(a:J m b){s:N}{l:af}(h:dq m s l):dq b s l:=h.aO a (jL.ext a)
def eS.ext{m d:E}(b:J m d)(a:ae)(c:Instr):eS m a c->eS d a c:=λ⟨e,j,f,g,h⟩=>⟨e,j,f,g.ext b,h.ext b⟩
def gR.ext{m b:E}(a:J m b){s:N}{l:List Instr}(h:gR m s l):gR b s l:=h.aO a (eS.ext a)
def oB.ext{m d:E}(a:J m d)(b:ae)(c:dP):oB m b c->oB d b c:=λ⟨e,l,c,f,g,h,i⟩=>⟨e,l,c,f,g.ext a,h.ext a,gR.ext a i⟩
def kY.ext{m b:E}(a:J m b){s:N}{l:av}(h:kY m s l):kY b s l:=h.aO a (oB.ext a)
def iF.ext{m c:E}(a:J m c){d p:N}{b:cV}(h:iF m d p b):iF c d p b:=⟨dq.ext a h.bQ,kY.ext a h.cO⟩
theorem rJ.D{l:List ab}(h:rJ m s l){x:ab}(b:l[k]? =some x):
 ∃f,bd m f x/\aR m s.bq (s.off+k*1)=some f.v:=by
 obtain⟨d,⟨f,rfl,a⟩,c⟩:=h.kV k x b
 exact⟨f,a,c 0 (.s f) rfl⟩
theorem dq.D{l:af}(h:dq m s l){x:cL}(c:l[k]? =some x):
 ∃f,rJ m f x.dS/\aR m s.bq (s.off+k*3)=some (vi x.qd)/\aR m s.bq (s.off+k*3+1)=some (vi x.to)/\aR m s.bq (s.off+k*3+2)=some f.v:=by
 obtain⟨d,⟨f,rfl,b⟩,a⟩:=h.kV k x c
 exact⟨f,b,a 0 (.i x.qd) rfl,a 1 (.i x.to) rfl,a 2 (.s f) rfl⟩
theorem gR.D{l:List Instr}(h:gR m s l){x:Instr}(e:l[k]? =some x):
 ∃b j,bd m b x.aN/\bd m j x.fQ/\aR m s.bq (s.off+k*6)=some (vi x.op)/\aR m s.bq (s.off+k*6+1)=some (vi x.br)/\aR m s.bq (s.off+k*6+2)=some (vi x.cE)/\
  aR m s.bq (s.off+k*6+3)=some (vi x.cY)/\aR m s.bq (s.off+k*6+4)=some b.v/\aR m s.bq (s.off+k*6+5)=some j.v:=by
 obtain⟨f,⟨b,j,rfl,c,d⟩,a⟩:=h.kV k x e
 exact⟨b,j,c,d,a 0 (.i x.op) rfl,a 1 (.i x.br) rfl,a 2 (.i x.cE) rfl,a 3 (.i x.cY) rfl,a 4 (.s b) rfl,a 5 (.s j) rfl⟩
theorem kY.D{l:av}(h:kY m s l){x:dP}(i:l[k]? =some x):
 ∃a b c,bd m a x.aX/\bd m b x.cR/\gR m c x.cF/\aR m s.bq (s.off+k*5)=some a.v/\aR m s.bq (s.off+k*5+1)=some b.v/\aR m s.bq (s.off+k*5+2)=some (vi x.bL)/\
  aR m s.bq (s.off+k*5+3)=some (vi x.aT)/\aR m s.bq (s.off+k*5+4)=some c.v:=by
 obtain⟨j,⟨a,b,c,rfl,e,f,g⟩,d⟩:=h.kV k x i
 exact⟨a,b,c,e,f,g,d 0 (.s a) rfl,d 1 (.s b) rfl,d 2 (.i x.bL) rfl,d 3 (.i x.aT) rfl,d 4 (.s c) rfl⟩
end Go.Vc
end
section
namespace Go.Vc
variable{f a:E}{d:Nat}{s:N}{l:ae}{g:List ae}
@[grind cases] structure jo (m0 m:E) (e sz:Nat) (s:N) (l:ae):Prop where
 aS:l.length=s.len*sz
 D:s=.nil\/∃b c tail,s=.mk b 0 s.len c/\m0.size<=b/\dJ m b e (l++tail)/\(l++tail).length=c*sz/\s.len<=c
theorem jo.gD(f a:E)(d b:Nat):jo f a d b .nil []:=⟨bO,bu rfl⟩
theorem jo.bI(h:J f a)(d c:Nat)(l:ae)(k:Nat)(b:l.length=k*c):jo f (a.push (.cells (de l) d)) d c (.mk a.size 0 k k) l:=
 ⟨b,bG ⟨a.size,k,[],rfl,h.aP,by rw[fH];exact dJ.push _ _ _,sp b,bW⟩⟩
theorem jo.congr{f a e:E}{d g:Nat}{s:N}{l:ae}(h:jo f a d g s l)(c:e[s.bq]? =a[s.bq]?):jo f e d g s l:=by
 refine⟨h.aS,?_⟩;rcases h.D with b|⟨i,j,tail,b,h2,h3,h4,h5⟩
 .exact bu b
 .refine bG ⟨i,j,tail,b,h2,h3.congr ?_,h4,h5⟩;rw[b]at c;exact c
def jo.lt{f a:E}{d c:Nat}{s:N}{l:ae}(h:jo f a d c s l):s=.nil\/s.bq<a.size:=by
 rcases h.D with b|⟨e,g,tail,b,h2,h3,h4,h5⟩
 .exact bu b
 .rw[b];exact bG h3.lt
def jo.ext{c:E}{e:Nat}(h:jo f a d e s l)(g:J a c):jo f c d e s l:=by
 rcases h.lt with b|b
 .subst b;exact⟨h.aS,bu rfl⟩
 .exact h.congr (g.bC _ b)
theorem jo.da{c:E}{e:Nat}(h:jo c a d e s l)(j:f.size<=c.size):jo f a d e s l:=by
 refine⟨h.aS,?_⟩;rcases h.D with b|⟨g,i,tail,b,h2,h3,h4,h5⟩
 .exact bu b
 .exact bG ⟨g,i,tail,b,fA j h2,h3,h4,h5⟩
theorem jo.bq{c:Nat}(h:jo f a d c s l):s=.nil\/f.size<=s.bq:=by
 rcases h.D with b|⟨e,g,tail,b,h2,h3,h4,h5⟩
 .exact bu b
 .rw[b];exact bG h2
def jt.QM{b o:Nat}{r:ae}(h:jt a b o (l++r)):jt a b o l:=λi c d=>h i c cG
def jo.kV{f a:E}{d g:Nat}{s:N}{l:ae}(h:jo f a d g s l):jt a s.bq s.off l:=by
 rcases h.D with b|⟨i,c,tail,b,h2,h3,h4,h5⟩
 .have:l=[]:=cr.1 (by rw[h.aS,b];simp);subst this;intro j c e;simp at e
 .rw[b];exact h3.kV.QM
theorem Bv(l a tail:ae)(h:a.length<=tail.length):jh (l++tail) l.length a=l++a++tail.drop a.length:=by
 apply ee;grind [Ey]
def jo.fy{c:ae}{w:Nat}{x:N}{h:ae}{K:N->E->Prop}(k:jo f a d c.length s l)(q:J f a)
 (t:h.length=x.len*c.length)(G:jt a x.bq x.off h)(u:(s.len+x.len)*w<=140737488355328)
 (v:∀n p,jo f p d c.length n (l++h)->J f p->n.len=s.len+x.len->a.size<=p.size->(∀g,g<a.size->(s≠.nil->g≠s.bq)->p[g]? =a[g]?)->((s=.nil/\n=.nil)\/(s≠.nil/\n.bq=s.bq/\n≠.nil)\/n.bq=a.size)->K n p):
 lS a d c w s x K:=by
 refine⟨h,t,G,λD=>?_,λL=>⟨u,l,k.aS,k.kV,λj z=>?_⟩⟩
 .rcases k.D with i|⟨g,j,tail,i,h2,h3,h4,h5⟩
  .subst i
   have y:x.len=0:=sp D
   have B:h=[]:=cr.1 (by rw[t,y];simp)
   subst B
   refine⟨λC A=>by simp at A,?_⟩
   exact v .nil _ ⟨by rw[fH];exact k.aS,bu rfl⟩ (by simpa[aV]using q) (by simp[y]) (ML (bD _ _ _ _).symm) (λg u _=>by simp[aV]) (bu ⟨rfl,rfl⟩)
  .have A:=k.aS
   have I:s.cap=j:=by rw[i];rfl
   rw[i]
   simp only[N.mP,N.Bo,N.lJ,fB]
   simp only[dj]at h4
   have C:h.length<=tail.length:=by
    have B:(s.len+x.len)*c.length<=j*c.length:=fg _ V;rw[nl]at B;omega
   refine⟨h3.iQ (by simp only[dj];omega),?_⟩
   have y:=dJ.aV (m:=a) (b:=g) (e:=d) (r:=h) (o:=s.len*c.length) h3
   rw[<-A,Bv l h tail C]at y
   refine v _ _ ⟨?_,bG ⟨g,j,tail.drop h.length,rfl,h2,?_,?_,?_⟩⟩ (q.aV h2 _ _) bO (ML (bD _ _ _ _).symm) (λH _ F=>cg _ _ _ _ ?_) (bG (bu ⟨by rw[i];simp,by rw[i];rfl,bO⟩))
   .simp only[dj,N.lJ,nl];omega
   .rw[<-A];exact y
   .simp only[dj,List.length_drop];omega
   .simp only[N.lJ];omega
   .have:=F (by rw[i];simp)
    rw[i]at this;exact this
 .refine v _ _ ⟨?_,bG ⟨a.size,j,ng c (j -(s.len+x.len)),rfl,q.aP,dJ.push _ _ _,?_,sp z⟩⟩ (q.cw _) bO bO (λg u _=>by rw[uR,aU V]) (bG (bG rfl))
  .simp only[dj,N.lJ,nl,k.aS,t]
  .simp only[dj,vC,k.aS,t]
   rw[Nat.sub_mul,<-nl]
   have:(s.len+x.len)*c.length<=j*c.length:=fg _ z
   omega
theorem bd.jM{l:ab}(h:jo f a d 1 s (l.map Ce.i))(n:l.length<=9223372036854775807):bd a s l:=by
 have i:s.len=l.length:=by have:=h.aS;simp at this;omega
 refine⟨i,?_,V,λk x g=>⟨[.i x],rfl,λj e c=>?_⟩⟩
 .rcases h.D with b|⟨m,e,tail,b,h2,h3,h4,h5⟩
  .rw[b];exact bW
  .rw[b];exact h5
 .have b:j=0:=by have:=bA c;simp at this;omega
  subst b;simp at c;subst c;have:=h.kV k (.i x) (by simp[g]);simpa using this
def jY{e:Nat}:∀{g:List ae}(_:∀a∈g,a.length=e){b:Nat}{a:ae}(_:g[b]? =some a){i:Nat}{c:Ce}(_:a[i]? =some c),g.flatten[b*e+i]? =some c
 |[],_,b,a,h,_,_,_=>by simp at h
 |x::g,d,0,a,h,i,c,f=>by
  grind
 |x::g,d,b+1,a,h,i,c,f=>by
  have l:x.length=e:=d x cK;rw[tf,dL cG];have:=jY (g:=g) (λy k=>d y (aW _ k)) (b:=b) cG f;grind
theorem eE{b:Nat}:∀{g:List ae},(∀a∈g,a.length=b)->g.flatten.length=g.length*b
 |[],_=>bO
 |x::g,a=>by
  rw[tf,dj,eE (λy c=>a y (aW _ c)),a x cK,dE,nl];omega
@[grind cases] structure fK {α:Type} (sz:Nat) (R:ae->α->Prop) (css:List ae) (l:List α):Prop where
 aS:css.length=l.length
 aP:∀cs∈css,cs.length=sz
 eN:∀(j:Nat)(cs:ae)(x:α),css[j]? =some cs->l[j]? =some x->R cs x
theorem fK.gD{α:Type}(a:Nat)(R:ae->α->Prop):fK a R [] []:=⟨rfl,bO,bO⟩
def fK.By{α:Type}{a:Nat}{R:ae->α->Prop}{l:List α}(h:fK a R g l){cs:ae}{x:α}(b:cs.length=a)(c:R cs x):fK a R (g++[cs]) (l++[x]):=by
 constructor<;>grind
theorem fK.aO{α:Type}{c:Nat}{R a:ae->α->Prop}{l:List α}(h:fK c R g l)(d:∀b x,R b x->a b x):fK c a g l:=
 by constructor<;>grind
def fU.jM{α:Type}{c:Nat}{R:ae->α->Prop}{l:List α}(h:jo f a d c s g.flatten)(e:fK c R g l)(q:0<c)(t:l.length<=9223372036854775807):fU a c R s l:=by
 have p:s.len=l.length:=by
  have b:=h.aS;rw[eE e.aP]at b;have:=Nat.eq_of_mul_eq_mul_right q b;rw[<-this,e.aS]
 refine⟨p,?_,V,λk x o=>?_⟩
 .rcases h.D with b|⟨j,i,tail,b,h2,h3,h4,h5⟩
  .rw[b];exact bW
  .rw[b];exact h5
 .let⟨j,m⟩:=dY g k cG;refine⟨j,e.eN k j x m o,λr i n=>?_⟩;have:=h.kV (k*c+r) i (jY e.aP m n);grind
end Go.Vc
end
section
namespace Go.Vc
variable{S c:ad}{m a d:E}{b o e:Nat}{l:ae}{s:N}
def dg(S:ad)(m:E):E:=m.mapIdx λb o=>if b∈S then .cells #[] 0 else o
def Le(M a:E):Prop:=∀b o v,aR M b o=some v->aR a b o=some v
theorem gV{v:Value}:aR (dg S m) b o=some v<->b∉S/\aR m b o=some v:=by
 grind [aR,dg]
def Le.cZ(m:E):Le m m:=λ_ _ _ h=>h
def Le.O{a b c:E}(h:Le a b)(k:Le b c):Le a c:=λx o v d=>k x o v (h x o v d)
def J.le(h:J m a):Le m a:=λ_ _ _ b=>h.aR b
def acQ(S:ad)(m:E):Le (dg S m) m:=λ_ _ _ h=>(gV.1 h).2
def fG:Le (dg S m) m:=acQ S m
theorem ms(h:∀b,b<m.size->b∉S->b∉c/\a[b]? =m[b]?):Le (dg S m) (dg c a):=λb o v d=>by
 grind [gV,qv,bB]
theorem J.dg(h:J m a)(d:∀b∈c,b∈S\/m.size<=b):Le (dg S m) (dg c a):=
 by grind [ms,J.bC]
def J.eU(h:J m a):Le (Vc.dg S m) (Vc.dg S a):=by grind [J.dg]
theorem kO(m:E)(a:∀b∈c,b∈S):Le (dg S m) (dg c m):=by grind [J.cZ,J.dg]
theorem Le.kV{M a:E}(h:Le M a)(e:jt M b o l):jt a b o l:=λi c d=>h _ _ _ (e i c d)
theorem fU.le{α:Type}{d:Nat}{R b:ae->α->Prop}{l:List α}(h:fU m d R s l)(f:Le m a)(e:∀c x,R c x->b c x):fU a d b s l:=
 by constructor<;>grind [fU.aS,fU.lZ,fU.kA,fU.kV,Le.kV]
def bd.le{m a:E}(b:Le m a){s:N}{l:ab}(h:bd m s l):bd a s l:=by grind [fU.le]
def nm.le{m a:E}(g:Le m a)(b:ae)(c:ab):nm m b c->nm a b c:=λ⟨f,d,e⟩=>⟨f,d,e.le g⟩
def jL.le{m a:E}(d:Le m a)(b:ae)(c:cL):jL m b c->jL a b c:=λ⟨f,e,g⟩=>⟨f,e,fU.le g d (nm.le d)⟩
def dq.le{m a:E}(b:Le m a){s:N}{l:af}(h:dq m s l):dq a s l:=fU.le h b (jL.le b)
theorem Sx(a:b∉S)(h:jt m b o l):jt (dg S m) b o l:=λi c d=>gV.2 ⟨a,h i c d⟩
theorem fU.PG{α:Type}{a:Nat}{R:ae->α->Prop}{c:List ae}{l:List α}(t:∀b∈S,b<d.size)(h:jo d m e a s c.flatten)(k:fK a R c l)(n:0<a)(j:l.length<=9223372036854775807):fU (dg S m) a R s l:=by
 have H:=fU.jM h k n j;refine⟨H.aS,H.lZ,H.kA,λo x i=>?_⟩;let⟨p,q,r⟩:=H.kV o x i;rcases h.bq with f|f
 .have g:=H.aS;have:=bA i;rw[f]at g;simp at g;omega
 .grind [Sx]
theorem bd.PG{l:ab}(o:∀b∈S,b<d.size)(h:jo d m e 1 s (l.map Ce.i))(g:l.length<=9223372036854775807):bd (dg S m) s l:=by
 have H:=bd.jM h g;refine⟨H.aS,H.lZ,H.kA,λk x f=>?_⟩;let⟨i,j,n⟩:=H.kV k x f;rcases h.bq with a|a
 .have c:=H.aS;have:=bA f;rw[a]at c;simp at c;omega
 .grind [Sx]
end Go.Vc
end
section
namespace Go.Vc
variable{X Y S:ad}{m a b c d:E}{f:ae}{s:N}{k:Nat}
@[grind cases] structure Fz (X:ad) (m m':E):Prop where
 aP:m.size<=m'.size
 bC:∀b,b<m.size->b∉X->m'[b]? =m[b]?
theorem Fz.cZ(X:ad)(m:E):Fz X m m:=by constructor<;>grind
def nK:Fz X m m:=Fz.cZ X m
theorem Fz.vX(h:Fz X a b)(k:Fz Y b c)(d:∀y∈Y,y∈X\/a.size<=y):Fz X a c:=
 by constructor<;>grind [Fz.aP,Fz.bC]
theorem Fz.O(h:Fz X a b)(k:Fz X b c):Fz X a c:=by grind [Fz.vX]
theorem J.fz(h:J m d)(X:ad):Fz X m d:=⟨h.aP,λb a _=>h.bC b a⟩
theorem Fz.bZ(h:Fz X a b)(k:J b c):Fz X a c:=h.O (k.fz X)
def Fz.push{X:ad}{a m:E}(h:Fz X a m)(o:Obj):Fz X a (m.push o):=h.bZ (J.push m o)
theorem Fz.ext(h:Fz [] m d):J m d:=by constructor<;>grind [Fz.aP,Fz.bC]
theorem Fz.HW(h:Fz X m d)(a:∀b∈X,b∈Y\/m.size<=b):Fz Y m d:=by constructor<;>grind [Fz.aP,Fz.bC]
theorem Fz.aV(h:Fz X a m){b:Nat}(c:b∈X\/a.size<=b)(o:Nat)(l:ae):Fz X a (aV m b o l):=
 ⟨by rw[bD];exact h.aP,λj f d=>by
  have e:j≠b:=λe=>by subst e;exact c.elim d λc=>V
  rw[cg l m b o e];exact h.bC j f d⟩
theorem Fz.dg(h:Fz X m d){a:ad}(e:∀b∈X,b∈S)(c:∀b∈a,b∈S\/m.size<=b):Le (dg S m) (dg a d):=
 by grind [ms,Fz.bC]
theorem Fz.eU(h:Fz X m d)(a:∀b∈X,b∈S):Le (Vc.dg S m) (Vc.dg S d):=by grind [Fz.dg]
def Fz.fq(h:Fz X m d){l:ad}(c:∀b∈l,b<m.size/\b∉X):gL l m d:=λb a=>h.bC b (c b a).1 (c b a).2
inductive Ex where
 |mk (op cE:Int) (dm:List Ex)
abbrev aJ:=List (dP×Ex)
abbrev ax:=List Ex
def Ex.op:Ex->Int| .mk o _ _=>o
def Ex.cE:Ex->Int| .mk _ n _=>n
def Ex.dm:Ex->ax| .mk _ _ k=>k
structure QQ(β:Type)where
 op:Int
 cE:Int
 cY:Int
 aN:ab
 dm:List β
inductive Bk where
 |mk (bz:List (QQ Bk)) (bL:Int)
abbrev aF:=List Bk
abbrev eK:=QQ Bk
abbrev au:=List eK
def Bk.bz:Bk->au| .mk s _=>s
def Bk.bL:Bk->Int| .mk _ r=>r
@[simp] theorem Ex.abA (o n:Int) (k:ax):(Ex.mk o n k).op=o:=rfl
@[simp] theorem Ex.ZH (o n:Int) (k:ax):(Ex.mk o n k).cE=n:=rfl
@[simp] theorem Ex.Xc (o n:Int) (k:ax):(Ex.mk o n k).dm=k:=rfl
@[simp] theorem Bk.mL (s:au) (r:Int):(Bk.mk s r).bz=s:=rfl
@[simp] theorem Bk.lK (s:au) (r:Int):(Bk.mk s r).bL=r:=rfl
inductive DA(m:E):ae->Ex->Prop
 |mk (op cE:Int) (dm:ax) (s:N) (css:Nat->ae) (hl:s.len=dm.length) (hc:s.len<=s.cap) (hm:s.len<=9223372036854775807)
  (hr:∀(k:Nat)(x:Ex),dm[k]? =some x->jt m s.bq (s.off+k*3) (css k)) (hk:∀(k:Nat)(x:Ex),dm[k]? =some x->DA m (css k) x):DA m [.i op,.i cE,.s s] (.mk op cE dm)
inductive vD(m:E):ae->Bk->Prop
 |mk (bz:List (QQ Bk)) (r:Int) (s:N) (hl:s.len=bz.length) (hc:s.len<=s.cap) (hm:s.len<=9223372036854775807) (aa ks:Nat->N) (kcs:Nat->Nat->ae)
  (hr:∀(k:Nat)(x:QQ Bk),bz[k]? =some x->jt m s.bq (s.off+k*5) [.i x.op,.i x.cE,.i x.cY,.s (aa k),.s (ks k)]/\bd m (aa k) x.aN/\(ks k).len=x.dm.length/\(ks k).len<=(ks k).cap/\(ks k).len<=9223372036854775807)
  (hb:∀(k:Nat)(x:QQ Bk)(j:Nat)(b:Bk),bz[k]? =some x->x.dm[j]? =some b->jt m (ks k).bq ((ks k).off+j*2) (kcs k j))
  (hk:∀(k:Nat)(x:QQ Bk)(j:Nat)(b:Bk),bz[k]? =some x->x.dm[j]? =some b->vD m (kcs k j) b):vD m [.s s,.i r] (.mk bz r)
def j9(m:E)(f:ae)(x:eK):Prop:=∃a k,f=[.i x.op,.i x.cE,.i x.cY,.s a,.s k]/\bd m a x.aN/\fU m 2 (vD m) k x.dm
abbrev jc(m:E)(s:N)(l:ax):Prop:=fU m 3 (DA m) s l
abbrev iA(m:E)(s:N)(l:au):Prop:=fU m 5 (j9 m) s l
abbrev rI(m:E)(s:N)(l:aF):Prop:=fU m 2 (vD m) s l
theorem DA.le(h:Le m d){e:Ex}(a:DA m f e):DA d f e:=by
 induction a with
 |mk n cE dm s b g c i a o l=>exact .mk n cE dm s b g c i (λk x j=>h.kV (a k x j)) l
theorem vD.le{m d:E}(h:Le m d){f:ae}{b:Bk}(a:vD m f b):vD d f b:=by
 induction a with
 |mk bz t s o n p e ks r a l u q=>
  exact .mk bz t s o n p e ks r (λk x c=>let⟨g,i,j⟩:=a k x c;⟨h.kV g,i.le h,j⟩) (λk x j b c g=>h.kV (l k x j b c g)) q
def fU.JN{α:Type}{a:Nat}{R:ae->α->Prop}{l:List α}(h:fU m a R s l):
 ∃b:Nat->ae,∀(k:Nat)(x:α),l[k]? =some x->R (b k) x/\jt m s.bq (s.off+k*a) (b k):=by
 have:∀k:Nat,∃f:ae,∀x:α,l[k]? =some x->R f x/\jt m s.bq (s.off+k*a) f:=λk=>by
  cases e:l[k]? with
  |none=>exact⟨[],λx c=>by simp at c⟩
  |some x=>obtain⟨f,d⟩:=h.kV k x e;exact⟨f,λy c=>by simp at c;exact c▸d⟩
 exact⟨λk=>Classical.choose (this k),λk=>jm (this k)⟩
theorem DA.cC{e:Ex}(h:DA m f e):∃s,f=[.i e.op,.i e.cE,.s s]/\jc m s e.dm:=by
 cases h with
 |mk l cE dm s b g c i j d=>exact⟨s,rfl,g,c,i,λk x a=>⟨b k,d k x a,j k x a⟩⟩
def DA.of{b cE:Int}{dm:ax}(h:jc m s dm):DA m [.i b,.i cE,.s s] (.mk b cE dm):=by
 let⟨d,c⟩:=h.JN;exact .mk b cE dm s d h.aS h.lZ h.kA (λk x a=>(c k x a).2) λk x a=>(c k x a).1
theorem vD.cC{b:Bk}(h:vD m f b):∃s,f=[.s s,.i b.bL]/\iA m s b.bz:=by
 cases h with
 |mk bz w s r p t d ks v u o q=>
  exact⟨s,rfl,r,p,t,λk x a=>let⟨e,g,i,l,n⟩:=u k x a;⟨_,⟨d k,ks k,rfl,g,i,l,n,λj b c=>⟨v k j,q k x j b a c,o k x j b a c⟩⟩,e⟩⟩
def vD.of{r:Int}{bz:au}(h:iA m s bz):vD m [.s s,.i r] (.mk bz r):=by
 let⟨g,n⟩:=h.JN;have:∀k:Nat,∃(a c:N)(kc:Nat->ae),∀x:eK,bz[k]? =some x->g k=[.i x.op,.i x.cE,.i x.cY,.s a,.s c]/\bd m a x.aN/\(c.len=x.dm.length/\c.len<=c.cap/\c.len<=9223372036854775807)/\
  ∀(j:Nat)(b:Bk),x.dm[j]? =some b->vD m (kc j) b/\jt m c.bq (c.off+j*2) (kc j):=λk=>by
  cases o:bz[k]? with
  |none=>exact⟨.nil,.nil,λ_=>[],λx d=>by simp at d⟩
  |some x=>
   obtain⟨⟨a,c,i,l,e⟩,_⟩:=n k x o
   let⟨kc,p⟩:=e.JN
   exact⟨a,c,kc,λy f=>by simp at f;subst f;exact⟨i,l,⟨e.aS,e.lZ,e.kA⟩,p⟩⟩
 have H:=λk=>jm (jm (jm (this k)));refine .mk bz r s h.aS h.lZ h.kA (λk=>Classical.choose (this k)) (λk=>Classical.choose (jm (this k))) (λk=>Classical.choose (jm (jm (this k)))) (λk x d=>?_) (λk x j b d e=>((H k x d).2.2.2 j b e).2) λk x j b d e=>((H k x d).2.2.2 j b e).1;grind
theorem j9.le{m d:E}(h:Le m d){f:ae}{x:eK}:j9 m f x->j9 d f x:=λ⟨a,k,b,c,e⟩=>⟨a,k,b,c.le h,fU.le e h λ_ _=>vD.le h⟩
def jc.le{m d:E}(a:Le m d){s:N}{l:ax}(h:jc m s l):jc d s l:=by grind [fU.le,DA.le]
def iA.le{m d:E}(a:Le m d){s:N}{l:au}(h:iA m s l):iA d s l:=by grind [fU.le,j9.le]
def rI.le{m d:E}(a:Le m d){s:N}{l:aF}(h:rI m s l):rI d s l:=by grind [fU.le,vD.le]
theorem jc.D{l:ax}(h:jc m s l){x:Ex}(b:l[k]? =some x):
 ∃t,jc m t x.dm/\aR m s.bq (s.off+k*3)=some (vi x.op)/\aR m s.bq (s.off+k*3+1)=some (vi x.cE)/\aR m s.bq (s.off+k*3+2)=some t.v:=by
 let⟨f,d,a⟩:=h.kV k x b
 obtain⟨t,rfl,c⟩:=d.cC
 exact⟨t,c,a 0 _ rfl,a 1 _ rfl,a 2 _ rfl⟩
theorem iA.D{l:au}(h:iA m s l){x:eK}(e:l[k]? =some x):
 ∃a t,bd m a x.aN/\rI m t x.dm/\aR m s.bq (s.off+k*5)=some (vi x.op)/\aR m s.bq (s.off+k*5+1)=some (vi x.cE)/\aR m s.bq (s.off+k*5+2)=some (vi x.cY)/\aR m s.bq (s.off+k*5+3)=some a.v/\aR m s.bq (s.off+k*5+4)=some t.v:=by
 obtain⟨f,⟨a,t,rfl,c,d⟩,b⟩:=h.kV k x e
 exact⟨a,t,c,d,b 0 _ rfl,b 1 _ rfl,b 2 _ rfl,b 3 _ rfl,b 4 _ rfl⟩
theorem rI.D{l:aF}(h:rI m s l){x:Bk}(b:l[k]? =some x):
 ∃t,iA m t x.bz/\aR m s.bq (s.off+k*2)=some t.v/\aR m s.bq (s.off+k*2+1)=some (vi x.bL):=by
 let⟨f,d,a⟩:=h.kV k x b
 obtain⟨t,rfl,c⟩:=d.cC
 exact⟨t,c,a 0 _ rfl,a 1 _ rfl⟩
def Bk.w:Bk->Nat
 | .mk bz _=>1+(bz.map λs=>1+s.aN.length+(s.dm.map Bk.w).sum).sum
decreasing_by
 rename_i s a _ _
 have b:=sR a
 have c:=sR (by assumption:_∈s.dm)
 have d:SizeOf.sizeOf s.dm<SizeOf.sizeOf s:=by cases s;simp;omega
 simp;omega
def QQ.w(s:QQ Bk):Nat:=1+s.aN.length+(s.dm.map Bk.w).sum
def Bk.aeA(b:Bk):b.w=1+(b.bz.map QQ.w).sum:=by
 cases b;rw[Bk.w];rfl
def Ex.n:Ex->Nat
 | .mk _ _ dm=>1+(dm.map Ex.n).sum
end Go.Vc
end
section
namespace Go.Vc
variable{S Y S' X:ad}{d a c:E}{b k n h tb:Nat}{s x:N}{g cs i:ae}{f:List ae}{K:N->E->Prop}
@[grind cases] structure qj {α:Type} (sz:Nat) (R:E->ae->α->Prop):Prop where
 le:∀{M M':E}{cs:ae}{x:α},Le M M'->R M cs x->R M' cs x
 aS:∀{M:E}{cs:ae}{x:α},R M cs x->cs.length=sz
def ye(_:E)(cs:ae)(n:Int):Prop:=aai cs n
theorem ye.aO:qj 1 ye:=⟨λ_ h=>h,λh=>by rw[h];rfl⟩
def DA.aO:qj 3 DA:=by constructor<;>grind [DA.le,DA.cC]
def vD.aO:qj 2 vD:=by constructor<;>grind [vD.le,vD.cC]
theorem j9.aO:qj 5 j9:=⟨λh=>j9.le h,λh=>by obtain⟨_,_,rfl,_⟩:=h;rfl⟩
@[grind cases] structure Gr {α:Type} (S:ad) (m0 m:E) (e sz:Nat) (R:E->ae->α->Prop) (s:N) (l:List α):Prop where
 iT:s≠.nil
 bF:∃css,jo m0 m e sz s css.flatten/\fK sz (R (dg (s.bq::S) m)) css l
theorem Gr.aS{α:Type}{S:ad}{d a:E}{b c:Nat}{R:E->ae->α->Prop}{s:N}{l:List α}(h:Gr S d a b c R s l)(i:0<c):s.len=l.length:=by
 obtain⟨_,f,e,g⟩:=h;have:=e.aS;rw[eE g.aP]at this;grind [fK.aS,Nat.eq_of_mul_eq_mul_right]
theorem Gr.cD{α:Type}{g:Nat}{R:E->ae->α->Prop}{l:List α}(h:Gr S d a b g R s l):d.size<=s.bq/\s.bq<a.size:=by
 let⟨c,f,e,i⟩:=h;exact⟨e.bq.resolve_left c,e.lt.resolve_left c⟩
theorem Gr.bI{α:Type}(S:ad){d a:E}(h:d.size<=a.size){b c:Nat}{R:E->ae->α->Prop}:Gr S d (a.push (.cells (de []) b)) b c R (.mk a.size 0 0 0) []:=
 ⟨bO,[],(jo.bI (J.cZ a) b c [] 0 bO).da h,fK.gD _ _⟩
def Gr.fL{α:Type}{S Y:ad}{d a c:E}{b e:Nat}{R:E->ae->α->Prop}{s:N}{l:List α}(k:qj e R)(h:Gr S d a b e R s l)(n:Fz Y a c)(m:∀g∈Y,g∈S/\g<d.size):Gr S d c b e R s l:=by
 have o:=h.cD;let⟨g,f,i,j⟩:=h;constructor<;>grind [jo.congr,Fz.bC,fK.aO,Fz.eU,List.mem_cons_of_mem]
def Gr.Pq{α:Type}{g:Nat}{R:E->ae->α->Prop}{l:List α}(n:qj g R)(h:Gr S d a b g R s l)(i:Fz Y a c)(o:∀e∈Y,e∈S)(q:s.bq∉Y):Gr S d c b g R s l:=by
 have r:=h.cD;let⟨j,f,k,m⟩:=h;exact⟨j,f,k.congr (i.bC _ r.2 q),m.aO λcs x=>n.le (i.eU λe p=>aW _ (o e p))⟩
theorem Gr.re{α:Type}{g:Nat}{R:E->ae->α->Prop}{l:List α}(o:qj g R)(h:Gr S d a b g R s l)(j:Fz Y a c)(p:∀e∈Y,e∈S)(q:s.bq∉Y)(t:∀e∈S',e∈S\/a.size<=e):Gr S' d c b g R s l:=by
 have r:=h.cD;let⟨k,f,m,n⟩:=h;refine⟨k,f,m.congr (j.bC _ r.2 q),n.aO λcs x=>o.le (j.dg (λe i=>aW _ (p e i)) λe i=>?_)⟩;grind [List.mem_cons_self,List.mem_cons_of_mem]
theorem Gr.ext{α:Type}{e:Nat}{R:E->ae->α->Prop}{l:List α}(f:qj e R)(h:Gr S d a b e R s l)(g:J a c):Gr S d c b e R s l:=
 h.fL f (g.fz []) bO
theorem Gr.cz{α:Type}{c:Nat}{R:E->ae->α->Prop}{l:List α}(f:qj c R)(h:Gr S d a b c R s l)(g:∀e∈S,e<d.size)(i:0<c)(e:l.length<=9223372036854775807):fU (dg S a) c (R (dg S a)) s l:=by
 grind [fU.PG,fK.aO,kO,List.mem_cons_of_mem]
theorem J.QM(h:k<=a.size):J (a.extract 0 k) a:=by
 constructor<;>grind [Array.getElem?_extract]
theorem vr(h:k<=a.size):(a.extract 0 k).size=k:=fj
def Gr.zw{α:Type}{F:Nat}{R:E->ae->α->Prop}{C D:List α}(G:qj g.length R)(W:0<g.length)
 (y:Gr S d a b g.length R s C)(H:Fz X d a)(u:x.len=f.length)(T:jt a x.bq x.off f.flatten)(n:fK g.length (R (dg (s.bq::S) a)) f D)(i:(C.length+D.length)*F<=140737488355328)
 (P:∀r c,Gr S d c b g.length R r (C++D)->Fz X d c->(a.size<=c.size/\(r.bq=s.bq\/a.size<=r.bq))->(∀e,e<a.size->e≠s.bq->c[e]? =a[e]?)->K r c):lS a b g F s x K:=by
 have Q:=y.aS W
 have hy:=y.cD
 let⟨z,w,O,j⟩:=y
 have q:d.size<=a.size:=H.aP
 refine jo.fy (f:=a.extract 0 d.size) (c:=g) (h:=f.flatten) (l:=w.flatten) (O.da (by rw[vr q];exact bW)) (J.QM q) ?_ T (by rw[Q,u,n.aS];exact i) λr c Y k2 k3 Z k5 B=>?_
 .rw[eE n.aP,u]
 have A:∀e,e<a.size->e≠s.bq->c[e]? =a[e]? :=λe i k=>k5 e i λ_=>k
 have U:r≠.nil:=by
  rcases B with⟨h,_⟩|⟨_,_,h⟩|h
  .exact absurd h z
  .exact h
  .intro b;rw[b]at h;simp at h;omega
 have L:a.size<=c.size:=Z
 have I:Le (dg (s.bq::S) a) (dg (r.bq::S) c):=ms λe i k=>by
  simp only[aY,Cj]at k;refine⟨?_,A e i k.1⟩;simp only[aY,Cj];refine⟨?_,k.2⟩;rcases B with⟨h,_⟩|⟨_,h,_⟩|h
  .exact absurd h z
  .rw[h];exact k.1
  .omega
 refine P r c ⟨U,w++f,?_,?_⟩ ⟨fA q L,λe i u=>?_⟩ ⟨L,?_⟩ A
 .rw[uS]
  exact Y.da (by rw[vr q];exact bW)
 .refine⟨by simp[j.aS,n.aS],λm o=>?_,λM m N t v=>?_⟩
  .rcases bR.1 o with o|o
   .exact j.aP m o
   .exact n.aP m o
  .rcases eJ M w.length with p|p
   .rw[dX p]at t
    rw[dX (j.aS▸p)]at v
    exact G.le I (j.eN M m N t v)
   .rw[dL p]at t
    rw[dL (by rw[<-j.aS];exact p),<-j.aS]at v
    exact G.le I (n.eN _ m N t v)
 .rw[A e (cp i q) V];exact H.bC e i u
 .rcases B with⟨h,_⟩|⟨_,h,_⟩|h
  .exact absurd h z
  .exact bu h
  .exact bG V
def Gr.nA{α:Type}{n:Nat}{R:E->ae->α->Prop}{m:List α}{k:α}(i:qj g.length R)(z:0<g.length)
 (q:Gr S d a b g.length R s m)(w:Fz X d a)(p:R (dg (s.bq::S) a) cs k)(j:(m.length+1)*n<=140737488355328)
 (x:∀r c,Gr S d c b g.length R r (m++[k])->Fz X d c->(a.size<=c.size/\(r.bq=s.bq\/a.size<=r.bq))->(∀f,f<a.size->f≠s.bq->c[f]? =a[f]?)->K r c):lS (a.push (.cells (de cs) b)) b g n s (.mk a.size 0 1 1) K:=by
 have h:=J.push a (.cells (de cs) b)
 refine Gr.zw (f:=[cs]) (D:=[k]) i z (q.ext i h) (w.bZ h) rfl ?_ ?_ j λr c t u o v=>x r c t u ⟨fA h.aP o.1,o.2.imp id (fA h.aP)⟩ λf j y=>(v f (cp j h.aP) y).trans (h.bC f j)
 .have:=(dJ.push a (e:=b) (l:=cs)).kV
  simpa using this
 .have:=fK.By (fK.gD g.length (R (dg (s.bq::S) (a.push (.cells (de cs) b))))) (i.aS p) (i.le h.eU p)
  simpa using this
def fU.abB{α:Type}{b:Nat}{R:ae->α->Prop}{l:List α}(C:∀cs x,R cs x->cs.length=b)(p:fU a b R s l):
 ∃f,s.len=f.length/\jt a s.bq s.off f.flatten/\fK b R f l:=by
 let⟨c,w⟩:=p.JN
 have v:∀(d:Nat)(cs:ae),((List.range l.length).map c)[d]? =some cs->d<l.length/\cs=c d:=λd cs e=>by
  grind [Option.map_eq_some_iff,List.getElem?_eq_some_iff]
 have h:∀cs∈(List.range l.length).map c,cs.length=b:=λcs u=>by
  let⟨d,e⟩:=cX.1 u;obtain⟨t,rfl⟩:=v d cs e;let⟨x,o⟩:=jk t;grind
 refine⟨(List.range l.length).map c,by simp[p.aS],λi r n=>?_,bO,h,λd cs x e o=>?_⟩
 .rcases FK b with k|k
  .have g:=bA n
   rw[eE h,k]at g;simp at g
  have g:=bA n
  rw[eE h]at g
  simp at g
  have e:i/b<l.length:=Nat.div_lt_of_lt_mul cG
  let⟨x,o⟩:=jk e
  have y:i=i/b*b+i%b:=by grind [Nat.mul_comm,Nat.div_add_mod]
  have D:=Nat.mod_lt i k
  have B:(c (i/b)).length=b:=cG
  let⟨z,q⟩:=dY (c (i/b)) (i%b)
  have m:=jY (g:=(List.range l.length).map c) h (b:=i/b) (a:=c (i/b)) (by simp[e]) q
  rw[<-y,n]at m
  simp at m;subst m
  have A:=(w _ x o).2 _ r q
  grind [Nat.add_assoc]
 .grind
def Gr.lQ{α:Type}{j:Nat}{R:E->ae->α->Prop}{l i:List α}(k:qj g.length R)(v:0<g.length)
 (h:Gr S d a b g.length R s l)(t:Fz X d a)(p:fU (dg (s.bq::S) a) g.length (R (dg (s.bq::S) a)) x i)(q:(l.length+i.length)*j<=140737488355328)
 (u:∀r c,Gr S d c b g.length R r (l++i)->Fz X d c->(a.size<=c.size/\(r.bq=s.bq\/a.size<=r.bq))->(∀e,e<a.size->e≠s.bq->c[e]? =a[e]?)->K r c):lS a b g j s x K:=by
 let⟨f,m,n,o⟩:=p.abB λ_ _ h=>k.aS h
 exact Gr.zw k v h t m (fG.kV n) o q u
def Gr.jU{α:Type}{e:Nat}{R:E->ae->α->Prop}{l:List α}(i:qj e R)(h:d.size<=a.size)(j:cs=f.flatten)(k:n=f.length)(g:fK e (R (dg S a)) f l):
 Gr S d (a.push (.cells (de cs) b)) b e R (.mk a.size 0 n n) l:=by
 subst j k
 refine⟨bO,f,(jo.bI (J.cZ a) b e f.flatten f.length (eE g.aP)).da h,g.aO λo x=>i.le ?_⟩
 exact(J.push a _).dg λm c=>by
  rcases aY.1 c with c|c
  .exact bG (by simp[c])
  .exact bu c
def Gr.rO{α:Type}{c:Nat}{R:E->ae->α->Prop}{l:List α}(m:qj c R)(h:Gr S d a b c R s l)(n:s.bq∉S)(q:0<c)(p:l.length<=9223372036854775807):fU (dg S a) c (R (dg S a)) s l:=by
 obtain⟨_,f,e,g⟩:=h;have H:=fU.jM e (g.aO λcs x=>m.le (kO a λj i=>aW s.bq i)) q p;exact⟨H.aS,H.lZ,H.kA,λk x o=>let⟨cs,i,j⟩:=H.kV k x o;⟨cs,i,Sx n j⟩⟩
def Gr.ne{α:Type}{c:Nat}{R:E->ae->α->Prop}{l:List α}(e:Gr S d a b c R s l)(f:dJ a h tb i)(g:tb≠b):s.bq≠h:=by
 grind [jo.D,N.mP,dJ]
theorem Gr.PC{α β:Type}{q:E}{r c t:Nat}{R:E->ae->α->Prop}{g:E->ae->β->Prop}{e:N}{o:List α}{p:List β}(j:Gr S d a b r R s o)(k:Gr S' q a c t g e p)(n:c≠b):s.bq≠e.bq:=by
 let⟨l,f,m,z⟩:=k;let⟨u,v,tail,h,w,i,x,y⟩:=m.D.resolve_left l;have:=j.ne i n;rw[h];exact this
def Gr.bT{α:Type}{L:ad}{j v:Nat}{R:E->ae->α->Prop}{q:List α}{u:α}{K:E->Prop}(A:qj g.length R)(U:0<g.length)
 (y:Gr S d a b g.length R s q)(P:Fz X d a)(O:R (dg (s.bq::S) a) cs u)(k:(q.length+1)*v<=140737488355328)
 (o:dJ a h tb i)(Y:j<i.length)(F:tb≠b)(B:d.size<=h/\h∈S)(z:∀e∈L,e<a.size/\e≠h/\e≠s.bq)
 (Q:∀r c,Gr S d c b g.length R r (q++[u])->dJ c h tb (jh i j [.s r])->Fz X d c->a.size<=c.size->(∀e,e<a.size->e≠s.bq->e≠h->c[e]? =a[e]?)->K c):
 aR (a.push (.cells (de cs) b)) h j=aR a h j/\
 lS (a.push (.cells (de cs) b)) b g v s (.mk a.size 0 1 1) λr c=>gL L (a.push (.cells (de cs) b)) c/\iQ c h j 1/\(gL L c (aV c h j [.s r])/\K (aV c h j [.s r])):=by
 have C:=o.lt
 have G:=J.push a (.cells (de cs) b)
 refine⟨bB (G.bC h C) j,Gr.nA A U y P O k λr c w H W t=>?_⟩
 have p:dJ c h tb i:=o.congr (t h C (ur (y.ne o F)))
 have T:=w.ne p F
 have n:∀e,e≠h->(aV c h j [.s r])[e]? =c[e]? :=λe k=>cg _ _ _ _ k
 refine⟨λe k=>?_,p.iQ V,λe k=>n e (z e k).2.1,Q r _ ?_ (dJ.aV (m:=c) p) (H.aV (bG B.1) _ _) (by rw[bD];exact W.1) λe l M N=>(n e N).trans (t e l M)⟩
 .have l:=z e k
  rw[t e l.1 l.2.2,G.bC e l.1]
 .let⟨I,f,g1,g2⟩:=w
  refine⟨I,f,g1.congr (n _ T),g2.aO λcs x=>A.le ?_⟩
  exact ms λe k D=>⟨D,n e λb=>D (by rw[b];exact aW _ B.2)⟩
theorem bd.jU(b:Nat){l:ab}(e:∀c∈S,c<a.size)(c:cs=l.map Ce.i)(d:n=l.length)(f:l.length<=9223372036854775807):bd (dg S (a.push (.cells (de cs) b))) (.mk a.size 0 n n) l:=by
 subst c d;have h:=jo.bI (J.cZ a) b 1 (l.map Ce.i) l.length bO;grind [bd.PG]
end Go.Vc
end
section
namespace Go.Vc
variable{x y:Operand}{k:SV->Prop}{l h:ae}{f:Int->Prop}{r:aB}{a:Int}{g:Array (Nat×Operand)}{e:ar}{Q:Exit->Fr->E->Prop}{c:Code}
section
variable{P:Program}{T:TT}{G:ad}{n:Nat}{A:Tu}{m q:E}{p u:Fr}{b o j i t:Nat}{s:Sh}{d:Option Nat}{v:Value}
def nc(n:Nat):Int:=n
def nce{n:Nat}:nc n=n:=rfl
def abj:YY T p .len [t] [x] k=match ji T t,ev p x with
 |some ⟨.slice _,_,_⟩,.c (.s s)=>k (.c (.i (nc s.len)))
 |_,_=>False:=rfl
def abk{l:ad}:YY T p .max l [x,y] k=match ev p x,ev p y with
 | .c (.i a),.c (.i b)=>k (.c (.i (if b>a then b else a)))
 |_,_=>False:=rfl
def abl{l:ad}:YY T p .min l [x,y] k=match ev p x,ev p y with
 | .c (.i a),.c (.i b)=>k (.c (.i (if b<a then b else a)))
 |_,_=>False:=rfl
def Xh(m:E)(k:E->Prop):SF m k=(let q:=m;k q):=rfl
def pa{α:Type}(x:α)(f:α->Prop):Prop:=f x
def X0(s:Sh)(f:s.ty->Prop):Prop:=∃x,f x
def alS(s:Sh)(f:s.ty->Prop):Prop:=∀x,f x
def exI:X0 .I f=∃x,pa x f:=rfl
def exU{k:IntKind}:X0 (.U k) f=∃x,pa x f:=rfl
def exB{f:Bool->Prop}:X0 .T f=∃x,pa x f:=rfl
def adD{f:N->Prop}:X0 .S f=∃x,pa x f:=rfl
def exP{f:Nat×Nat->Prop}:X0 .P f=∃x,pa x f:=rfl
def exF{f:Fn×Array Value×Array Value->Prop}:X0 .F f=∃x,pa x f:=rfl
def exM{f:Nat->Prop}:X0 .M f=∃x,pa x f:=rfl
def alI:alS .I f=∀x,f x:=rfl
def alU{k:IntKind}:alS (.U k) f=∀x,f x:=rfl
def alB{f:Bool->Prop}:alS .T f=∀x,f x:=rfl
def adj{f:N->Prop}:alS .S f=∀x,f x:=rfl
def alP{f:Nat×Nat->Prop}:alS .P f=∀x,f x:=rfl
def alF{f:Fn×Array Value×Array Value->Prop}:alS .F f=∀x,f x:=rfl
def exQ{f:Option (Nat×Nat)->Prop}:X0 .Q f=∃x,pa x f:=rfl
def alQ{f:Option (Nat×Nat)->Prop}:alS .Q f=∀x,f x:=rfl
def alM{f:Nat->Prop}:alS .M f=∀x,f x:=rfl
def cU8{x:Int}:nG (.int .u8 x)=some (.u .u8 x):=rfl
def z0:ng h 0=[]:=rfl
def z1:ng h (n+1)=h++ng h n:=rfl
def tb{a b:Nat}:Nat.testBit a b=(1&&&(a>>>b)!=0):=rfl
def abe{e:Edge}{a:afp}:oH (e::a)=bif Region.binds .any e then 2^e.on|||oH a else oH a:=rfl
def b1:Region.binds .any ⟨i,.data⟩=true:=rfl
def b2:Region.binds .any ⟨i,.chain⟩=true:=rfl
def b3:Region.binds .any ⟨i,.guard⟩=true:=rfl
def b4:Region.binds .any ⟨i,.phase⟩=true:=rfl
def b5{x:Departure}:Region.binds .any ⟨i,.gcOnly x⟩=false:=rfl
def b6{x:Departure}:Region.binds .any ⟨i,.textOnly x⟩=false:=rfl
def Xb(c:Ce)(k:ae->Prop)(l:ae):Prop:=k (c::l)
def aaB(k:SV->Prop)(l:ae):Prop:=k (.agg l)
def kld(m:E)(b o j:Nat)(s:Sh)(r:aB)(k:ae->Prop)(x:s.ty):Prop:=
 aR m b (bif j==0 then o else o+j)=some (s.mk x).v/\ldC m b o (j+1) r (Xb (s.mk x) k)
def ady{k:ae->Prop}:ldC m b o j (s::r) k=X0 s (kld m b o j s r k):=by
 cases j<;>rfl
def klc(m:E)(b o:Nat)(s:Sh)(k:SV->Prop)(x:s.ty):Prop:=aR m b o=some (s.mk x).v/\k (.c (s.mk x))
def Zd{t:Nat}:Um T m t b o k=match ji T t with
 |some ⟨.struct _,a,_⟩=>ldC m b o 0 a (aaB k)
 |some ⟨.cell,[s],_⟩=>X0 s (klc m b o s k)
 |some ⟨.slice _,[_],_⟩=>∃x:N,aR m b o=some x.v/\k (.c (.s x))
 |_=>False:=rfl
def ile{b:Int}:Int.le a b=(a<=b):=rfl
def khi(s:N)(z:Nat)(l:Int)(k:SV->Prop)(h:Int):Prop:=Int.le 0 l/\Int.le l h/\Int.le h (nc s.cap)/\k (.c (.s (s.cut l.toNat h.toNat z)))
def klo(p:Fr)(a:Option Operand)(s:N)(z:Nat)(k:SV->Prop)(l:Int):Prop:=Q3 p a (nc s.len) (khi s z l k)
def adw{f:Nat}{mk:Nat->SV}:JT T t f o mk k=match ji T t with
 |some ⟨.struct c,_,_⟩=>match LA c f with
  |some (a,u)=>match ji T u with
   |some b=>bif b.yO||Nat.beq b.sh.length 0 then False else bif a==0 then k (mk o)else k (mk (o+a))
   |none=>False
  |none=>False
 |_=>False:=by
 have h:∀a,(bif a==0 then k (mk o)else k (mk (o+a)))=k (mk (o+a)):=cG
 simp only[h];rfl
def abi{s:N}{n:Int}:acR T t s n k=match ji T t with
 |some ⟨.slice e,_,_⟩=>match ji T e with
  |some a=>bif a.yO then False else Int.le 0 n/\n<nc s.len/\k (.c (.p s.bq (s.off+n.toNat*a.sh.length)))
  |none=>False
 |_=>False:=rfl
def W0{s:N}{b a:Option Operand}:Wm T p t s b a k=match ji T t with
 |some ⟨.slice e,_,_⟩=>match ji T e with
  |some c=>bif c.yO then False else Q3 p b 0 (klo p a s c.sh.length k)
  |none=>False
 |_=>False:=rfl
def WW:rd T p m k (.build t g)=match ji T t with
 |some ⟨.struct a,b,_⟩=>bif zy T a then JM T p a (b.map Sh.zero) g.toList (aaB k)else False
 |_=>False:=rfl
def kxc(s:Sh)(r:aB)(k:ae->Prop)(x:s.ty):Prop:=exC r (Xb (s.mk x) k)
def abg{k:ae->Prop}:exC (s::r) k=X0 s (kxc s r k):=rfl
def kav(a:AV)(k:aH->Prop)(l:aH):Prop:=k (a::l)
def kxt(T:TT)(r:ad)(k:aH->Prop)(l:ae):Prop:=Ya T r (kav (.agg l) k)
def kxs(T:TT)(s:Sh)(r:ad)(k:aH->Prop)(x:s.ty):Prop:=Ya T r (kav (.c (s.mk x)) k)
def abh{r:ad}{k:aH->Prop}:Ya T (t::r) k=match ji T t with
 |some ⟨.struct _,a,_⟩=>exC a (kxt T r k)
 |some ⟨.cell,[s],_⟩=>X0 s (kxs T s r k)
 |some ⟨.slice _,[_],_⟩=>∃x:N,Ya T r (kav (.c (.s x)) k)
 |_=>False:=rfl
def krt(v:Value)(k:SV->Prop)(l:aH):Prop:=v=.tuple (l.map AV.v).toArray/\k (.tup l)
def krs(v:Value)(k:SV->Prop)(l:ae):Prop:=v=.agg (l.map Ce.v).toArray/\k (.agg l)
def krc(v:Value)(s:Sh)(k:SV->Prop)(x:s.ty):Prop:=v=(s.mk x).v/\k (.c (s.mk x))
def abq:Uu T t v k=match ji T t with
 |some ⟨.tuple [],_,_⟩=>k .jz
 |some ⟨.tuple a,_,_⟩=>Ya T a (krt v k)
 |some ⟨.struct _,a,_⟩=>exC a (krs v k)
 |some ⟨.cell,[s],_⟩=>X0 s (krc v s k)
 |some ⟨.slice _,[_],_⟩=>∃x:N,v=x.v/\k (.c (.s x))
 |_=>False:=rfl
def aaC(k:Fr->SV->E->Prop)(p:Fr)(m:E)(x:SV):Prop:=k p x m
def inG(G:ad)(g:Nat):Prop:=G.elem g=true
def adJ{G:ad}{g:Nat}:inG G g=(G.elem g=true):=rfl
def nz(b:Int):Prop:=b≠0
def nze{b:Int}:nz b=(b≠0):=rfl
def abn{b:Int}:vJ .quo a b k=(nz b/\k (.c (.i (eR (a.tdiv b))))):=rfl
def abp{b:Int}:vJ .rem a b k=(nz b/\k (.c (.i (a.tmod b)))):=rfl
def Za{c:Nat}{f:Operand}{a:aE}{k:Fr->SV->E->Prop}:Y1 P T G n p m c f a k=match Zi p (a.map (ev p))with
 |none=>False
 |some u=>match ev p f with
  | .c (.fn (.func g) first b)=>bif G.elem g&&a.all (λx=>(ev p x).mJ)then
   bJ P g (first.toList++(a.map λx=>(ev p x).v)++b.toList) m λv q=>Ev (QN n u []) m q (Uu T c v (aaC k u q))
   else False
  | .c (.fv b)=>bif a.all (λx=>(ev p x).mJ)then
   ∃g,b.1=.func g/\inG G g/\bJ P g (b.2.1.toList++(a.map λx=>(ev p x).v)++b.2.2.toList) m λv q=>Ev (QN n u []) m q (Uu T c v (aaC k u q))
   else False
  |_=>False:=rfl
def p3(m:E)(k:Fr->SV->E->Prop)(p:Fr)(x:SV):Prop:=k p x m
def p2(m:E)(k:SV->E->Prop)(x:SV):Prop:=k x m
def Zf{k:Fr->SV->E->Prop}:Yg n p none m t l k=SF (m.push (.cells (de l) t)) λq=>p3 q k p (.c (.p m.size 0)):=rfl
def Zg{j:Nat}{k:Fr->SV->E->Prop}:Yg n p (some j) m t l k=match km p (n+j)with
 | .DK _ _ _=>False
 |_=>SF (m.push (.cells (de l) t)) λq=>p3 q k ((n+j,.box m.size t l)::p) (.c (.bp (n+j) m.size 0)):=rfl
def adB{x:SV}{k:Fr->SV->E->Prop}:Ti n p m x l k=match x with
 | .c (.p b o)=>iQ m b o l.length/\SF (aV m b o l) λq=>Ev (QN n p []) m q (k p .un q)
 | .c (.bp d b o)=>match km p d with
  | .box a e c=>bif Nat.ble (o+l.length) c.length then Oq a b (SF (aV m b o l) λq=>p3 q k ((d,.box a e (jh c o l))::p) .un)else False
  | .DK _ _ _=>False
  |_=>iQ m b o l.length/\SF (aV m b o l) λq=>Ev (QN n p []) m q (k p .un q)
 |_=>False:=rfl
def adA{b:Nat}{k:Fr->SV->E->Prop}:wr P T G n p m d b k (.makeSlice t x y)=match ji T t,ev p x,ev p y with
 |some ⟨.slice e,_,_⟩,.c (.i l),.c (.i c)=>match ji T e with
  |some a=>bif a.yO then False else Int.le 0 l/\Int.le l c/\Int.le (nc a.bytes*c) 281474976710656/\Int.le c 9223372036854775807/\
   SF (m.push (.cells (de (ng (a.sh.map Sh.zero) c.toNat)) e)) λq=>p3 q k p (.c (.s (.mk m.size 0 l.toNat c.toNat)))
  |none=>False
 |_,_,_=>False:=rfl
def adz{a:Nat}{k:Fr->SV->E->Prop}:wr P T G n p m d a k (.makeMap t none)=SF (m.push (.map #[] 0)) λq=>p3 q k p (.c (.mp m.size)):=rfl
def abf{z:Nat}{s x:N}{k:SV->E->Prop}:acK m z s x k=∃a:ae,a.length=Nat.min x.len s.len*z/\jt m x.bq x.off a/\iQ m s.bq s.off a.length/\
 SF (aV m s.bq s.off a) λq=>p2 q k (.c (.i (nc (Nat.min x.len s.len)))):=rfl
def kbs(p:Fr)(m:E)(e a:Nat)(k:Fr->SV->E->Prop)(l:ae):Prop:=match JQ p l with
 |some u=>SF (m.push (.cells (de l) e)) λq=>p3 q k u (.c (.s (.mk m.size 0 a a)))
 |none=>False
def adv{c a:Nat}{k:Fr->SV->E->Prop}:wr P T G n p m d c k (.buildSlice t a g)=match ji T t with
 |some ⟨.slice e,_,_⟩=>match ji T e with
  |some b=>bif b.yO||!(Nat.ble (a*b.sh.length) 16777216)then False else
   Bp T p b.sh.length (ng (b.sh.map Sh.zero) a) g.toList (kbs p m e a k)
  |none=>False
 |_=>False:=rfl
def kcp(n:Nat)(p:Fr)(m:E)(k:Fr->SV->E->Prop)(x:SV)(q:E):Prop:=Ev (QN n p []) m q (k p x q)
def Zb{b:Nat}{u:Nat}{c:ad}{k:Fr->SV->E->Prop}:wr P T G n p m d b k (.call ⟨.builtin .copy,⟨[x,y]⟩,⟨u::c⟩⟩)=match ji T u,ev p x,ev p y with
 |some ⟨.slice e,_,_⟩,.c (.s s),.c (.s z)=>match ji T e with
  |some a=>bif a.yO then False else acK m a.sh.length s z (kcp n p m k)
  |none=>False
 |_,_,_=>False:=rfl
def kw(P:Program)(T:TT)(G:ad)(n:Nat)(e:ar)(d:Option Nat)(mC:ar)(k:Fr->E->Prop)(p:Fr)(x:SV)(m:E):Prop:=wz P T G n e mC (yg p d x) m k
def kr(P:Program)(T:TT)(G:ad)(n:Nat)(e:ar)(d:Option Nat)(mC:ar)(k:Fr->E->Prop)(p:Fr)(m:E)(x:SV):Prop:=wz P T G n e mC (yg p d x) m k
def ky(P:Program)(T:TT)(G:ad)(n:Nat)(e:ar)(o:Oper)(mC:ar)(k:Fr->E->Prop)(m:E)(p:Fr):Prop:=
 bif Pn o.op then wr P T G n p m o.dst o.type (kw P T G n e o.dst mC k) o.op else rd T p m (kr P T G n e o.dst mC k p m) o.op
def kn(P:Program)(T:TT)(G:ad)(n:Nat)(e:ar)(d:Option Nat)(mC:ar)(k:Fr->E->Prop)(m:E)(p:Fr):Prop:=wz P T G n e mC (yg p d .un) m k
def abm{o:Oper}{mC:ar}{k:Fr->E->Prop}:wz P T G n e (o::mC) p m k=
 bif wh n o.dst then gd e p o.guard (ky P T G n e o mC k m) (kn P T G n e o.dst mC k m)else False:=rfl
abbrev LL:=List (Nat×ao)
def dr1(P:Program)(T:TT)(G:ad)(n:Nat)(e:ar)(c a:ad)(b done:Nat)(o:Oper)(i:Nat)(m:E)(L:LL)(k:Fr->E->Prop)(p:Fr)(x:SV):Prop:=
 sO P T G n e c a b (done|||2^i) (yg p o.dst x) m ((i,YF T p o.op)::L) k
def dry(P:Program)(T:TT)(G:ad)(n:Nat)(e:ar)(c a:ad)(b done:Nat)(o:Oper)(i:Nat)(m:E)(L:LL)(k:Fr->E->Prop)(p:Fr):Prop:=
 rd T p m (dr1 P T G n e c a b done o i m L k p) o.op
def drn(P:Program)(T:TT)(G:ad)(n:Nat)(e:ar)(c a:ad)(b done:Nat)(o:Oper)(i:Nat)(m:E)(L:LL)(k:Fr->E->Prop)(p:Fr):Prop:=
 sO P T G n e c a b (done|||2^i) (yg p o.dst .un) m L k
def dr2(P:Program)(T:TT)(G:ad)(n:Nat)(e:ar)(c a:ad)(b done:Nat)(o:Oper)(i:Nat)(m:E)(L:LL)(k:Fr->E->Prop)(p:Fr)(x:SV)(q:E):Prop:=
 HU (yp a i) m q L (sO P T G n e c a b (done|||2^i) (yg p o.dst x) q L k)
def dwy(P:Program)(T:TT)(G:ad)(n:Nat)(e:ar)(c a:ad)(b done:Nat)(o:Oper)(i:Nat)(m:E)(L:LL)(k:Fr->E->Prop)(p:Fr):Prop:=
 wr P T G n p m o.dst o.type (dr2 P T G n e c a b done o i m L k) o.op
def dra(P:Program)(T:TT)(G:ad)(n:Nat)(e:ar)(c a:ad)(b done:Nat)(m:E)(L:LL)(k:Fr->E->Prop)(p:Fr)(i:Nat):Prop:=match LA e i with
 |some o=>bif wh n o.dst then gd e p o.guard (dwy P T G n e c a b done o i m L k) (drn P T G n e c a b done o i m L k)else False
 |none=>False
def Zc{a b:ad}{c done:Nat}{L:LL}{k:Fr->E->Prop}:sO P T G n e a b (c+1) done p m L k=match A3 done 0 e a with
 |some i=>match LA e i with
  |some o=>bif wh n o.dst then gd e p o.guard (dry P T G n e a b c done o i m L k) (drn P T G n e a b c done o i m L k)else False
  |none=>False
 |none=>match tU done 0 e a with
  |[]=>k p m
  |d=>R9 d (dra P T G n e a b c done m L k p):=rfl
def Y8{f:Nat->Prop}:R9 [i] f=f i:=rfl
def Y9{r:ad}{f:Nat->Prop}:R9 (i::j::r) f=(f i/\R9 (j::r) f):=rfl
def kq(Q:Exit->Fr->E->Prop)(p:Fr)(m:E):Prop:=Q .normal p m
def abo{e:Array Oper}{a:Bool}:vc P T G n A (.region i e a) p m Q=
 bif a then sO P T G n e.toList (pmG e.toList) (YZ [] e.toList) e.toList.length 0 p m [] (kq Q)
 else wz P T G n e.toList e.toList p m (kq Q):=rfl
def kal(t:Nat)(s:Sh)(r:aw)(I:s.ty->Lb r)(p:Fr)(k:Fr->(E->Prop)->Prop)(x:s.ty):Prop:=TG r (I x) ((t,.c (s.mk x))::p) k
def abc{r:aw}{I:s.ty->Lb r}{k:Fr->(E->Prop)->Prop}:TG ((t,s)::r) I p k=alS s (kal t s r I p k):=rfl
def kam(t:Nat)(s:Sh)(r:aw)(I:s.ty->Lb r)(μ:s.ty->RZ r)(p:Fr)(k:Fr->(E->Prop)->(E->Nat)->Prop)(x:s.ty):Prop:=TH r (I x) (μ x) ((t,.c (s.mk x))::p) k
def abd{r:aw}{I:s.ty->Lb r}{μ:s.ty->RZ r}{k:Fr->(E->Prop)->(E->Nat)->Prop}:TH ((t,s)::r) I μ p k=alS s (kam t s r I μ p k):=rfl
def ks(P:Program)(T:TT)(G:ad)(n:Nat)(A:Tu)(b:Code)(Q:Exit->Fr->E->Prop):Exit->Fr->E->Prop
 | .normal,u,q=>vc P T G n A b u q Q
 |e,u,q=>Q e u q
def kc(A:Tu)(b:Code)(p:Fr)(l:aw)(K:Lb l)(Q:Exit->Fr->E->Prop):Exit->Fr->E->Prop
 | .normal,u,q=>eqK p u (eG A b) (Lf l K u q)
 |e,u,q=>Q e u q
def ki(P:Program)(T:TT)(G:ad)(n:Nat)(A:Tu)(b:Code)(Q:Exit->Fr->E->Prop)(u:Fr)(a:E->Prop):Prop:=∀q,a q->vc P T G n A b u q Q
def abr{a b:Code}:vc P T G n A (.seq a b) p m Q=match lkH A.aax b with
 |none=>vc P T G n A a p m (ks P T G n A b Q)
 |some l=>bif tY (sI a) l then∃K:Lb l,vc P T G n A a p m (kc A b p l K Q)/\
  TG l K (rB (sI a) (yJ n (eG A b) p)) (ki P T G n A b Q)else False:=by
 unfold ks kc ki;rfl
def kb(i:Nat)(Q:Exit->Fr->E->Prop):Exit->Fr->E->Prop
 | .exit j,u,q=>bif Nat.beq j i then Q .normal u q else Q (.exit j) u q
 |e,u,q=>Q e u q
def WV:vc P T G n A (.block i c) p m Q=vc P T G n A c p m (kb i Q):=by
 unfold kb;rfl
def ke(A:Tu)(c:Code)(p:Fr)(l:aw)(I:Lb l)(μ:RZ l)(N:Nat)(Q:Exit->Fr->E->Prop):Exit->Fr->E->Prop
 | .normal,a,b=>eqK p a (eG A c) (Sb l I μ a b N)
 |e,a,b=>Q e a b
def kl(P:Program)(T:TT)(G:ad)(n:Nat)(A:Tu)(c:Code)(p:Fr)(l:aw)(I:Lb l)(μ:RZ l)(Q:Exit->Fr->E->Prop)(u:Fr)(a:E->Prop)(μ':E->Nat):Prop:=
 ∀q,a q->vc P T G n A c u q (ke A c p l I μ (μ' q) Q)
def Ze:vc P T G n A (.loop c) p m Q=match lkH A.Zz c with
 |none=>False
 |some l=>bif tY (sI c) l then∃(I:Lb l)(μ:RZ l),Lf l I p m/\
  TH l I μ (rB (sI c) (yJ n (eG A c) p)) (kl P T G n A c p l I μ Q)else False:=by
 unfold kl ke;rfl
def kR(m:E)(R:ai)(l:aC):Prop:=match l with
 |[x]=>R x.v m
 |l=>R (.tuple (l.map SV.v).toArray) m
def kx(x:SV)(k:aC->Prop)(l:aC):Prop:=k (x::l)
def kz(T:TT)(p:Fr)(m:E)(r:ay)(k:aC->Prop)(x:SV):Prop:=bif x.mJ then Ki T p m r (kx x k)else False
def WY{r:ay}{k:aC->Prop}:Ki T p m (.tmp t::r) k=bif (km p t).mJ then Ki T p m r (kx (km p t) k)else False:=rfl
def WZ{a:Nat}{r:ay}{k:aC->Prop}:Ki T p m (.cell a t::r) k=rd T p m (kz T p m r k) (.load t (.tmp a)):=rfl
def kf(T:TT)(a:ay)(R:ai):Exit->Fr->E->Prop
 | .normal,p,m=>Ki T p m a (kR m R)
 | .ret,p,m=>Ki T p m a (kR m R)
 |_,_,_=>False
def adx{b:ay}{a:aC}{R:ai}:Yx P T G A n b c a m R=vc P T G n A c (yI 0 a) m (kf T b R):=by
 unfold kf kR;rfl
end
def Tg(_:Prop):Type:=Prop
def Tg.p{q:Prop}(t:Tg q):Prop:=t
def Tg.lf(q:Prop):Tg q:=q
def Tg.pm{a b:Prop}{h:Tg a=Tg b}:Tg.p (Eq.mpr h (Tg.lf b))=b:=rfl
def rg1:List.range 1=[0]:=rfl
def rg2:List.range 2=[0,1]:=rfl
def rg3:List.range 3=[0,1,2]:=rfl
def rg4:List.range 4=[0,1,2,3]:=rfl
def rg5:List.range 5=[0,1,2,3,4]:=rfl
def rg6:List.range 6=[0,1,2,3,4,5]:=rfl
def rg7:List.range 7=[0,1,2,3,4,5,6]:=rfl
def Tg.pm2{a b c:Prop}{h:Tg a=Tg b}{d:Tg b=Tg c}:Tg.p (Eq.mpr h (Eq.mpr d (Tg.lf c)))=c:=rfl
def Wi(_ _:Prop):Type:=Unit
def mkT{a X:Prop}(_:Wi a X)(t:Tg a)(_:t.p=X):True:=trivial
end Go.Vc
end
namespace Go.Proofs.YtbbbdejieenniaaGreat
open Go.Vc
section
noncomputable abbrev dN:=Tryz.prog
def TBL:TT:=[(0,⟨.tuple [],[],0⟩),
 (3,⟨.cell,[.I],8⟩),
 (4,⟨.cell,[.T],1⟩),
 (5,⟨.cell,[(.U .u8)],1⟩),
 (22,⟨.slice 5,[.S],24⟩),
 (23,⟨.slice 100,[.S],24⟩),
 (24,⟨.slice 71,[.S],24⟩),
 (26,⟨.struct [(0,23),(1,24)],[.S,.S],48⟩),
 (27,⟨.tuple [26,3],[],0⟩),
 (29,⟨.slice 3,[.S],24⟩),
 (31,⟨.struct [(0,3),(1,3),(2,3),(3,29)],[.I,.I,.I,.S],48⟩),
 (32,⟨.tuple [31,4],[],0⟩),
 (36,⟨.tuple [26,4],[],0⟩),
 (40,⟨.struct [(0,3),(1,3),(2,3),(3,3),(4,3),(5,3),(6,3),(7,3)],[.I,.I,.I,.I,.I,.I,.I,.I],64⟩),
 (41,⟨.tuple [40,4],[],0⟩),
 (44,⟨.slice 57,[.S],24⟩),
 (45,⟨.slice 52,[.S],24⟩),
 (47,⟨.struct [(0,3),(1,3),(2,3),(3,3),(4,29),(5,44),(6,45)],[.I,.I,.I,.I,.S,.S,.S],104⟩),
 (48,⟨.tuple [47,4],[],0⟩),
 (52,⟨.struct [(0,3),(1,3),(2,3),(3,29),(4,29),(5,29)],[.I,.I,.I,.S,.S,.S],96⟩),
 (57,⟨.struct [(0,3),(1,3),(2,29)],[.I,.I,.S],40⟩),
 (61,⟨.struct [(0,26),(2,3),(3,47)],[.S,.S,.I,.I,.I,.I,.I,.S,.S,.S],160⟩),
 (65,⟨.slice 80,[.S],24⟩),
 (66,⟨.tuple [65,4],[],0⟩),
 (69,⟨.slice 73,[.S],24⟩),
 (71,⟨.struct [(0,29),(1,29),(2,3),(3,3),(4,69)],[.S,.S,.I,.I,.S],88⟩),
 (73,⟨.struct [(0,3),(1,3),(2,3),(3,3),(4,29),(5,29)],[.I,.I,.I,.I,.S,.S],80⟩),
 (80,⟨.cell,[.Q],8⟩),
 (82,⟨.slice 86,[.S],24⟩),
 (84,⟨.struct [(0,82),(1,29)],[.S,.S],48⟩),
 (86,⟨.struct [(0,3),(1,3),(2,4),(3,3),(4,3),(5,3)],[.I,.I,.T,.I,.I,.I],48⟩),
 (88,⟨.cell,[.P],8⟩),
 (92,⟨.slice 144,[.S],24⟩),
 (94,⟨.struct [(0,23),(1,92)],[.S,.S],48⟩),
 (95,⟨.tuple [94,4],[],0⟩),
 (98,⟨.slice 136,[.S],24⟩),
 (100,⟨.struct [(0,3),(1,3),(2,98)],[.I,.I,.S],40⟩),
 (102,⟨.cell,[.P],8⟩),
 (103,⟨.cell,[.P],8⟩),
 (107,⟨.slice 164,[.S],24⟩),
 (109,⟨.struct [(0,23),(1,107)],[.S,.S],48⟩),
 (113,⟨.cell,[.P],8⟩),
 (115,⟨.struct [(0,26),(2,47)],[.S,.S,.I,.I,.I,.I,.S,.S,.S],152⟩),
 (118,⟨.struct [(0,94),(2,71),(7,65)],[.S,.S,.S,.S,.I,.I,.S,.S],160⟩),
 (121,⟨.cell,[.F],8⟩),
 (124,⟨.cell,[.P],8⟩),
 (126,⟨.cell,[.P],8⟩),
 (128,⟨.struct [(0,3),(1,3),(2,3),(3,3),(4,3),(5,3),(6,3),(7,3)],[.I,.I,.I,.I,.I,.I,.I,.I],64⟩),
 (129,⟨.tuple [3,3],[],0⟩),
 (136,⟨.struct [(0,29)],[.S],24⟩),
 (139,⟨.struct [(0,22),(1,3)],[.S,.I],32⟩),
 (144,⟨.struct [(0,29),(1,29),(2,3)],[.S,.S,.I],56⟩),
 (149,⟨.tuple [29,29],[],0⟩),
 (155,⟨.slice 57,[.S],24⟩),
 (160,⟨.slice 162,[.S],24⟩),
 (162,⟨.struct [(0,3),(1,3),(2,160)],[.I,.I,.S],40⟩),
 (164,⟨.struct [(0,29),(1,3),(2,162)],[.S,.I,.I,.I,.S],72⟩),
 (167,⟨.cell,[.P],8⟩),
 (178,⟨.tuple [29,4],[],0⟩),
 (183,⟨.slice 216,[.S],24⟩),
 (185,⟨.struct [(0,23),(1,183)],[.S,.S],48⟩),
 (191,⟨.tuple [3,4],[],0⟩),
 (193,⟨.cell,[.F],8⟩),
 (195,⟨.cell,[.P],8⟩),
 (212,⟨.slice 239,[.S],24⟩),
 (214,⟨.struct [(0,212),(1,3)],[.S,.I],32⟩),
 (216,⟨.struct [(0,29),(1,29),(2,3),(3,214)],[.S,.S,.I,.S,.I],88⟩),
 (217,⟨.cell,[.P],8⟩),
 (219,⟨.struct [(0,69)],[.S],24⟩),
 (228,⟨.tuple [3,136],[],0⟩),
 (230,⟨.map 3 3,[.M],8⟩),
 (237,⟨.slice 214,[.S],24⟩),
 (239,⟨.struct [(0,3),(1,3),(2,3),(3,29),(4,237)],[.I,.I,.I,.S,.S],72⟩),
 (242,⟨.cell,[.P],8⟩),
 (243,⟨.tuple [242,4],[],0⟩),
 (246,⟨.struct [(0,29),(1,29),(2,29),(3,29),(4,29),(5,29),(6,29)],[.S,.S,.S,.S,.S,.S,.S],168⟩),
 (254,⟨.tuple [100,4],[],0⟩),
 (258,⟨.cell,[.F],8⟩),
 (277,⟨.slice 29,[.S],24⟩),
 (293,⟨.cell,[.P],8⟩),
 (295,⟨.struct [(0,212),(1,3)],[.S,.I],32⟩)]
abbrev UY:Nat:=22
abbrev fm:Nat:=214
abbrev Cf:Nat:=57
abbrev mX:Nat:=136
abbrev kH:Nat:=100
abbrev dx:Nat:=162
abbrev iz:Nat:=52
abbrev iV:Nat:=164
abbrev lV:Nat:=26
abbrev dV:Nat:=73
abbrev qM:Nat:=185
abbrev kJ:Nat:=71
abbrev nE:Nat:=109
abbrev mE:Nat:=216
abbrev vd:Nat:=47
abbrev jD:Nat:=239
abbrev gU:Nat:=155
abbrev zK:Nat:=84
abbrev dv:Nat:=61
abbrev qY:Nat:=86
abbrev ue:Nat:=144
abbrev pe:Nat:=94
abbrev iX:Nat:=118
abbrev bE:Nat:=3
abbrev Ch:Nat:=29
abbrev nF:Nat:=80
abbrev sj:Nat:=219
abbrev FH:Nat:=246
abbrev oL:Nat:=295
abbrev dB:Nat:=115
abbrev uf:Nat:=139
abbrev ZY:Nat:=5
def QC:yE dN TBL:=by
 unfold yE;kernel_rfl
def GL:ad:=List.range' 3 344
def gok:GOK dN GL:=by
 unfold GOK;kernel_rfl
def mix:dN.follows .mixedOrders=true:=by kernel_rfl
def nbq(a b:Nat):Nat.beq a b=(a==b):=by rw[Nt];simp
def nbl(a b:Nat):Nat.ble a b=(a -b==0):=by rw[Nt];simp;omega
def nbt(a b:Nat):Nat.blt a b=(a+1 -b==0):=by rw[Nt];simp[Nat.blt];omega
def gel(g:Nat):List.elem g GL=(3 -g==0&&(g -346==0)):=by rw[Nt];simp[GL];omega
section
variable{α β:Type}{a:α}{b:β}
def atl(l:List α):(Array.mk l).toList=l:=rfl
end
section
variable(a b c d e f)
def o1:(Oper.mk a b c d e f).dst=a:=rfl
def o2:(Oper.mk a b c d e f).op=b:=rfl
def o3:(Oper.mk a b c d e f).type=c:=rfl
def o5:(Oper.mk a b c d e f).after=e:=rfl
def o6:(Oper.mk a b c d e f).guard=f:=rfl
end
section
variable(a b c)
def a2:(Tu.mk a b c).Zz=a:=rfl
def a3:(Tu.mk a b c).aax=b:=rfl
def a4:(Tu.mk a b c).fL=c:=rfl
def t1:(TI.mk a b c).Eh=a:=rfl
def t2:(TI.mk a b c).sh=b:=rfl
def t3:(TI.mk a b c).bytes=c:=rfl
def g1:(Edge.mk a b).on=a:=rfl
def g2:(Edge.mk a b).ground=b:=rfl
end
def A0:Tu:=⟨[],[],[]⟩
def cI(x:Int):SV:=.c (.i x)
def cS(x:N):SV:=.c (.s x)
def cP(x:aj):SV:=.c (.p x.1 x.2)
instance:Coe Int SV:=⟨cI⟩
instance:Coe N SV:=⟨cS⟩
instance:Coe (Nat×Nat) SV:=⟨cP⟩
instance:Coe Int Ce:=⟨.i⟩
instance:Coe N Ce:=⟨.s⟩
def oO(n:Nat){x:TI}(h:ji TBL n=some x:=by cbv):ji TBL n=some x:=h
def tg0:=oO 0
def tg3:=oO 3
def tg4:=oO 4
def tg5:=oO 5
def adZ:=oO 22
def ad0:=oO 23
def ad1:=oO 24
def ad2:=oO 26
def ad3:=oO 27
def ad4:=oO 29
def ad5:=oO 31
def ad6:=oO 32
def ad7:=oO 36
def ad8:=oO 40
def ad9:=oO 41
def aea:=oO 44
def aeb:=oO 45
def aec:=oO 47
def aed:=oO 48
def aee:=oO 52
def aef:=oO 57
def aeg:=oO 61
def aeh:=oO 65
def aei:=oO 66
def aej:=oO 69
def aek:=oO 71
def ael:=oO 73
def aem:=oO 80
def aen:=oO 82
def aeo:=oO 84
def aep:=oO 86
def aeq:=oO 88
def aer:=oO 92
def aes:=oO 94
def aet:=oO 95
def aeu:=oO 98
def abC:=oO 100
def abD:=oO 102
def abE:=oO 103
def abF:=oO 107
def abG:=oO 109
def abH:=oO 113
def abI:=oO 115
def abJ:=oO 118
def abK:=oO 121
def abL:=oO 124
def abM:=oO 126
def abN:=oO 128
def abO:=oO 129
def abP:=oO 136
def abQ:=oO 139
def abR:=oO 144
def abS:=oO 149
def abT:=oO 155
def abU:=oO 160
def abV:=oO 162
def abW:=oO 164
def abX:=oO 167
def abY:=oO 178
def abZ:=oO 183
def ab0:=oO 185
def ab1:=oO 191
def ab2:=oO 193
def ab3:=oO 195
def ab4:=oO 212
def ab5:=oO 214
def ab6:=oO 216
def ab7:=oO 217
def ab8:=oO 219
def ab9:=oO 228
def aca:=oO 230
def acb:=oO 237
def acd:=oO 239
def ace:=oO 242
def acf:=oO 243
def acg:=oO 246
def ach:=oO 254
def aci:=oO 258
def acj:=oO 277
def ack:=oO 293
def acm:=oO 295
def eO(m:E)(R:ai)(A:Tu)(a:aC){f:FuncId}{b:Go.Func}{X:Prop}{c:Code}{n:Nat}{e:ay}{g:ap}(k:dN.funcs[f]? =some b)
 (d:(b.body,b.ntmps,b.results)=(some c,n,Array.mk e):=by cbv)
 (i:a.all SV.mJ=true:=by kernel_rfl)(l:Nat.ble a.length n=true:=by kernel_rfl)(hd:uA c=true:=by kernel_rfl)
 (o:a.map SV.v=g:=by dsimp only[List.map,cI,cS,cP,SV.v,Ce.v])
 (w:Wi (Yx dN TBL GL A n e c a m R) X->True:=by intro w;obtain - :=mkT w (by sym -abstractProof=>simp[gel,A0.eq_1,cI.eq_1,cS.eq_1,cP.eq_1,tg0,tg3,tg4,tg5,adZ,ad0,ad1,ad2,ad3,ad4,ad5,ad6,ad7,ad8,ad9,aea,aeb,aec,aed,aee,aef,aeg,aeh,aei,aej,aek,ael,aem,aen,aeo,aep,aeq,aer,aes,aet,aeu,abC,abD,abE,abF,abG,abH,abI,abJ,abK,abL,abM,abN,abO,abP,abQ,abR,abS,abT,abU,abV,abW,abX,abY,abZ,ab0,ab1,ab2,ab3,ab4,ab5,ab6,ab7,ab8,ab9,aca,acb,acd,ace,acf,acg,ach,aci,acj,ack,acm,nbq,nbl,nbt,atl,o1,o2,o3,o5,o6,a2,a3,a4,t1,t2,t3,g1,g2,eI,iZ,eT,gY,RX,List.all_nil,dE,kD,List.elem_cons,Bool.true_and,Bool.false_and,aa4,aa2,Bool.true_or,aa3,Z8,Bool.and_true,rZ,Option.map_none,mW,vZ,Va,List.flatMap_nil,List.isEmpty_cons,List.isEmpty_nil,List.any_cons,U9,mq,Rm,yI.eq_1,yI.eq_2,vc.eq_1,vc.eq_4,vc.eq_6,vc.eq_7,vc.eq_8,yR.eq_def,orT.eq_def,orB.eq_def,uX.eq_1,uX.eq_2,PN.eq_def,eqK.eq_1,eqK.eq_2,yJ.eq_1,HB.eq_1,HB.eq_2,eG.eq_1,tY.eq_1,tY.eq_2,sI.eq_def,rB.eq_1,rB.eq_2,TH.eq_1,TG.eq_1,Sb.eq_1,Sb.eq_2,Lf.eq_1,Lf.eq_2,VL.eq_def,lkH.eq_1,HG.eq_def,lk.eq_1,lk.eq_2,sO.eq_1,HU.eq_1,HU.eq_2,P3.eq_1,P3.eq_2,tU.eq_def,A3.eq_def,nM.eq_1,sa.eq_1,sa.eq_2,oH.eq_1,yp.eq_1,yp.eq_2,yp.eq_3,wz.eq_1,DO.eq_1,DO.eq_2,gd.eq_1,gd.eq_2,Pj.eq_1,wh.eq_1,wh.eq_2,Pn.eq_def,wr.eq_1,wr.eq_2,wr.eq_4,wr.eq_6,wr.eq_8,wr.eq_9,wr.eq_10,wr.eq_11,Bp.eq_1,Bp.eq_2,Ya.eq_1,exC.eq_1,QN.eq_def,Ev.eq_def,rd.eq_1,rd.eq_2,rd.eq_3,rd.eq_4,rd.eq_5,rd.eq_6,rd.eq_7,rd.eq_8,rd.eq_9,rd.eq_10,rd.eq_11,rd.eq_12,rd.eq_13,rd.eq_15,YF.eq_def,abj,abk,abl,Rx.eq_1,KY.eq_1,KY.eq_2,Sr.eq_1,Q3.eq_1,Q3.eq_2,zy.eq_1,zy.eq_2,JM.eq_1,JM.eq_2,qE.eq_1,qE.eq_2,qE.eq_3,qE.eq_4,qE.eq_5,SV.cells.eq_def,unO.eq_def,aaE.eq_def,aap.eq_def,vJ.eq_1,vJ.eq_2,vJ.eq_3,vJ.eq_6,vJ.eq_7,vJ.eq_8,vJ.eq_9,vJ.eq_10,vJ.eq_11,vJ.eq_12,abn,abp,ldC.eq_1,LA.eq_1,LA.eq_2,LA.eq_3,oD.eq_def,SV.mJ.eq_def,TI.yO.eq_1,TI.agg.eq_1,Sh.zero.eq_1,Sh.zero.eq_2,Sh.zero.eq_3,Sh.zero.eq_4,Sh.zero.eq_5,Sh.zero.eq_6,Sh.zero.eq_7,ev.eq_1,ev.eq_2,ev.eq_3,ev.eq_4,JP.eq_def,tH.eq_1,tH.eq_2,nG.eq_1,nG.eq_3,nG.eq_4,nG.eq_5,nG.eq_6,nG.eq_7,yg.eq_1,yg.eq_2,SV.nb.eq_def,km.eq_1,km.eq_2,AV.sv.eq_1,AV.sv.eq_2,SV.v.eq_1,SV.v.eq_2,SV.v.eq_3,SV.v.eq_4,SV.v.eq_5,SV.v.eq_6,SV.v.eq_7,SV.v.eq_8,SV.v.eq_9,AV.v.eq_1,AV.v.eq_2,Ce.v.eq_1,Ce.v.eq_2,Ce.v.eq_3,Ce.v.eq_4,Ce.v.eq_5,Ce.v.eq_6,Ce.v.eq_7,Ce.v.eq_8,Ce.v.eq_9,Ce.v.eq_10,Ce.v.eq_11,Ce.v.eq_12,Ce.v.eq_13,Bl.eq_1,Bl.eq_2,Zi.eq_1,JQ.eq_def,jh.eq_1,jh.eq_2,Lb.eq_1,Lb.eq_2,RZ.eq_1,RZ.eq_2,Sh.ty.eq_1,Sh.ty.eq_2,Sh.ty.eq_3,Sh.ty.eq_4,Sh.ty.eq_5,Sh.ty.eq_6,Sh.ty.eq_7,Sh.mk.eq_1,Sh.mk.eq_2,Sh.mk.eq_3,Sh.mk.eq_4,Sh.mk.eq_5,Sh.mk.eq_6,Sh.mk.eq_7,OU.eq_1,SV.ces.eq_def,AV.ces.eq_1,AV.ces.eq_2,Ki.eq_1,pmG.eq_1,pmG.eq_2,YZ.eq_1,YZ.eq_2,kld.eq_1,klc.eq_1,kxc.eq_1,kxs.eq_1,krc.eq_1,kal.eq_1,kam.eq_1,pa.eq_1,p3.eq_1,p2.eq_1,Xb.eq_1,aaB.eq_1,khi.eq_1,klo.eq_1,kav.eq_1,kxt.eq_1,krt.eq_1,krs.eq_1,aaC.eq_1,kbs.eq_1,kcp.eq_1,kw.eq_1,kr.eq_1,ky.eq_1,kn.eq_1,dr1.eq_1,dry.eq_1,drn.eq_1,dr2.eq_1,dwy.eq_1,dra.eq_1,kq.eq_1,ks.eq_def,kc.eq_def,ki.eq_1,kb.eq_def,ke.eq_def,kl.eq_1,kR.eq_def,kx.eq_1,kz.eq_1,kf.eq_def,R9.eq_1,ady,Zd,W0,WW,abg,abh,abq,Za,adv,Zb,abm,Zc,Y8,Y9,abo,abr,WV,Ze,WY,WZ,adx,adw,abc,abd,exI,exU,exB,adD,exP,exF,exM,alI,alU,alB,adj,alP,alF,alM,cU8,z0,z1,tb,abe,b1,b2,b3,b4,b5,b6,Zf,Zg,adB,adA,adz,abf,abi,rg1,rg2,rg3,rg4,rg5,rg6,rg7,uq,aaF.eq_def,exQ,alQ,Sh.zero.eq_8,Sh.ty.eq_8,Sh.mk.eq_8];exact Tg.lf _) (by refine Tg.pm.trans ?_;dsimp -zeta+instances only[↓Xh,ile,↓adJ,nze,nce,Lb,RZ,Sh.ty,Int.cast_ofNat_Int]);trivial)
 (j:X=Yx dN TBL GL A n e c a m R:=by kernel_rfl)
 :X->bJ dN f g m R:=λh=>by
 subst o
 exact xW QC gok mix k (jO Prod.fst d) (jO (λx=>x.2.1) d) (jO (λx=>x.2.2) d) i (oN l) hd (j▸h)
def afe(m:E)(R:ai)(A:Tu)(a:aC){f:FuncId}{b:Go.Func}{X:Prop}{c:Code}{n:Nat}{e:ay}{g:ap}(k:dN.funcs[f]? =some b)
 (d:(b.body,b.ntmps,b.results)=(some c,n,Array.mk e):=by cbv)
 (i:a.all SV.mJ=true:=by kernel_rfl)(l:Nat.ble a.length n=true:=by kernel_rfl)(hd:uA c=true:=by kernel_rfl)
 (o:a.map SV.v=g:=by dsimp only[List.map,cI,cS,cP,SV.v,Ce.v])
 (w:Wi (Yx dN TBL GL A n e c a m R) X->True:=by intro w;obtain - :=mkT w (by sym -abstractProof=>simp[gel,A0.eq_1,cI.eq_1,cS.eq_1,cP.eq_1,tg0,tg3,tg4,tg5,adZ,ad0,ad1,ad2,ad3,ad4,ad5,ad6,ad7,ad8,ad9,aea,aeb,aec,aed,aee,aef,aeg,aeh,aei,aej,aek,ael,aem,aen,aeo,aep,aeq,aer,aes,aet,aeu,abC,abD,abE,abF,abG,abH,abI,abJ,abK,abL,abM,abN,abO,abP,abQ,abR,abS,abT,abU,abV,abW,abX,abY,abZ,ab0,ab1,ab2,ab3,ab4,ab5,ab6,ab7,ab8,ab9,aca,acb,acd,ace,acf,acg,ach,aci,acj,ack,acm,nbq,nbl,nbt,atl,o1,o2,o3,o5,o6,a2,a3,a4,t1,t2,t3,g1,g2,eI,iZ,eT,gY,RX,List.all_nil,dE,kD,List.elem_cons,Bool.true_and,Bool.false_and,aa4,aa2,Bool.true_or,aa3,Z8,Bool.and_true,rZ,Option.map_none,mW,vZ,Va,List.flatMap_nil,List.isEmpty_cons,List.isEmpty_nil,List.any_cons,U9,mq,Rm,yI.eq_1,yI.eq_2,vc.eq_1,vc.eq_4,vc.eq_6,vc.eq_7,vc.eq_8,yR.eq_def,orT.eq_def,orB.eq_def,uX.eq_1,uX.eq_2,PN.eq_def,eqK.eq_1,eqK.eq_2,yJ.eq_1,HB.eq_1,HB.eq_2,eG.eq_1,tY.eq_1,tY.eq_2,sI.eq_def,rB.eq_1,rB.eq_2,TH.eq_1,TG.eq_1,Sb.eq_1,Sb.eq_2,Lf.eq_1,Lf.eq_2,VL.eq_def,lkH.eq_1,HG.eq_def,lk.eq_1,lk.eq_2,sO.eq_1,HU.eq_1,HU.eq_2,tU.eq_def,A3.eq_def,nM.eq_1,sa.eq_1,sa.eq_2,oH.eq_1,yp.eq_1,yp.eq_2,yp.eq_3,wz.eq_1,DO.eq_1,DO.eq_2,gd.eq_1,gd.eq_2,Pj.eq_1,wh.eq_1,wh.eq_2,Pn.eq_def,wr.eq_1,wr.eq_2,wr.eq_4,wr.eq_6,wr.eq_8,wr.eq_9,wr.eq_10,wr.eq_11,Bp.eq_1,Bp.eq_2,Ya.eq_1,exC.eq_1,QN.eq_def,Ev.eq_def,rd.eq_1,rd.eq_2,rd.eq_3,rd.eq_4,rd.eq_5,rd.eq_6,rd.eq_7,rd.eq_8,rd.eq_9,rd.eq_10,rd.eq_11,rd.eq_12,rd.eq_13,rd.eq_15,YF.eq_def,abj,abk,abl,Rx.eq_1,KY.eq_1,KY.eq_2,Sr.eq_1,Q3.eq_1,Q3.eq_2,zy.eq_1,zy.eq_2,JM.eq_1,JM.eq_2,qE.eq_1,qE.eq_2,qE.eq_3,qE.eq_4,qE.eq_5,SV.cells.eq_def,unO.eq_def,aaE.eq_def,aap.eq_def,vJ.eq_1,vJ.eq_2,vJ.eq_3,vJ.eq_6,vJ.eq_7,vJ.eq_8,vJ.eq_9,vJ.eq_10,vJ.eq_11,vJ.eq_12,abn,abp,ldC.eq_1,LA.eq_1,LA.eq_2,LA.eq_3,oD.eq_def,SV.mJ.eq_def,TI.yO.eq_1,TI.agg.eq_1,Sh.zero.eq_1,Sh.zero.eq_2,Sh.zero.eq_3,Sh.zero.eq_4,Sh.zero.eq_5,Sh.zero.eq_6,Sh.zero.eq_7,ev.eq_1,ev.eq_2,ev.eq_3,ev.eq_4,JP.eq_def,tH.eq_1,tH.eq_2,nG.eq_1,nG.eq_3,nG.eq_4,nG.eq_5,nG.eq_6,nG.eq_7,yg.eq_1,yg.eq_2,SV.nb.eq_def,km.eq_1,km.eq_2,AV.sv.eq_1,AV.sv.eq_2,SV.v.eq_1,SV.v.eq_2,SV.v.eq_3,SV.v.eq_4,SV.v.eq_5,SV.v.eq_6,SV.v.eq_7,SV.v.eq_8,SV.v.eq_9,AV.v.eq_1,AV.v.eq_2,Ce.v.eq_1,Ce.v.eq_2,Ce.v.eq_3,Ce.v.eq_4,Ce.v.eq_5,Ce.v.eq_6,Ce.v.eq_7,Ce.v.eq_8,Ce.v.eq_9,Ce.v.eq_10,Ce.v.eq_11,Ce.v.eq_12,Ce.v.eq_13,Bl.eq_1,Bl.eq_2,Zi.eq_1,JQ.eq_def,jh.eq_1,jh.eq_2,Lb.eq_1,Lb.eq_2,RZ.eq_1,RZ.eq_2,Sh.ty.eq_1,Sh.ty.eq_2,Sh.ty.eq_3,Sh.ty.eq_4,Sh.ty.eq_5,Sh.ty.eq_6,Sh.ty.eq_7,Sh.mk.eq_1,Sh.mk.eq_2,Sh.mk.eq_3,Sh.mk.eq_4,Sh.mk.eq_5,Sh.mk.eq_6,Sh.mk.eq_7,OU.eq_1,SV.ces.eq_def,AV.ces.eq_1,AV.ces.eq_2,Ki.eq_1,pmG.eq_1,pmG.eq_2,YZ.eq_1,YZ.eq_2,kld.eq_1,klc.eq_1,kxc.eq_1,kxs.eq_1,krc.eq_1,kal.eq_1,kam.eq_1,pa.eq_1,p3.eq_1,p2.eq_1,Xb.eq_1,aaB.eq_1,khi.eq_1,klo.eq_1,kav.eq_1,kxt.eq_1,krt.eq_1,krs.eq_1,aaC.eq_1,kbs.eq_1,kcp.eq_1,kw.eq_1,kr.eq_1,ky.eq_1,kn.eq_1,dr1.eq_1,dry.eq_1,drn.eq_1,dr2.eq_1,dwy.eq_1,dra.eq_1,kq.eq_1,ks.eq_def,kc.eq_def,ki.eq_1,kb.eq_def,ke.eq_def,kl.eq_1,kR.eq_def,kx.eq_1,kz.eq_1,kf.eq_def,R9.eq_1,ady,Zd,W0,WW,abg,abh,abq,Za,adv,Zb,abm,Zc,Y8,Y9,abo,abr,WV,Ze,WY,WZ,adx,adw,abc,abd,exI,exU,exB,adD,exP,exF,exM,alI,alU,alB,adj,alP,alF,alM,cU8,z0,z1,tb,abe,b1,b2,b3,b4,b5,b6,Zf,Zg,adB,adA,adz,abf,abi,aaF.eq_def,exQ,alQ,Sh.zero.eq_8,Sh.ty.eq_8,Sh.mk.eq_8];simp[eI,iZ,uq,P3.eq_1,P3.eq_2,rg1,rg2,rg3,rg4,rg5,rg6,rg7];exact Tg.lf _) (by refine Tg.pm2.trans ?_;dsimp -zeta+instances only[↓Xh,ile,↓adJ,nze,nce,Lb,RZ,Sh.ty,Int.cast_ofNat_Int]);trivial)
 (j:X=Yx dN TBL GL A n e c a m R:=by kernel_rfl)
 :X->bJ dN f g m R:=λh=>by
 subst o
 exact xW QC gok mix k (jO Prod.fst d) (jO (λx=>x.2.1) d) (jO (λx=>x.2.2) d) i (oN l) hd (j▸h)
end
section
open Tryz
variable{m:E}{R:ai}
variable{a b c d e f g h p q r u v w x y:N}{i j k l n o s t z A B C D F G H:Int}
def Bz(a:N):=eO m R A0 [a] func7
def Ii(a:N):=eO m R ⟨[(4,[])],[],[(4,[49,47])]⟩ [.agg [a,b],i] func8
def IG(a:N):=eO m R A0 [.agg [a,b],i] func9
def Ak(i:Int):=eO m R A0 [.agg [i,j,k,a],.agg [l,n,o,b]] func10
def Gm(a:N):=eO m R ⟨[(4,[(12,.I)])],[],[(4,[25])]⟩ [.agg [a,b]] func11
def DY(a:N):=eO m R ⟨[(5,[(18,.I)]),(8,[(25,.I)])],[],[(5,[59,57,56]),(8,[61,59,57,56])]⟩ [.agg [a,b]] func12
end
section
open Tryz
variable{m:E}{R:ai}
variable{a b c d e f g h p q r u v w x y:N}{i j k l n o s t z A B C D F G H:Int}
def ys(a:N):=eO m R A0 [a] func23
def CM(a:N):=eO m R ⟨[(5,[(20,.I)]),(13,[(66,.I)])],[(12,[])],[(5,[82,80]),(12,[85,82,80]),(13,[85,82,80])]⟩ [.agg [a,b]] func24
def Gp(a:N):=eO m R ⟨[(3,[(3,.I),(8,.I)])],[],[]⟩ [a] func25
def CX(a:N):=eO m R A0 [.agg [a,b],i] func26
def Ac(p:aj):=eO m R ⟨[],[(5,[(4,.T)])],[(5,[91])]⟩ [p] func27
def Dn(a:N):=eO m R ⟨[(4,[(3,.I)])],[],[(4,[30])]⟩ [.agg [a,b]] func28
def I7(i:Int):=eO m R A0 [i,j,k] func29
def Fg(i:Int):=eO m R A0 [.agg [i,j,k,l,a,b,c]] func30
def IW(a:N):=eO m R A0 [.agg [a,b],i] func31
def Ei(a:N):=eO m R ⟨[(4,[(5,.I)])],[],[]⟩ [a,b] func32
def J9(a:N):=eO m R ⟨[(5,[(50,.I)]),(10,[(71,.I)]),(19,[(115,.I)])],[(3,[(8,.P)]),(4,[(9,.P)])],[(3,[138,134]),(4,[138,134]),(5,[138,134]),(10,[138,134]),(19,[138,134])]⟩ [.agg [a,b],i] func33
def Bd(a:N):=eO m R ⟨[(3,[(15,.I)]),(7,[(34,.I)])],[],[(3,[66,65]),(7,[69,66,65])]⟩ [.agg [a,b]] func34
def CP(a:N):=eO m R ⟨[(1,[(1,.I),(2,.I)])],[],[]⟩ [a,i,j] func35
end
section
open Tryz
variable{m:E}{R:ai}
variable{a b c d e f g h p q r u v w x y:N}{i j k l n o s t z A B C D F G H:Int}
def CO(a:N):=eO m R ⟨[(4,[(14,.I)]),(9,[(56,.I)]),(15,[(76,.I)])],[(8,[])],[(8,[110]),(9,[110]),(15,[110])]⟩ [a] func42
def J3(a:N):=eO m R ⟨[(6,[(6,.S),(28,.I)])],[],[]⟩ [a,i] func43
def Fa(a:N):=eO m R A0 [a] func44
def Gy(p:aj):=eO m R A0 [p] func45
def Ho(p:aj):=eO m R A0 [p] func46
def Eb(a:N):=eO m R ⟨[(5,[(18,.I)])],[],[(5,[43,42])]⟩ [.agg [a,b]] func47
def tL(a:N):=eO m R ⟨[(6,[(88,.I)])],[(5,[])],[(5,[147,146,145,144]),(6,[147,146,145,144])]⟩ [.agg [a,b],.agg [c,d,i,j,e],k,.agg [l,n,o,s,f,g]] func48
def Gs(a:N):=eO m R A0 [.agg [a,b],i,j] func49
def Bh(p q:aj):=eO m R ⟨[(4,[(28,.I)]),(14,[(65,.I)])],[(13,[])],[(4,[212,211]),(13,[212,211]),(14,[212,211])]⟩ [p,q,.agg [i,j,k,l,a,b]] func50
def CU(p q:aj):=eO m R ⟨[(3,[(24,.I)])],[],[(3,[353])]⟩ [p,q,.agg [i,j,k,l,a,b]] func51
def FA(a:N):=eO m R ⟨[(4,[(3,.I)])],[],[(4,[65])]⟩ [.agg [a,b]] func52
def BV(a:N):=eO m R ⟨[(3,[(4,.I)])],[],[(3,[37,36])]⟩ [.agg [a,b]] func53
def Fy(a:N):=eO m R ⟨[(5,[(6,.I)])],[],[(5,[62,61])]⟩ [.agg [a,b],.agg [c,d,i,j,e]] func54
def ru(a:N):=eO m R A0 [a] func55
def Dm(a:N):=eO m R A0 [.agg [a,b],i] func56
def BP(p:aj):=eO m R ⟨[(2,[(5,.I)])],[],[]⟩ [p,i] func57
end
section
open Tryz
variable{m:E}{R:ai}
variable{a b p d e f g h r u v w x y z B:N}{i j k l q o s t C D F G H I J K:Int}
def xw(m:E)(R:ai):Prop:=
 let a:E:=m.push (.cells (de [.i (0:Int),.i (0:Int),.t false,.i (0:Int),.i (0:Int),.i (0:Int)]) 86)
 Oq m.size m.size (
 let b:E:=aV a m.size 0 [.i (-1:Int),.i (0:Int),.t false,.i (-1:Int),.i (-1:Int),.i (-1:Int)]
 Oq m.size m.size (
 R (.agg #[vi (-1:Int),vi (0:Int),vb false,vi (-1:Int),vi (-1:Int),vi (-1:Int)]) b))
def CY(m:E)(R:ai)(a:xw m R):bJ dN 58 [] m R:=
 xW (o:=⟨[],[],[]⟩) (d:=2) (r:=[.cell 0 86]) (a:=[]) QC gok mix Tryz.func58 (m:=OU Tryz.f58) (by kernel_rfl) (by kernel_rfl) (by kernel_rfl) (by kernel_rfl) bO (by kernel_rfl) (Eq.mp (by kernel_rfl) a)
def vv(a:N):=eO m R A0 [a,i] func59
def uo(p:aj):=eO m R ⟨[(7,[(41,.I)])],[(2,[(5,.Q),(6,.P)])],[]⟩ [p,i] func60
def CQ(a:N):=eO m R ⟨[(3,[(12,.I)]),(7,[(27,.I)])],[],[(7,[51])]⟩ [a] func61
def xH(a:N):=eO m R A0 [a] func62
def pO(a:N):=eO m R A0 [a] func63
def AH(p:aj):=eO m R A0 [p] func66
def J6(a:N):=eO m R A0 [a,i] func71
def Gn(a:N):=eO m R ⟨[(2,[(9,.I)])],[],[]⟩ [a,b] func72
def EQ(p:aj):=eO m R A0 [p] func73
def BR(p:aj):=eO m R A0 [p,i] func74
def ED(p:aj):=eO m R ⟨[(3,[(6,.I)])],[],[(3,[57,56,55])]⟩ [p,.agg [a,b]] func75
end
section
open Tryz
variable{m:E}{R:ai}
variable{a b c d e f g h p q r u v w x y:N}{i j k l n o s t z A B C D F G H:Int}
def Dk(p:aj):=eO m R A0 [p,.agg [a,b],i] func76
def Di(p:aj):=eO m R A0 [p,a] func77
def Ed(a:N):=eO m R ⟨[(4,[(39,.I)]),(9,[(64,.I)])],[],[(9,[108])]⟩ [a,b] func78
def Ag(i:Int):=eO m R A0 [i] func79
def sF(p q:aj):=eO m R A0 [i,p,q] func80
def tq(s:N)(f:Fn×Array Value×Array Value):=eO m R A0 [s,.c (.fv f)] func81
def sG(p:aj):=eO m R A0 [i,p] func82
def uI(b c:N)(d e f g:Int)(h i:N)(a:Fn×Array Value×Array Value):=eO m R A0 [.agg [b,c],.agg [d,e,f,g,h,i],.c (.fv a)] func83
def vM(a:N):=eO m R A0 [.agg [a,b],.agg [i,j,k,l,c,d]] func84
def wG(p:aj):=eO m R ⟨[(15,[(4,.S),(5,.S),(31,.I)])],[],[(15,[62])]⟩ [p,.agg [i,j,k,l,a,b]] func85
def yh(p:aj):=eO m R A0 [p,i] func86
def zn(p:aj):=eO m R A0 [i,p] func87
def Il(a:N):=eO m R A0 [a] func88
def wI(p q:aj):=eO m R A0 [p,q,.agg [i,j,k,l,a,b]] func89
def vg(p q:aj):=eO m R ⟨[(14,[(10,.S),(74,.I)])],[],[(14,[125,121])]⟩ [p,q,.agg [i,j,k,l,a,b]] func90
def xr(p q:aj):=eO m R A0 [p,q,.agg [i,j,k,l,a,b]] func91
def DX(p:aj):=eO m R A0 [p,i,j,k] func92
def vL(p q:aj):=eO m R A0 [p,q,.agg [i,j,k,l,a,b]] func93
end
section
open Tryz
variable{m:E}{R:ai}
variable{a b c d e f g h p q r u v w x y:N}{i j k l n o s t z A B C D F G H:Int}
def zj(p:aj):=eO m R A0 [p,i,a] func94
def Bc(p:aj):=eO m R ⟨[(3,[(13,.I)])],[],[]⟩ [p,a] func95
def D0(p:aj):=eO m R ⟨[(1,[(4,.S)])],[],[]⟩ [p,i] func96
def Ab(p q:aj):=eO m R ⟨[(5,[(39,.I)])],[],[(5,[58])]⟩ [p,q,.agg [i,j,k,l,a,b]] func97
def Af(i:Int):=eO m R A0 [i] func98
def xJ(a:N):=eO m R ⟨[(2,[(8,.I)])],[],[]⟩ [a,i] func99
def Aa(p:aj):=eO m R ⟨[(9,[(63,.I)])],[(7,[(9,.I)])],[(7,[111]),(9,[114,111])]⟩ [p,i,a,.agg [j,k,l,n,b,c]] func100
def zk(a:aj)(w:Int)(fL:Bool):=eO m R ⟨[(13,[(69,.I)])],[(5,[])],[]⟩ [a,w,.c (.t fL)] func101
def wH(p:aj):=eO m R A0 [p,i] func102
def Dr(a:N):=eO m R ⟨[(4,[(3,.I)])],[],[]⟩ [a] func103
def Gw(a:N):=eO m R ⟨[(2,[(5,.I)])],[],[]⟩ [a,b] func104
def Fx(a:N):=eO m R ⟨[(2,[(5,.I)])],[],[]⟩ [a,b] func105
def Dp(a:N):=eO m R ⟨[(4,[(9,.I)])],[(10,[])],[(4,[241,238,237]),(10,[241,238,237])]⟩ [.agg [a,b],.agg [c,d,i,j,e],k] func106
def I5(a:N):=eO m R A0 [.agg [a,b],i,j,c,d] func107
def Bg(p:aj):=eO m R A0 [p] func108
def vj(p q:aj):=eO m R ⟨[(6,[(49,.I)])],[(10,[])],[(6,[80]),(10,[80])]⟩ [p,q,.agg [i,j,k,l,a,b]] func109
def yl(p q:aj):=eO m R A0 [p,q,.agg [i,j,k,l,a,b]] func110
def Be(i:Int):=eO m R A0 [.agg [i,j,k,l,a,b],n] func111
end
section
open Tryz
variable{m:E}{R:ai}
variable{a b c d e f g h p q r u v w x y:N}{i j k l n o s t z A B C D F G H:Int}
def yi(p q:aj):=eO m R A0 [p,q,i] func112
def qF(a:N):=eO m R A0 [a] func113
def rq(a:N):=eO m R A0 [a] func114
def KC(i:Int):=eO m R A0 [i] func115
def Hf(i:Int):=eO m R ⟨[(3,[(6,.I)])],[],[(3,[42])]⟩ [.agg [i,j,k,a,b,c],d] func116
def Jo(a:N):=eO m R ⟨[(4,[(5,.S),(6,.I)])],[(3,[(30,.T)])],[(3,[70,69]),(4,[70,69])]⟩ [.agg [a,b],.agg [i,j,k,l,c,d]] func117
def yy(p:aj):=eO m R ⟨[],[(3,[])],[(3,[226,225])]⟩ [p,.agg [i,j,k,a,b,c],.agg [l,n,o,s,d,e],f] func118
def xP(p:aj):=eO m R A0 [p,.agg [i,j,k,a,b,c],.agg [l,n,o,s,d,e]] func119
def IZ(a:N):=eO m R ⟨[(3,[(4,.I)])],[],[(3,[75,74])]⟩ [.agg [a,b]] func128
def Au(p:aj):=eO m R ⟨[],[(4,[]),(6,[]),(9,[]),(11,[])],[(4,[37]),(6,[37]),(9,[37]),(11,[37])]⟩ [p] func129
end
section
open Tryz
variable{m:E}{R:ai}
variable{a b p d e f g h r u v w x y z B:N}{i j k l q o s t C D F G H I J K:Int}
def Fs(a:N):=eO m R ⟨[(3,[(4,.I)])],[],[(3,[45,44])]⟩ [.agg [a,b]] func130
def EJ(a:N):=eO m R ⟨[(3,[(4,.I)]),(8,[(6,.S),(7,.I)])],[],[(3,[62,61]),(8,[65,62,61])]⟩ [.agg [a,b]] func131
def EC(p:aj):=eO m R A0 [p,.agg [i,j,k,l,a,b]] func132
def wR(p:aj):=eO m R A0 [p,a] func133
def Gx(p:aj):=eO m R A0 [p] func134
def Dl(p:aj):=eO m R A0 [p,.agg [i,j,k,l,a,b]] func135
def uK(s:N)(f:Fn×Array Value×Array Value):=eO m R ⟨[(2,[(8,.I)])],[],[]⟩ [s,.c (.fv f)] func136
def Gq(a:N):=eO m R A0 [a,i] func137
def J7(a:N):=eO m R A0 [a,i] func138
def DZ(i:Int):=eO m R A0 [i] func139
def rP(e:aj)(i:Int)(n:Int)(c:N)(m:E)(R:ai):Prop:=
 let k:E:=m.push (.cells (de [.i i,.i n,.s c]) 57)
 Oq m.size m.size (
 ((i==(1:Int))=true->
 R (vb true) k)/\
 ((i==(1:Int))=false->
 let v:E:=k.push (.map #[] 0)
 Oq m.size m.size (
 ∃(o:Int->E->Prop)(μ0:Int->E->Nat),
 o (0:Int) v/\
 (∀(b:Int)(f:E),o b f->
 ((decide (b<(c.len:Int)))=true->
 (0:Int)<=b/\b<(c.len:Int)/\
 ∃t:Int,aR f c.bq (c.off+Int.toNat b*1)=some (vi t)/\
 ∃u:N,aR f e.1 (e.2+3+5)=some (N.v u)/\
 bJ dN 138 [N.v u,vi t] f λw g=>
 gL [m.size] f g/\
 ∃d:Int,∃q:Bool,w=.tuple #[vi d,vb q]/\
 (q=true->
 ∃l,HL g k.size l/\
 ∃s,HL g k.size s/\
 ∀a:E,HL a k.size (ND s d (eR ((zt l d)+(1:Int))))->a.size=g.size->(∀j,j≠k.size->a[j]? =g[j]?)->
 gL [m.size] g a/\
 ∃h:N,aR a e.1 (e.2+3+5)=some (N.v h)/\
 (0:Int)<=d/\d<(h.len:Int)/\
 ∃r:Int,aR a h.bq (h.off+Int.toNat d*3)=some (vi r)/\
 ∃p,HL a k.size p/\
 aR a h.bq (h.off+Int.toNat d*3)=aR a h.bq (h.off+Int.toNat d*3)/\
 aR a e.1 (e.2+3+5)=aR a e.1 (e.2+3+5)/\
 ((decide ((eR (r+(zt p d)))>(999999:Int)))=true->
 R (vb false) a)/\
 ((decide ((eR (r+(zt p d)))>(999999:Int)))=false->
 eqS (SV.box m.size 57 [.i i,.i n,.s c]) (SV.box m.size 57 [.i i,.i n,.s c]) (
 o (eR (b+(1:Int))) a/\μ0 (eR (b+(1:Int))) a<μ0 b f)))/\
 (q=false->
 eqS (SV.box m.size 57 [.i i,.i n,.s c]) (SV.box m.size 57 [.i i,.i n,.s c]) (
 o (eR (b+(1:Int))) g/\μ0 (eR (b+(1:Int))) g<μ0 b f)))/\
 ((decide (b<(c.len:Int)))=false->
 R (vb true) f)))))
def wJ(a:aj)(b:Int)(d:Int)(e:N)(m:E)(R:ai)(f:rP a b d e m R):bJ dN 140 [vp a.1 a.2,.agg #[vi b,vi d,N.v e]] m R:=
 xW (o:=⟨[(5,[(17,.I)])],[],[(5,[54])]⟩) (d:=51) (r:=[.tmp 4]) (a:=[.c (.p a.1 a.2),.agg [.i b,.i d,.s e]]) QC gok mix Tryz.func140 (m:=OU Tryz.f140) (by kernel_rfl) (by kernel_rfl) (by kernel_rfl) (by kernel_rfl) bO (by kernel_rfl) (Eq.mp (by kernel_rfl) f)
def xI(a:N):=eO m R ⟨[(4,[(13,.I)])],[],[]⟩ [a,b] func141
def CW(a:N):=eO m R ⟨[(3,[(3,.S),(8,.I)])],[],[]⟩ [a] func142
def Nz(i:Int):=eO m R A0 [i,j,k] func143
def CR(p:aj):=eO m R A0 [p,i,a] func144
def Ea(p:aj):=eO m R ⟨[(1,[(2,.I)])],[],[]⟩ [p] func145
def Fu(a:N):=eO m R ⟨[(6,[(6,.I)]),(12,[(7,.I)])],[],[(6,[105]),(12,[105])]⟩ [a,i] func146
def Oi(i:Int):=eO m R A0 [i] func147
end
section
open Tryz
variable{m:E}{R:ai}
variable{a b c d e f g h p q r u v w x y:N}{i j k l n o s t z A B C D F G H:Int}
def IQ(a:N):=eO m R ⟨[(2,[(5,.I)])],[],[]⟩ [a,i] func148
def vw(a:N):=eO m R A0 [a,i] func149
def Hg(a:N):=eO m R A0 [.agg [a,b],i,j,k] func150
def yS(a:N):=eO m R ⟨[(5,[(5,.S),(6,.I)])],[],[]⟩ [a,i] func151
def Dq(a:N):=eO m R ⟨[(4,[(9,.I)])],[],[]⟩ [a,i,j,k] func152
def MA(i:Int):=eO m R A0 [i] func153
def nW(a:N):=eO m R A0 [a] func154
def Bf(p:aj):=eO m R ⟨[(1,[(1,.I)])],[],[]⟩ [p,i] func155
def CT(p:aj):=eO m R A0 [p,i] func156
def zp(p q:aj):=eO m R ⟨[(7,[(10,.S),(62,.I)]),(17,[(110,.I)])],[(5,[])],[(5,[156,153]),(7,[156,153]),(17,[156,153])]⟩ [p,q,.agg [i,j,k,l,a,b]] func157
def Ec(p:aj):=eO m R ⟨[(6,[(47,.I)])],[],[]⟩ [p,i,j,k] func158
def zo(p q:aj):=eO m R A0 [p,q,.agg [i,j,k,l,a,b]] func159
def Ai(p q:aj):=eO m R ⟨[(3,[(24,.I)]),(21,[(12,.S),(101,.I)]),(30,[(147,.I)])],[(17,[(10,.I),(11,.T)]),(29,[(12,.S)])],[(3,[166]),(17,[166]),(21,[166]),(29,[166]),(30,[166])]⟩ [p,q,.agg [i,j,k,l,a,b]] func160
def CS(p q:aj):=eO m R ⟨[(4,[(23,.I)])],[(11,[]),(13,[]),(15,[])],[(11,[121]),(13,[121]),(15,[121])]⟩ [p,q] func161
def EV(i:Int):=eO m R A0 [i] func162
def wo(i:Int):=eO m R A0 [i] func163
def Jc(a:N):=eO m R A0 [.agg [a,b],.agg [i,j,k,l,c,d],n] func164
def AJ(a:N):=eO m R ⟨[(2,[(3,.I)])],[],[]⟩ [a] func165
end
section
open Tryz
variable{m:E}{R:ai}
variable{a b c d e f g h p q r u v w x y:N}{i j k l n o s t z A B C D F G H:Int}
def C6(i:Int):=eO m R ⟨[(2,[(5,.I)])],[],[(2,[26,25])]⟩ [.agg [i,j,k,a,b,c],.agg [l,n,o,s,d,e]] func166
def wP(p:aj):=eO m R A0 [p,.agg [i,j,k,a,b,c],.agg [l,n,o,s,d,e]] func167
def wN(p:aj):=eO m R ⟨[(2,[(7,.I)])],[],[(2,[51,50])]⟩ [p,.agg [i,j,k,a,b,c],.agg [l,n,o,s,d,e]] func168
def IK(a:N):=eO m R ⟨[(2,[(3,.I)])],[],[]⟩ [a] func169
def wO(p:aj):=eO m R A0 [p,i] func170
def KD(a:N):=eO m R A0 [a,i] func171
def yx(p:aj):=eO m R A0 [p,i] func172
def xO(p:aj):=eO m R A0 [p,.agg [i,j,k,a,b,c],.agg [l,n,o,s,d,e]] func173
def NR(a:N):=eO m R ⟨[(2,[(5,.I)])],[],[]⟩ [a,i] func174
def yA(p:aj):=eO m R A0 [p,i,j] func175
def Of(i:Int):=eO m R A0 [i,j,k] func176
def vU(p:aj):=eO m R ⟨[],[(5,[(8,.I)])],[(5,[75,74])]⟩ [p,.agg [i,j,k,a,b,c],.agg [l,n,o,s,d,e],t] func177
def GK(a:N):=eO m R ⟨[(3,[(3,.I),(4,.I)])],[],[]⟩ [a] func178
def zG(p:aj):=eO m R ⟨[],[(10,[(6,.I),(7,.S)])],[(10,[128,127])]⟩ [p,.agg [i,j,k,a,b,c],.agg [l,n,o,s,d,e]] func179
def zH(p:aj):=eO m R A0 [p,.agg [i,j,k,a,b,c],l] func180
def zI(p:aj):=eO m R ⟨[(1,[(4,.I)])],[],[]⟩ [p,a] func181
def td(p:aj):=eO m R A0 [p,i] func182
def EN(a:N):=eO m R ⟨[(2,[(5,.S)])],[],[]⟩ [a,b] func183
end
section
open Tryz
variable{m:E}{R:ai}
variable{a b c d e f g h p q r u v w x y:N}{i j k l n o s t z A B C D F G H:Int}
def wQ(p:aj):=eO m R ⟨[(4,[(8,.I)])],[],[(4,[111,110])]⟩ [p,.agg [i,j,k,a,b,c],.agg [l,n,o,s,d,e]] func184
def yz(p:aj):=eO m R A0 [p,i,j] func185
def GW(a:N):=eO m R ⟨[(3,[(5,.I),(6,.I)])],[],[]⟩ [a,i] func186
def EI(a:N):=eO m R ⟨[(3,[(3,.S),(4,.I)]),(7,[(5,.S),(6,.I)])],[],[]⟩ [a] func188
def BQ(i:Int):=eO m R ⟨[(3,[(5,.S),(6,.I)])],[],[]⟩ [i,j] func189
def zC(p:aj):=eO m R ⟨[(2,[(3,.S),(4,.S),(10,.I)])],[(17,[])],[(2,[104,103]),(17,[108,104,103])]⟩ [p,.agg [a,b],.agg [c,i],d,e] func190
def BG(p:aj):=eO m R A0 [p,.agg [i,j,k,l,a,b]] func191
def KI(a:N):=eO m R ⟨[(3,[(5,.I),(6,.I)]),(7,[(5,.I),(7,.I)])],[],[]⟩ [a,i] func192
def BD(p:aj):=eO m R A0 [p] func193
def NP(p:aj):=eO m R ⟨[(9,[(10,.S),(11,.I)])],[],[(9,[108,106,105])]⟩ [p,.agg [a,b]] func194
def EF(a:N):=eO m R ⟨[(3,[(4,.I)])],[],[(3,[38,37])]⟩ [.agg [a,b]] func195
def BW(a:N):=eO m R ⟨[(3,[(4,.I)])],[],[(3,[40,39])]⟩ [.agg [a,b]] func196
def KK(a:N):=eO m R ⟨[(3,[(4,.I)])],[],[(3,[40,39])]⟩ [.agg [a,b]] func197
def Hr(a:N):=eO m R ⟨[(3,[(3,.S),(4,.I)])],[],[]⟩ [a] func198
def vy(i:Int):=eO m R A0 [.agg [i,j,k,l,a,b]] func199
def EP(p:aj):=eO m R A0 [p] func200
def Qb(a:N):=eO m R A0 [a] func201
end
section
open Tryz
variable{m:E}{R:ai}
variable{a b c d e f g h p q r u v w x y:N}{i j k l n o s t z A B C D F G H:Int}
def Lp(a:N):=eO m R ⟨[(2,[(1,.I),(10,.I)])],[],[(2,[43])]⟩ [a,i] func202
def oY(s:N)(f:Fn×Array Value×Array Value):=eO m R ⟨[(2,[(8,.I)])],[],[]⟩ [s,.c (.fv f)] func203
def zZ(i:Int):=eO m R A0 [.agg [i,j,a]] func204
def IV(i:Int):=eO m R A0 [i] func205
def tO(a:N):=eO m R A0 [.agg [a,b],i,j,c] func206
def xy(p q:aj):=eO m R ⟨[],[(2,[(16,.T)]),(7,[])],[(2,[72]),(7,[72])]⟩ [p,q,.agg [i,j,k,l,a,b],n] func207
def vV(p:aj):=eO m R ⟨[(2,[(5,.I)]),(6,[(6,.I),(7,.I)])],[],[]⟩ [p,a] func208
def Dh(a:N):=eO m R ⟨[(3,[(3,.S),(4,.I)])],[],[]⟩ [a] func209
def Hj(a:N):=eO m R ⟨[(4,[(5,.I)])],[],[]⟩ [a,b] func210
def Jw(i:Int):=eO m R ⟨[(3,[(5,.S),(6,.I)])],[],[(3,[28])]⟩ [.agg [i,j,k,a,b,c],d] func211
def LV(i:Int):=eO m R A0 [i] func212
def EO(a:N):=eO m R ⟨[(2,[(3,.I)])],[],[]⟩ [a] func213
def Mr(a:N):=eO m R A0 [a,i,j,b] func214
def yV(a:N):=eO m R A0 [a,b] func215
def yB(p:aj):=eO m R A0 [p,i] func216
def On(a:N):=eO m R ⟨[(2,[(3,.I)])],[],[]⟩ [a] func217
def vA(p:aj):=eO m R ⟨[(3,[(7,.S),(8,.I)])],[],[(3,[42])]⟩ [p,.agg [i,j,k,l,a,b],c] func218
end
section
open Tryz
variable{m:E}{R:ai}
variable{a b c d e f g h p q r u v w x y:N}{i j k l n o s t z A B C D F G H:Int}
def yv(p:aj):=eO m R ⟨[(17,[(16,.S),(17,.S),(18,.I)]),(22,[(20,.I)]),(33,[(23,.I)])],[],[(17,[215,214]),(22,[215,214]),(33,[215,214])]⟩ [p,.agg [a,b],.agg [i,j,k,c,d],e,f] func220
def GZ(a:N):=eO m R ⟨[(3,[(5,.S),(6,.I)])],[],[]⟩ [a,i] func221
def Fi(p:aj):=eO m R A0 [p] func222
def IU(a:N):=eO m R ⟨[(3,[(4,.I)])],[],[(3,[38,37])]⟩ [.agg [a,b]] func223
def NW(a:N):=eO m R ⟨[(3,[(4,.I)])],[],[(3,[41,40])]⟩ [.agg [a,b]] func224
def BJ(a:N):=eO m R ⟨[(5,[(9,.I)])],[],[(5,[67])]⟩ [.agg [a,b],i,j] func225
def AB(p:aj):=eO m R ⟨[(1,[(1,.I)])],[],[]⟩ [p,i] func226
def Ji(a:N):=eO m R A0 [.agg [a,i],j,.agg [k,l,n,b,c]] func227
def GQ(i:Int):=eO m R A0 [i,j] func228
def Cb(a:N):=eO m R A0 [.agg [a,b],i,.agg [c,j]] func229
def Ht(a:N):=eO m R A0 [.agg [a,b,i,c,j],.agg [d,k]] func230
def BC(a:N):=eO m R ⟨[(4,[(3,.S),(4,.S),(5,.I)]),(13,[(7,.S),(8,.I)])],[],[(4,[74,73]),(13,[78,74,73])]⟩ [.agg [a,i]] func231
def AL(a:N):=eO m R ⟨[(3,[(2,.I),(8,.I)]),(9,[(10,.S),(12,.I)])],[],[(3,[113,111,110]),(9,[116,113,111,110])]⟩ [.agg [a,b],.agg [c,i],j] func232
def Dj(a:N):=eO m R ⟨[(3,[(8,.I)]),(8,[(10,.S),(11,.I)])],[],[(3,[67,65,64]),(8,[70,67,65,64])]⟩ [.agg [a,b],.agg [c,i],d] func233
def Fk(a:N):=eO m R ⟨[(1,[(1,.I),(2,.I)])],[],[]⟩ [a,i,j] func234
def Im(a:N):=eO m R A0 [a,i] func235
def Io(a:N):=eO m R ⟨[(2,[(11,.I)])],[],[]⟩ [a,i,j] func236
def mK(s:N)(f:Fn×Array Value×Array Value):=eO m R A0 [s,.c (.fv f)] func237
end
end Go.Proofs.YtbbbdejieenniaaGreat
