/- Part of a proof. -/
import Derived.KernelRfl
import Derived.Laws.Append
import Derived.Laws.Cells
import Derived.Laws.Entries
import Derived.Laws.IdiomCopy
import Derived.Orders
import Derived.OrdersHeld
import Derived.Still
import Derived.Tactics
import Derived.Test.YtbbbdejieenniaaGreatProg
set_option linter.all false
set_option maxHeartbeats 8000000
set_option maxRecDepth 100000
namespace Go.Vc
abbrev agb:=List Field
abbrev aga:=List Edge
abbrev aI:=List MemPlace
abbrev aG:=List (Nat×Operand)
abbrev aE:=List Operand
abbrev aD:=List (Int×Int)
abbrev az:=List (List Int)
abbrev ay:=List ResultVar
abbrev ar:=List Oper
abbrev ap:=List Value
abbrev ao:=List (Nat×Nat)
abbrev ai:=Nat×Nat
abbrev ag:=Nat->Nat
abbrev ad:=List Nat
abbrev ab:=List Int
def aV:=@if_neg
def aX:=@List.mem_cons_of_mem
def aZ:=@List.mem_cons
def a8:=@if_pos
def bd:=@beq_eq_false_iff_ne
def bh:=@decide_eq_true_eq
def bz:=@Or.inl
def bH:=@Or.inr
def bQ:=@beq_iff_eq
def bT:=@List.mem_append
def cp:=@List.length_eq_zero_iff
def cr:=@Nat.lt_of_lt_of_le
def cQ:=@List.mem_cons_self
def cZ:=@Bool.or_eq_false_iff
def db:=@List.mem_iff_getElem?
def dy:=@Go.Result.andThen_ok
def dC:=@List.length_append
def dD:=@List.length_cons
def dK:=@decide_eq_false_iff_not
def dN:=@Int.le_refl
def dO:=@List.mem_append_left
def dQ:=@List.getElem?_append_right
def dZ:=@List.getElem?_append_left
def eA:=@List.ext_getElem?
def eB:=@List.getElem?_map
def eC:=@Go.Sem.run_bind
def eH:=@Nat.lt_or_ge
def eK:=@Bool.or_eq_true
def eN:=@List.cons_append
def eP:=@List.map_cons
def fe:=@Bool.and_eq_true
def fq:=@Nat.mul_le_mul_right
def fy:=@List.getElem?_set_self
def fA:=@List.mem_map
def fB:=@List.take_length
def fC:=@Nat.le_trans
def fD:=@Nat.zero_add
def fG:=@List.getD_eq_getElem?_getD
def fQ:=@Classical.byContradiction
def fS:=@Classical.em
def gA:=@List.append_nil
def gG:=@Nat.eq_of_beq_eq_true
def gW:=@Array.getElem?_eq_some_iff
def iy:=@List.nil_append
def iG:=@Go.Sem.run_pure
def iO:=@Int.toNat_natCast
def iS:=@Classical.choose_spec
def iX:=@List.mem_or_eq_of_mem_set
def jf:=@List.getElem?_set_ne
def jg:=@List.map_nil
def jh:=@Nat.zero_le
def jG:=@List.mem_of_mem_take
def jL:=@Option.map_eq_some_iff
def jQ:=@List.length_map
def jR:=@congrArg
def jW:=@List.take_append_drop
def kd:=@List.getElem?_cons_succ
def kE:=@List.mem_of_getElem?
def kH:=@List.length_nil
def kJ:=@List.map_append
def kK:=@Nat.add_assoc
def lp:=@List.getElem?_eq_none
def lQ:=@List.getElem?_take
def mB:=@Go.Code.wp_mono
def mC:=@List.findIdx_lt_length_of_exists
def mD:=@if_false
def mF:=@List.replicate_succ
def mK:=@Nat.min_eq_left
def na:=@List.mem_append_right
def nl:=@Array.toList_inj
def nm:=@List.not_mem_nil
def np:=@List.set_cons_zero
def nC:=@Nat.add_mul
def nF:=@List.append_assoc
def nX:=@bne_eq_false_iff_eq
def oV:=@Nat.le_of_ble_eq_true
def pF:=@List.getElem?_eq_some_iff
def pG:=@cond_true
def qe:=@List.getElem?_take_of_lt
def qD:=@List.length_reverse
def qY:=@List.getLast?_singleton
def qZ:=@List.length_take
def rc:=@List.map_toArray
def rf:=@List.mem_range
def rH:=@List.getLast?_eq_some_getLast
def rI:=@List.take_append_of_le_length
def rS:=@Bool.false_eq_true
def rT:=@List.getElem?_drop
def sE:=@List.dropLast_concat_getLast
def sF:=@Option.map_some
def th:=@List.getElem?_toArray
def tj:=@List.sizeOf_lt_of_mem
def tC:=@List.flatten_cons
def tD:=@Nat.le_succ_of_le
def uD:=@List.dropLast_concat
def uE:=@List.getLast?_append
def uF:=@List.mem_of_mem_drop
def uJ:=@Nat.add_zero
def uK:=@Ne.symm
def uL:=@Option.getD_some
def vm:=@Array.getElem?_push
def vn:=@List.flatten_append
def vW:=@if_true
def wG:=@List.set_cons_succ
def wH:=@Nat.lt_of_le_of_lt
def wS:=@List.getElem?_cons_zero
def yw:=@Bool.not_eq_true'
def yx:=@Int.le_trans
def yy:=@List.length_eq_one_iff
def yz:=@List.take_of_length_le
def Am:=@cond_false
def Br:=@Nat.le_refl
def CL:=@not_or
def DX:=@Array.getD_eq_getD_getElem?
def DY:=@Int.lt_or_le
def DZ:=@List.map_set
def D0:=@Nat.le_of_eq
def Ea:=@Nat.succ_mul
def Gy:=@Array.ext_getElem?
def Gz:=@List.mem_singleton
def GF:=@Nat.eq_zero_or_pos
def GG:=@Option.some_or
def GH:=@or_false
def Ii:=@List.mem_take_iff_getElem
def IM:=@List.getElem?_set
def IN:=@Nat.mul_one
def LY:=@List.all_eq_true
def Nz:=@Iff.rfl
def Ol:=@Bool.eq_iff_iff
def Om:=@Nat.not_lt_zero
def On:=@decide_eq_false
def Rt:=@Nat.mul_le_mul
def Sf:=@List.length_pos_iff
def Sg:=@List.length_take_le
def Si:=@List.replicate_zero
def Ta:=@List.all_cons
def Tb:=@Prod.mk.injEq
def Uu:=@bne_iff_ne
def Wg:=@List.any_nil
def Wh:=@List.flatMap_cons
def Wj:=@List.reverse_cons
def Wl:=@List.set_set
def Wm:=@Nat.le_of_lt
def Wn:=@Nat.sub_self
def Wo:=@Option.some.injEq
def Ws:=@Array.getElem?_setIfInBounds_ne
def XK:=@List.any_eq_true
def Zz:=@List.length_set
def aa1:=@Bool.not_false
def aa2:=@Int.tdiv_eq_ediv_of_nonneg
def aa3:=@List.take_take
def aa4:=@Array.mapM_eq_mapM_toList
def aa5:=@List.drop_eq_getElem_cons
def aa6:=@List.exists_mem_of_ne_nil
def abU:=@Array.getElem?_replicate
def abV:=@Bool.false_or
def abW:=@Bool.not_true
def abX:=@Bool.or_false
def abY:=@List.eq_of_mem_replicate
def abZ:=@List.getElem?_eq_getElem
def ab0:=@List.set_eq_of_length_le
def adi:=@Nat.add_sub_cancel_left
def adW:=@List.length_pos_of_mem
def adZ:=@List.eq_nil_or_concat
def afp:=@List.getElem?_mapIdx
def afq:=@List.getElem?_modify
def afr:=@List.set_append_left
def afu:=@List.getElem?_range
def af1:=@Bool.not_eq_false'
theorem O.{u}{α:Sort u}{a:α}:a=a:=rfl
theorem bY{n:Nat}:n<=n:=Br n
theorem sp{p q:Prop}(h:p)(t:p->q:=by intro h;simpa using h):q:=t h
theorem dit{p A B:Prop}{i:Decidable p}(f:p->A)(g:¬p->B):(decide p=true->A)/\(decide p=false->B):=⟨λh=>f (of_decide_eq_true h),λh=>g (of_decide_eq_false h)⟩
theorem cC{p:Prop}(h:p:=by grind):p:=h
theorem V{p:Prop}(h:p:=by omega):p:=h
theorem bO{p:Prop}(h:p:=by simp):p:=h
theorem cH{p:Prop}(h:p:=by decide):p:=h
theorem fu{p:Prop}(h:p:=by simp;omega):p:=h
end Go.Vc
namespace Go.Vc
section
variable{d:Value}{n:Nat}{a:Act}
abbrev D:=Array Obj
abbrev ak:=Value->D->Prop
def aS(m:D)(b o:Nat):Option Value:=
 match m[b]? with
 |some (.cells c _ _)=>c[o]?
 |_=>none
def Dc(m:D)(b o:Nat):Bool:=
 match m[b]? with
 |some (.cells _ _ (c,a))=>c<=o&&o<a
 |_=>false
def vJ(m:D)(b o:Nat)(d:Value):D:=
 m.modify b λ
  | .cells c e f=>.cells (c.setIfInBounds o d) e f
  |x=>x
theorem Eu(w:World)(b o:Nat):w.cell? ⟨b,o,none⟩=aS w.heap b o:=by
 grind [Go.World.cell?,aS]
def WZ(w:World)(b o:Nat):w.frozen? ⟨b,o,none⟩=Dc w.heap b o:=by
 grind [Go.World.frozen?,Dc]
def T5(w:World)(b o:Nat)(d:Value):(w.setCell ⟨b,o,none⟩ d).heap=vJ w.heap b o d:=by
 grind [Go.World.setCell,vJ]
@[grind cases] structure rY (w w':World):Prop where
 os:w'.os=w.os
 XG:w'.tape=w.tape
 Qt:w'.output=w.output
def rY.cX(w:World):rY w w:=⟨rfl,rfl,rfl⟩
def rY.N{a b c:World}(h:rY a b)(k:rY b c):rY a c:=by constructor<;>grind [rY.os,rY.XG,rY.Qt]
def bJ(P:Program)(f:FuncId)(b:ap)(m:D)(K:ak):Prop:=
 ∀w:World,w.heap=m->Calls P f b.toArray w λe a=>∃d,e=.returned d/\rY w a/\K d a.heap
theorem bJ.aP{P:Program}{f:FuncId}{b:ap}{m:D}{K a:ak}(h:bJ P f b m K)
 (g:∀d c,K d c->a d c):bJ P f b m a:=
 λw j=>(h w j).mono λ_ _⟨d,e,i,c⟩=>⟨d,e,i,g _ _ c⟩
inductive E where
 |nil
 |mk (b o len cap:Nat)
 |Ec (b o sp:Nat)
def E.v:E->Value
 | .nil=>.slice none 0 0
 | .mk b o l c=>.slice (some ⟨b,o,none⟩) l c
 | .Ec b o sp=>.slice (some ⟨b,o,some sp⟩) 0 0
def E.len:E->Nat
 | .nil=>0
 | .mk _ _ l _=>l
 | .Ec _ _ _=>0
def E.cap:E->Nat
 | .nil=>0
 | .mk _ _ _ c=>c
 | .Ec _ _ _=>0
def E.bt:E->Nat
 | .nil=>0
 | .mk b _ _ _=>b
 | .Ec b _ _=>b
def E.off:E->Nat
 | .nil=>0
 | .mk _ o _ _=>o
 | .Ec _ o _=>o
@[simp] theorem E.Yq (b o sp:Nat):(E.Ec b o sp).len=0:=rfl
@[simp] theorem E.abi (b o sp:Nat):(E.Ec b o sp).cap=0:=rfl
@[simp] theorem E.TJ:E.nil.len=0:=rfl
@[simp] theorem E.abj:E.nil.cap=0:=rfl
@[simp] theorem E.afs:E.nil.bt=0:=rfl
@[simp] theorem E.aft:E.nil.off=0:=rfl
@[simp] theorem E.lU (b o l c:Nat):(E.mk b o l c).len=l:=rfl
@[simp] theorem E.Tk (b o l c:Nat):(E.mk b o l c).cap=c:=rfl
@[simp] theorem E.nh (b o l c:Nat):(E.mk b o l c).bt=b:=rfl
@[simp] theorem E.BV (b o l c:Nat):(E.mk b o l c).off=o:=rfl
def E.NM:E->Bool
 | .nil=>true
 | .mk _ _ _ _=>false
 | .Ec _ _ _=>false
@[simp] theorem E.adY:E.nil.NM=true:=rfl
@[simp] theorem E.adX (b o sp:Nat):(E.Ec b o sp).NM=false:=rfl
@[simp] theorem E.aey (b o l c:Nat):(E.mk b o l c).NM=false:=rfl
def E.de:E->Option Addr
 | .nil=>none
 | .mk b o _ _=>some ⟨b,o,none⟩
 | .Ec b o sp=>some ⟨b,o,some sp⟩
def E.adV(s:E):s.v=.slice s.de s.len s.cap:=by cases s<;>rfl
inductive Ce where
 |i (n:Int)
 |u (k:IntKind) (n:Int)
 |t (x:Bool)
 |s (x:E)
 |p (b o:Nat)
 |pn
 |fn (f:Fn) (first captured:Array Value)
 |fv (q:Fn×Array Value×Array Value)
 |nf
 |str (x:ByteArray)
 |mp (b:Nat)
 |mn
 |bp (k b o:Nat)
 |pp (q:Option (Nat×Nat))
abbrev an:=List (List Ce)
abbrev ae:=List Ce
def Ce.v:Ce->Value
 | .i n=>.int .i64 n
 | .u k n=>.int k n
 | .t x=>.bool x
 | .s x=>x.v
 | .p b o=>.pointer (some ⟨b,o,none⟩)
 | .pn=>.pointer none
 | .fn f a c=>.func f a c
 | .fv q=>.func q.1 q.2.1 q.2.2
 | .nf=>.nilFunc
 | .str x=>.string x
 | .mp b=>.map (some b)
 | .mn=>.map none
 | .bp _ b o=>.pointer (some ⟨b,o,none⟩)
 | .pp q=>.pointer (q.map λq=>⟨q.1,q.2,none⟩)
inductive AV where
 |c (x:Ce)
 |agg (l:ae)
abbrev aH:=List AV
def AV.v:AV->Value
 | .c x=>x.v
 | .agg l=>.agg (l.map Ce.v).toArray
inductive SV where
 |c (x:Ce)
 |tt
 |ff
 |agg (l:ae)
 |tup (l:aH)
 |un
 |jA
 |box (b e:Nat) (l:ae)
 |Er (b e:Nat) (l:ae)
abbrev aC:=List SV
def SV.v:SV->Value
 | .c x=>x.v
 | .tt=>.bool true
 | .ff=>.bool false
 | .agg l=>.agg (l.map Ce.v).toArray
 | .tup l=>.tuple (l.map AV.v).toArray
 | .un=>undef
 | .jA=>undef
 | .box _ _ _=>undef
 | .Er _ _ _=>undef
def SV.Is:SV->Value->Prop
 | .jA,_=>True
 | .box _ _ _,_=>True
 | .Er _ _ _,_=>True
 |s,d=>d=s.v
def AV.sv:AV->SV
 | .c x=>.c x
 | .agg l=>.agg l
def AV.afZ(x:AV):x.sv.v=x.v:=by cases x<;>rfl
abbrev Fr:=List (Nat×SV)
def ku:Fr->Nat->SV
 |[],_=>.jA
 |(u,x)::r,t=>bif Nat.beq u t then x else ku r t
def SV.nb:SV->SV
 | .box _ _ _=>.jA
 | .Er _ _ _=>.jA
 |x=>x
def yF(a:Fr)(d:Option Nat)(x:SV):Fr:=
 match d with
 |some d=>(d,x.nb)::a
 |none=>a
def SV.aay{x:SV}(h:x.Is d):x.nb.Is d:=by
 cases x<;>first|exact h|trivial
def Ce.mE(x:Ce):x.v.cells=#[x.v]:=by
 cases x with
 |s y=>cases y<;>rfl
 |_=>rfl
def nN:Value->Option Ce
 | .int .i64 n=>some (.i n)
 | .int k n=>some (.u k n)
 | .bool x=>some (.t x)
 | .slice none 0 0=>some (.s .nil)
 | .pointer none=>some .pn
 | .nilFunc=>some .nf
 | .string x=>some (.str x)
 |_=>none
def Sz{x:Value}{c:Ce}(h:nN x=some c):c.v=x:=by
 unfold nN at h;split at h<;>simp at h<;>subst h<;>rfl
def tY:ap->Option ae
 |[]=>some []
 |d::b=>match nN d,tY b with
  |some c,some a=>some (c::a)
  |_,_=>none
def PH:∀{b:ap}{a:ae},tY b=some a->a.map Ce.v=b
 |[],_,h=>by simp[tY]at h;subst h;rfl
 |d::b,a,h=>by
  simp only[tY]at h;split at h
  .rename_i f g c e;simp at h;subst h;simp[Sz c,PH e]
  .simp at h
def Ky:Value->SV
 | .bool true=>.tt
 | .bool false=>.ff
 | .agg a=>match tY a.toList with
  |some l=>.agg l
  |none=>.jA
 | .tuple a=>bif a.toList.isEmpty then .un else .jA
 |d=>match nN d with
  |some c=>.c c
  |none=>.jA
def WI(x:Value):(Ky x).Is x:=by
 unfold Ky;split
 .rfl
 .rfl
 .rename_i a;split
  .rename_i l b;show Value.agg a=.agg (l.map Ce.v).toArray;rw[PH b]
  .trivial
 .rename_i a;cases h:a.toList.isEmpty
  .trivial
  .show Value.tuple a=undef;have:a=#[]:=sp h;rw[this];rfl
 .split
  .rename_i c a;exact(Sz a).symm
  .trivial
def ev(a:Fr):Operand->SV
 | .tmp t=>(ku a t).nb
 | .const d=>Ky d
 | .global g=>.c (.p g 0)
 | .func f=>.c (.fn (.func f) #[] #[])
@[grind cases] structure mG (n:Nat) (fr:Fr) (a:Act):Prop where
 aQ:a.tmps.size=n
 nP:a.defers=[]
 br:∀t,(ku fr t).Is (a.tmps.getD t undef)
def mG.ev{b:Fr}(h:mG n b a)(x:Operand):(ev b x).Is (a.eval x):=by
 cases x with
 |tmp t=>exact SV.aay (h.br t)
 |const d=>exact WI d
 |global g=>rfl
 |func f=>rfl
def mG.cE{c:Fr}(h:mG n c a){b:Option Nat}{x:SV}(g:x.Is d)(hd:∀t,b=some t->t<n):
 mG n (yF c b x) (a.put b d):=by
 cases b with
 |none=>exact h
 |some b=>
  refine⟨by simpa[Act.put]using h.aQ,h.nP,λt=>?_⟩
  have f:b<a.tmps.size:=by grind [mG.aQ]
  simp only[yF,ku,Act.put]
  by_cases e:b=t
  .subst e
   simp only[Nat.beq_refl,pG]
   simpa[f]using SV.aay g
  .have:Nat.beq b t=false:=by
    cases i:Nat.beq b t
    .rfl
    .grind [Nat.eq_of_beq_eq_true]
   simp only[this,Am]
   have:=h.br t
   simpa[Ws e]using this
def mG.dV{b:Fr}(h:mG n b a){t:Nat}{x:SV}(c:∀d,x.Is d):mG n ((t,x)::b) a:=by
 constructor<;>grind [mG.aQ,mG.nP,ku,Nat.beq,mG.br]
def mG.jA{b:Fr}(h:mG n b a)(t:Nat):mG n ((t,.jA)::b) a:=by
 refine⟨h.aQ,h.nP,λu=>?_⟩;simp only[ku];cases c:Nat.beq t u
 .exact h.br u
 .trivial
end
section
variable{P:Program}{t b e:Nat}
inductive Sh where
 |I
 |U (k:IntKind)
 |T
 |S
 |P
 |F
 |M
 |Q
 deriving DecidableEq
abbrev aB:=List Sh
abbrev aw:=List (Nat×Sh)
abbrev Sh.ty:Sh->Type
 | .I=>Int
 | .U _=>Int
 | .T=>Bool
 | .S=>E
 | .P=>Nat×Nat
 | .F=>Fn×Array Value×Array Value
 | .M=>Nat
 | .Q=>Option (Nat×Nat)
abbrev Sh.mk:(s:Sh)->s.ty->Ce
 | .I,n=>.i n
 | .U k,n=>.u k n
 | .T,x=>.t x
 | .S,x=>.s x
 | .P,q=>.p q.1 q.2
 | .F,v=>.fv v
 | .M,b=>.mp b
 | .Q,q=>.pp q
def Sh.zero:Sh->Ce
 | .I=>.i 0
 | .U k=>.u k 0
 | .T=>.t false
 | .S=>.s .nil
 | .P=>.pn
 | .F=>.nf
 | .M=>.mn
 | .Q=>.pp none
inductive TK where
 |cell
 |slice (elem:Nat)
 |struct (offs:ao)
 |tuple (ts:ad)
 |map (key elem:Nat)
structure TI where
 EQ:TK
 sh:aB
 bytes:Nat
abbrev TT:=List (Nat×TI)
def jo:TT->Nat->Option TI
 |[],_=>none
 |(u,x)::r,t=>bif Nat.beq u t then some x else jo r t
def T7:Sh->Value->Bool
 | .I,.int .i64 0=>true
 | .U k,.int a 0=>decide (k=a)
 | .T,.bool false=>true
 | .S,.slice none 0 0=>true
 | .P,.pointer none=>true
 | .F,.nilFunc=>true
 | .M,.map none=>true
 | .Q,.pointer none=>true
 |_,_=>false
def T8{s:Sh}{v:Value}(h:T7 s v=true):v=s.zero.v:=by
 unfold T7 at h;split at h<;>first|rfl|(simp at h;subst h;rfl)|simp at h
def Kg:ap->aB->Bool
 |[],[]=>true
 |v::b,s::a=>T7 s v&&Kg b a
 |_,_=>false
theorem Ok:∀{b:ap}{a:aB},Kg b a=true->b=a.map λs=>s.zero.v
 |[],[],_=>O
 |v::b,s::a,h=>by
  simp only[Kg,fe]at h;simp[T8 h.1,Ok h.2]
 |[],_::_,h=>by simp[Kg]at h
 |_::_,[],h=>by simp[Kg]at h
def SI:agb->ao->Bool
 |[],[]=>true
 |f::a,(o,t)::r=>Nat.beq f.offset o&&Nat.beq f.type t&&SI a r
 |_,_=>false
theorem Qr:∀{a:agb}{b:ao},SI a b=true->a.map (λf=>(f.offset,f.type))=b
 |[],[],_=>O
 |f::a,(o,t)::r,h=>by
  simp only[SI,fe]at h;simp[gG h.1.1,gG h.1.2,Qr h.2]
 |[],_::_,h=>by simp[SI]at h
 |_::_,[],h=>by simp[SI]at h
def BZ:TypeDesc->aB->Bool
 | .bool,[.T]=>true
 | .int .i64,[.I]=>true
 | .int k,[.U k']=>decide (k=k')
 | .pointer _,[.P]=>true
 | .pointer _,[.Q]=>true
 | .func ..,[.F]=>true
 |_,_=>false
def GO(i:TypeInfo)(a:TI)(b:Bool):Bool:=
 Nat.beq i.size a.sh.length&&Nat.beq i.bytes a.bytes&&
 (match i.zero with
  |some (.agg c)=>b&&Kg c.toList a.sh
  |some z=>!b&&Kg [z] a.sh
  |none=>false)
def tcm(t:Nat):Nat:=t+1000000
def abk(P:Program)(t:Nat):Bool:=
 match P.underlying t with
 |some (.struct a)=>a.toList.all (λf=>f.name != "_")&&!P.stoodInHeld t&&!P.eqGuardType P.depth t
 |_=>false
def CH(P:Program)(t:Nat)(a:TI):Bool:=
 match a.EQ with
 | .tuple _=>if t<1000000 then true else abk P (t -1000000)
 | .slice e=>match P.info? t,P.underlying t with
  |some i,some (.slice b)=>Nat.beq e b&&GO i a false
  |_,_=>false
 | .struct d=>match P.info? t,P.underlying t with
  |some i,some (.struct c)=>SI c.toList d&&GO i a true
  |_,_=>false
 | .map k e=>match P.info? t,P.underlying t with
  |some i,some (.map c b)=>Nat.beq k c&&Nat.beq e b&&GO i a false
  |_,_=>false
 | .cell=>match P.info? t,P.underlying t with
  |some i,some d=>BZ d a.sh&&GO i a false
  |_,_=>false
def yA(P:Program)(T:TT):Prop:=T.all (λx=>CH P x.1 x.2)=true
def VZ:∀{T:TT}{t:Nat}{a:TI},jo T t=some a->(t,a)∈T
 |[],_,_,h=>by simp[jo]at h
 |(u,x)::r,t,a,h=>by
  simp only[jo]at h;cases b:Nat.beq u t
  .rw[b]at h;exact aX _ (VZ h)
  .grind [Nat.eq_of_beq_eq_true,List.mem_cons_self]
theorem yA.CH{T:TT}(h:yA P T){a:TI}(b:jo T t=some a):CH P t a=true:=
 LY.1 h _ (VZ b)
def yA.cmp{T:TT}(h:yA P T){l:ad}{c:aB}(a:jo T (tcm t)=some ⟨.tuple l,c,b⟩):abk P t=true:=by
 have:=h.CH a;simp only[Go.Vc.CH]at this;rw[aV (by unfold tcm;omega),show tcm t -1000000=t by unfold tcm;omega]at this;exact this
@[grind cases] structure Pq (P:Program) (t:Nat) (ti:TI) (agg:Bool):Prop where
 af8:∃i,P.info? t=some i/\i.size=ti.sh.length/\i.bytes=ti.bytes/\
  ∃z,i.zero=some z/\z.cells.toList=(ti.sh.map λs=>s.zero.v)/\(agg=false->∀cs,z≠.agg cs)
theorem xg{b:TI}{i:TypeInfo}{a:Bool}(c:P.info? t=some i)(h:GO i b a=true):Pq P t b a:=by
 constructor<;>grind [GO,Nat.eq_of_beq_eq_true,Go.Value.cells,Ok]
def nu{a:aB}(h:CH P t ⟨.slice e,a,b⟩=true):P.underlying t=some (.slice e)/\Pq P t ⟨.slice e,a,b⟩ false:=by
 grind [CH,Nat.eq_of_beq_eq_true,xg]
def G8{k:Nat}{a:aB}(h:CH P t ⟨.map k e,a,b⟩=true):P.underlying t=some (.map k e)/\Pq P t ⟨.map k e,a,b⟩ false:=by
 grind [CH,Nat.eq_of_beq_eq_true,xg]
def qW{a:ao}{d:aB}(h:CH P t ⟨.struct a,d,b⟩=true):
 (∃c,P.underlying t=some (.struct c)/\c.toList.map (λf=>(f.offset,f.type))=a)/\Pq P t ⟨.struct a,d,b⟩ true:=by
 grind [CH,Qr,xg]
def qV{a:aB}(h:CH P t ⟨.cell,a,b⟩=true):
 (∃d,P.underlying t=some d/\BZ d a=true)/\Pq P t ⟨.cell,a,b⟩ false:=by
 grind [CH,xg]
def TI.agg(a:TI):Bool:=match a.EQ with| .struct _=>true|_=>false
def TI.zi(a:TI):Bool:=match a.EQ with| .tuple _=>true|_=>false
def nA{T:TT}(f:yA P T){d:TI}(g:jo T t=some d)(j:d.zi=false)(w:World):
 (sizeOf t).run P w=.ok d.sh.length w:=by
 have h:=f.CH g
 obtain⟨EQ,k,b⟩:=d
 have:∃i,P.info? t=some i/\i.size=k.length:=by
  cases EQ with
  |cell=>obtain⟨_,⟨i,a,c,_⟩⟩:=qV h;exact⟨i,a,c⟩
  |slice e=>obtain⟨_,⟨i,a,c,_⟩⟩:=nu h;exact⟨i,a,c⟩
  |map l e=>obtain⟨_,⟨i,a,c,_⟩⟩:=G8 h;exact⟨i,a,c⟩
  |struct o=>obtain⟨_,⟨i,a,c,_⟩⟩:=qW h;exact⟨i,a,c⟩
  |tuple l=>simp[TI.zi]at j
 obtain⟨i,a,c⟩:=this
 simp[sizeOf,typeInfo,a,c]
def K9{T:TT}(g:yA P T){f:TI}(j:jo T t=some f)(k:f.zi=false):
 ∃i,i.bytes=f.bytes/\i.size=f.sh.length/\(∀w,(typeInfo t).run P w=.ok i w)/\P.info? t=some i:=by
 have h:=g.CH j
 obtain⟨EQ,l,b⟩:=f
 have:∃i,P.info? t=some i/\i.size=l.length/\i.bytes=b:=by
  cases EQ with
  |cell=>obtain⟨_,⟨i,a,c,d,_⟩⟩:=qV h;exact⟨i,a,c,d⟩
  |slice e=>obtain⟨_,⟨i,a,c,d,_⟩⟩:=nu h;exact⟨i,a,c,d⟩
  |map m e=>obtain⟨_,⟨i,a,c,d,_⟩⟩:=G8 h;exact⟨i,a,c,d⟩
  |struct o=>obtain⟨_,⟨i,a,c,d,_⟩⟩:=qW h;exact⟨i,a,c,d⟩
  |tuple m=>simp[TI.zi]at k
 obtain⟨i,a,c,d⟩:=this
 exact⟨i,d,c,λw=>by simp[typeInfo,a],a⟩
def AO{T:TT}(m:yA P T){k:TI}(n:jo T t=some k)(o:k.zi=false):
 ∃z,z.cells.toList=k.sh.map (λs=>s.zero.v)/\(∀w,(zeroValue t).run P w=.ok z w)/\(k.agg=false->∀a,z≠.agg a):=by
 have h:=m.CH n
 obtain⟨EQ,l,b⟩:=k
 have:∃i,P.info? t=some i/\∃z,i.zero=some z/\z.cells.toList=(l.map λs=>s.zero.v)/\((TI.mk EQ l b).agg=false->∀a,z≠.agg a):=by
  cases EQ with
  |cell=>obtain⟨_,⟨i,a,g,j,z,c,d,f⟩⟩:=qV h;exact⟨i,a,z,c,d,λ_=>f O⟩
  |slice e=>obtain⟨_,⟨i,a,g,j,z,c,d,f⟩⟩:=nu h;exact⟨i,a,z,c,d,λ_=>f O⟩
  |map p e=>obtain⟨_,⟨i,a,g,j,z,c,d,f⟩⟩:=G8 h;exact⟨i,a,z,c,d,λ_=>f O⟩
  |struct p=>obtain⟨_,⟨i,a,g,j,z,c,d,f⟩⟩:=qW h;exact⟨i,a,z,c,d,λh=>by simp[TI.agg]at h⟩
  |tuple d=>simp[TI.zi]at o
 obtain⟨i,a,z,g,j,c⟩:=this
 exact⟨z,j,λw=>by simp[zeroValue,typeInfo,a,g],c⟩
def MF{T:TT}(d:yA P T){a:TI}(f:jo T t=some a)(g:a.zi=false)(w:World):
 (isAgg t).run P w=.ok a.agg w:=by
 have h:=d.CH f
 obtain⟨EQ,j,b⟩:=a
 cases EQ with
 |cell=>
  obtain⟨⟨i,hd,c⟩,_⟩:=qV h
  unfold BZ at c
  split at c<;>first|(simp at c;done)|simp[isAgg,run_underlying hd,TI.agg]
 |slice e=>obtain⟨hd,_⟩:=nu h;simp[isAgg,run_underlying hd,TI.agg]
 |map k e=>obtain⟨hd,_⟩:=G8 h;simp[isAgg,run_underlying hd,TI.agg]
 |struct o=>obtain⟨⟨c,hd,_⟩,_⟩:=qW h;simp[isAgg,run_underlying hd,TI.agg]
 |tuple c=>simp[TI.zi]at g
end
def oL:SV->Option Bool
 | .tt=>some true
 | .ff=>some false
 | .c (.t x)=>some x
 |_=>none
def SV.mW:SV->Bool
 | .jA=>false
 | .box _ _ _=>false
 | .Er _ _ _=>false
 |_=>true
def eV(n:Int):Int:=IntKind.i64.wrap n
def Mx{α:Type}:List α->Nat->Option α
 |[],_=>none
 |x::_,0=>some x
 |_::r,n+1=>Mx r n
theorem uh{α:Type}:∀(l:List α)(n:Nat),Mx l n=l[n]?
 |[],_=>by simp[Mx]
 |x::_,0=>by simp[Mx]
 |_::r,n+1=>by simp[Mx,uh r n]
def ldC(m:D)(b o:Nat):Nat->aB->(ae->Prop)->Prop
 |_,[],k=>k []
 |j,s::r,k=>∃x:s.ty,aS m b (o+j)=some (s.mk x).v/\ldC m b o (j+1) r λl=>k (s.mk x::l)
def abR(a b:Int):Int:=eV ((a%18446744073709551616).toNat^^^(b%18446744073709551616).toNat:Nat)
def wg(c:BinOp)(a b:Int)(k:SV->Prop):Prop:=
 match c with
 | .add=>k (.c (.i (eV (a+b))))
 | .sub=>k (.c (.i (eV (a -b))))
 | .mul=>k (.c (.i (eV (a*b))))
 | .quo=>b≠0/\k (.c (.i (eV (a.tdiv b))))
 | .rem=>b≠0/\k (.c (.i (a.tmod b)))
 | .xor=>k (.c (.i (abR a b)))
 | .eql=>k (.c (.t (a==b)))
 | .neq=>k (.c (.t (a !=b)))
 | .lss=>k (.c (.t (decide (a<b))))
 | .leq=>k (.c (.t (decide (a<=b))))
 | .gtr=>k (.c (.t (decide (a>b))))
 | .geq=>k (.c (.t (decide (a>=b))))
 |_=>False
def abg(c:BinOp)(a b:Bool)(k:SV->Prop):Prop:=
 match c with
 | .eql=>k (.c (.t (a==b)))
 | .neq=>k (.c (.t (!(a==b))))
 |_=>False
def aby(a:BinOp)(s:E)(k:SV->Prop):Prop:=
 match a with
 | .eql=>k (.c (.t s.NM))
 | .neq=>k (.c (.t (!s.NM)))
 |_=>False
def abz(a:BinOp)(q:Option (Nat×Nat))(k:SV->Prop):Prop:=
 match a with
 | .eql=>k (.c (.t q.isNone))
 | .neq=>k (.c (.t (!q.isNone)))
 |_=>False
def unO(a:UnOp)(x:SV)(k:SV->Prop):Prop:=
 match a,x with
 | .not,.tt=>k .ff
 | .not,.ff=>k .tt
 | .not,.c (.t b)=>k (.c (.t (!b)))
 | .neg,.c (.i n)=>k (.c (.i (eV (0 -n))))
 |_,_=>False
def E.cut(x:E)(a d e:Nat):E:=
 match x with
 | .nil=>.nil
 | .mk b o _ c=>.mk b (if c=a then o else o+a*e) (d -a) (c -a)
 | .Ec b o sp=>.Ec b o sp
def SV.cells:SV->Option ae
 | .c x=>some [x]
 | .tt=>some [.t true]
 | .ff=>some [.t false]
 | .agg l=>some l
 |_=>none
def qP(l:ae)(b:Nat)(a:ae):ae:=
 match b,l with
 |0,l=>match a,l with
  |[],l=>l
  |n::a,_::l=>n::qP l 0 a
  |_::_,[]=>[]
 |b+1,x::l=>x::qP l b a
 |_+1,[]=>[]
termination_by structural l
def Kv(T:TT)(c:Fr)(e:ao):ae->aG->(ae->Prop)->Prop
 |a,[],k=>k a
 |a,(i,x)::r,k=>
  match Mx e i,(ev c x).cells with
  |some (d,t),some b=>
   match jo T t with
   |some f=>bif !f.zi&&Nat.beq b.length f.sh.length&&Nat.ble (d+b.length) a.length then Kv T c e (qP a d b) r k else False
   |none=>False
  |_,_=>False
def zW(T:TT):ao->Bool
 |[]=>true
 |(_,t)::r=>(match jo T t with|some a=>!a.zi|none=>false)&&zW T r
def RP(a:Fr)(x:Option Operand)(d:Int)(k:Int->Prop):Prop:=
 match x with
 |none=>k d
 |some x=>match ev a x with
  | .c (.i n)=>k n
  |_=>False
def adK(T:TT)(t:Nat)(s:E)(n:Int)(k:SV->Prop):Prop:=
 match jo T t with
 |some ⟨.slice e,_,_⟩=>match jo T e with
  |some a=>bif a.zi then False else 0<=n/\n<(s.len:Int)/\k (.c (.p s.bt (s.off+n.toNat*a.sh.length)))
  |none=>False
 |_=>False
def Vm(T:TT)(m:D)(t b o:Nat)(k:SV->Prop):Prop:=
 match jo T t with
 |some ⟨.struct _,a,_⟩=>ldC m b o 0 a λl=>k (.agg l)
 |some ⟨.cell,[s],_⟩=>∃x:s.ty,aS m b o=some (s.mk x).v/\k (.c (s.mk x))
 |some ⟨.slice _,[_],_⟩=>∃x:E,aS m b o=some x.v/\k (.c (.s x))
 |_=>False
def Xv(T:TT)(a:Fr)(t:Nat)(s:E)(d c:Option Operand)(k:SV->Prop):Prop:=
 match jo T t with
 |some ⟨.slice e,_,_⟩=>match jo T e with
  |some b=>bif b.zi then False else
   RP a d 0 λl=>RP a c (s.len:Int) λh=>0<=l/\l<=h/\h<=(s.cap:Int)/\k (.c (.s (s.cut l.toNat h.toNat b.sh.length)))
  |none=>False
 |_=>False
def Tz(T:TT)(t f:Nat)(l:ae)(k:SV->Prop):Prop:=
 match jo T t with
 |some ⟨.struct c,_,_⟩=>match Mx c f with
  |some (b,u)=>match jo T u with
   |some a=>bif a.zi then False else bif a.agg then k (.agg ((l.drop b).take a.sh.length))else(match Mx l b with|some x=>k (.c x)|none=>False)
   |none=>False
  |none=>False
 |_=>False
def KC(T:TT)(t f o:Nat)(mk:Nat->SV)(k:SV->Prop):Prop:=
 match jo T t with
 |some ⟨.struct c,_,_⟩=>match Mx c f with
  |some (b,u)=>match jo T u with
   |some a=>bif a.zi||Nat.beq a.sh.length 0 then False else k (mk (o+b))
   |none=>False
  |none=>False
 |_=>False
def NE(a b:Nat)(k:Prop):Prop:=a=b/\k
theorem kU(b:Nat)(k:Prop):NE b b k=k:=by simp[NE]
def LR:ae->Nat->Nat->Option ae
 |_,_,0=>some []
 |l,o,n+1=>match Mx l o,LR l (o+1) n with
  |some c,some r=>some (c::r)
  |_,_=>none
def Sw(T:TT)(t:Nat)(a:ae)(o:Nat)(k:SV->Prop):Prop:=
 match jo T t with
 |some ⟨.struct _,b,_⟩=>match LR a o b.length with
  |some l=>k (.agg l)
  |none=>False
 |some ⟨.cell,[_],_⟩=>match Mx a o with
  |some c=>k (.c c)
  |none=>False
 |some ⟨.slice _,[_],_⟩=>match Mx a o with
  |some c=>k (.c c)
  |none=>False
 |some ⟨.map _ _,[_],_⟩=>match Mx a o with
  |some c=>k (.c c)
  |none=>False
 |_=>False
def ZY(T:TT)(c:Fr)(d:Builtin)(e:ad)(f:aE)(k:SV->Prop):Prop:=
 match d,e,f with
 | .len,[t],[x]=>match jo T t,ev c x with
  |some ⟨.slice _,_,_⟩,.c (.s s)=>k (.c (.i (s.len:Int)))
  |_,_=>False
 | .max,_,[x,y]=>match ev c x,ev c y with
  | .c (.i a),.c (.i b)=>k (.c (.i (if b>a then b else a)))
  |_,_=>False
 | .min,_,[x,y]=>match ev c x,ev c y with
  | .c (.i a),.c (.i b)=>k (.c (.i (if b<a then b else a)))
  |_,_=>False
 |_,_,_=>False
def eqC(T:TT):Nat->ao->ae->ae->Option Bool
 |_,[],[],[]=>some true
 |i,(o,u)::c,.i a::l,.i b::r=>bif Nat.beq o i then match jo T u,eqC T (i+1) c l r with
  |some ⟨.cell,[.I],_⟩,some z=>some (a==b&&z)
  |_,_=>none else none
 |_,_,_,_=>none
def eqA(T:TT)(t:Nat)(l r:ae)(k:SV->Prop):Prop:=
 match jo T (tcm t),jo T t with
 |some ⟨.tuple _,_,_⟩,some ⟨.struct a,_,_⟩=>match eqC T 0 a l r with
  |some z=>k (.c (.t z))
  |none=>False
 |_,_=>False
def rd(T:TT)(a:Fr)(m:D)(k:SV->Prop):Op->Prop
 | .move x| .assign x=>k (ev a x)
 | .pick d c b=>match ev a d with
  | .tt=>k (ev a c)
  | .ff=>k (ev a b)
  | .c (.t x)=>match oL (ev a c),oL (ev a b)with
   |some y,some z=>k (.c (.t (bif x then y else z)))
   |_,_=>False
  |_=>False
 | .nilCheck x=>match ev a x with
  | .c (.p b o)=>k (.c (.p b o))
  | .c (.bp q b o)=>k (.c (.bp q b o))
  | .c (.fn (.func f) c d)=>k (.c (.fn (.func f) c d))
  | .c (.fv q)=>∃g,q.1=.func g/\k (.c (.fv q))
  | .c (.pp q)=>∃r,q=some r/\k (.c (.p r.1 r.2))
  |_=>False
 | .binOp d t x y _=>match ev a x,ev a y with
  | .c (.i c),.c (.i b)=>wg d c b k
  | .c (.s s),.c (.s .nil)=>match jo T t with
   |some ⟨.slice _,_,_⟩=>aby d s k
   |_=>False
  | .c (.pp q),.c .pn=>match jo T t with
   |some ⟨.cell,[.Q],_⟩=>abz d q k
   |_=>False
  | .agg l,.agg r=>match d with
   | .eql=>eqA T t l r k
   |_=>False
  |sx,e=>match jo T t,oL sx,oL e with
   |some ⟨.cell,[.T],_⟩,some c,some b=>abg d c b k
   |_,_,_=>False
 | .unOp d _ x=>unO d (ev a x) k
 | .convert s t x=>match jo T s,jo T t,ev a x with
  |some ⟨.cell,[_],_⟩,some ⟨.cell,[.I],_⟩,.c (.u _ n)=>k (.c (.i (eV n)))
  |_,_,_=>False
 | .fieldAddr t x f=>match ev a x with
  | .c (.p b o)=>KC T t f o (λo=>.c (.p b o)) k
  | .c (.bp q b o)=>KC T t f o (λo=>.c (.bp q b o)) k
  |_=>False
 | .field t x f=>match ev a x with
  | .agg l=>Tz T t f l k
  |_=>False
 | .indexAddr t x i=>match ev a x,ev a i with
  | .c (.s s),.c (.i n)=>adK T t s n k
  |_,_=>False
 | .load t x=>match ev a x with
  | .c (.p b o)=>Vm T m t b o k
  | .c (.bp q b o)=>match ku a q with
   | .box c _ d=>NE c b (Sw T t d o k)
   | .Er c _ d=>NE c b (Sw T t d o k)
   |_=>Vm T m t b o k
  |_=>False
 | .extract x i=>match ev a x with
  | .tup l=>match Mx l i with
   |some y=>k y.sv
   |none=>False
  |_=>False
 | .slice t x c b none=>match ev a x with
  | .c (.s s)=>Xv T a t s c b k
  |_=>False
 | .build t c=>match jo T t with
  |some ⟨.struct b,d,_⟩=>bif zW T b then Kv T a b (d.map Sh.zero) c.toList λl=>k (.agg l)else False
  |_=>False
 | .call ⟨.builtin c,b,d⟩=>ZY T a c d.toList b.toList k
 |_=>False
def pb(a:Fr)(q b e:Nat)(l:ae):Prop:=ku a q=.box b e l\/ku a q=.Er b e l
@[grind cases] structure Bx (n:Nat) (fr:Fr) (m:D):Prop where
 bt:∀q b e l,pb fr q b e l->m[b]? =some (.cells (l.map Ce.v).toArray e)
 WJ:∀q q' b e l b' e' l',q≠q'->pb fr q b e l->pb fr q' b' e' l'->b≠b'
 NN:∀q b e l,pb fr q b e l->n<=q
def ZE(T:TT)(c:Fr):Op->ao
 | .load t x=>match ev c x,jo T t with
  | .c (.p b o),some a=>(List.range a.sh.length).map λj=>(b,o+j)
  | .c (.bp _ b o),some a=>(List.range a.sh.length).map λj=>(b,o+j)
  |_,_=>[]
 |_=>[]
section
variable{s:SV}{b:Bool}
theorem SV.Is.eq{v:Value}(h:s.Is v)(a:s.mW=true):v=s.v:=by
 cases s<;>first|exact h|simp[SV.mW]at a
def rp:s.Is s.v:=by cases s<;>first|rfl|trivial
theorem mG.eq{n:Nat}{b:Fr}{a:Act}(h:mG n b a){x:Operand}{s:SV}(c:Vc.ev b x=s)(d:s.mW=true):a.eval x=s.v:=by
 have:=h.ev x;grind [SV.Is.eq]
theorem Bw(h:oL s=some b):s.mW=true/\s.v=.bool b:=by
 unfold oL at h;grind [SV.mW,SV.v,Ce.v]
def mG.evB{n:Nat}{c:Fr}{a:Act}(h:mG n c a){x:Operand}(d:oL (Vc.ev c x)=some b):a.eval x=.bool b:=by
 rw[h.eq O (Bw d).1,(Bw d).2]
theorem Ap(b o n:Nat):(⟨b,o,none⟩:Addr).add n=⟨b,o+n,none⟩:=by
 grind [Go.Addr.add]
theorem GX:∀(l:ae)(a:Nat)(b:ae)(i:Nat),a+b.length<=l.length->
 (qP l a b)[i]? =if a<=i/\i<a+b.length then b[i -a]? else l[i]?
 |[],0,[],i,_=>by simp[qP]
 |[],0,_::_,_,h=>by simp at h
 |[],_+1,_,_,h=>by simp at h
 |x::l,0,[],i,_=>by simp[qP]
 |x::l,0,n::b,i,h=>by
  simp only[qP];cases i with
  |zero=>simp
  |succ i=>
   have:=GX l 0 b i cC;simp only[kd,this];simp
 |x::l,a+1,b,i,h=>by
  simp only[qP];cases i with
  |zero=>simp
  |succ i=>
   have:=GX l a b i cC;simp only[kd,this];have e:(i+1 -(a+1))=i -a:=V;simp only[e];congr 1;simp;omega
def SF(c:ap):∀(k a:Nat)(b:Array Value)(i:Nat),
 ((c.zipIdx k).foldl (λ(d:Array Value)(p:Value×Nat)=>d.setIfInBounds (a+p.2) p.1) b)[i]? =
  if a+k<=i/\i<a+k+c.length/\i<b.size then c[i -(a+k)]? else b[i]? :=by
 induction c with
 |nil=>intro k a b i;simp;intro h;omega
 |cons v c d=>
  intro k a b i
  simp only[List.zipIdx_cons,List.foldl_cons,d,Array.size_setIfInBounds,dD]
  by_cases e:i=a+k
  .grind [Array.size]
  .grind [Array.getElem?_setIfInBounds_ne,List.length,Array.size,List.getElem?_cons_succ]
def tW{l:ae}(h:s.cells=some l):s.mW=true/\s.v.cells=(l.map Ce.v).toArray:=by
 cases s with
 |c x=>simp[SV.cells]at h;subst h;exact⟨O,by simp[SV.v,Ce.mE]⟩
 |tt=>simp[SV.cells]at h;subst h;exact⟨O,O⟩
 |ff=>simp[SV.cells]at h;subst h;exact⟨O,O⟩
 |agg a=>simp[SV.cells]at h;subst h;exact⟨O,O⟩
 |tup _=>simp[SV.cells]at h
 |un=>simp[SV.cells]at h
 |jA=>simp[SV.cells]at h
 |box _ _ _=>simp[SV.cells]at h
 |Er _ _ _=>simp[SV.cells]at h
end
section
variable{x y:Operand}{c e:TypeId}{z b f o:Nat}{i:ae}
variable{g:Program}{T:TT}
def tp(g:Program)(T:TT)(h:Fr)(j:D)(a:Act)(o:Oper)(k:SV->Prop):Prop:=
 ∃x v,k x/\x.Is v/\∀w:World,(∀q∈ZE T h o.op,aS w.heap q.1 q.2=aS j q.1 q.2)->(execOp a.eval o).run g w=.ok (.value v) w
variable{n:Nat}{h:Fr}{a:Act}{j:D}{k:SV->Prop}{q:Option Tmp}{v:TypeId}{u:String}{p:Array Edge}{r:Option (Nat×Bool)}
def aai(c:mG n h a)(b:k (ev h x)):tp g T h j a ⟨q,.move x,v,u,p,r⟩ k:=
 ⟨_,_,b,c.ev x,λw _=>by simp[execOp]⟩
def Y9(c:mG n h a)(b:k (ev h x)):tp g T h j a ⟨q,.assign x,v,u,p,r⟩ k:=
 ⟨_,_,b,c.ev x,λw _=>by simp[execOp]⟩
def W8(d:mG n h a){f:Operand}(c:rd T h j k (.pick f x y)):tp g T h j a ⟨q,.pick f x y,v,u,p,r⟩ k:=by
 simp only[rd]at c;split at c
 .rename_i e;exact⟨_,_,c,d.ev x,λw _=>by simp[execOp,d.eq e O,SV.v,asBool]⟩
 .rename_i e;exact⟨_,_,c,d.ev y,λw _=>by simp[execOp,d.eq e O,SV.v,asBool]⟩
 .rename_i b e;split at c
  .rename_i m o i l;refine⟨_,_,c,rp,λw _=>?_⟩;simp[execOp,d.eq e O,SV.v,Ce.v,asBool,d.evB i,d.evB l];try (cases b<;>rfl)
  .exact c.elim
 .exact c.elim
def PY(e:mG n h a)(d:rd T h j k (.nilCheck x)):tp g T h j a ⟨q,.nilCheck x,v,u,p,r⟩ k:=by
 simp only[rd]at d;split at d
 .rename_i b o c;exact⟨_,_,d,rp,λw _=>by simp[execOp,e.eq c O,SV.v,Ce.v]⟩
 .rename_i l b o c;exact⟨_,_,d,rp,λw _=>by simp[execOp,e.eq c O,SV.v,Ce.v]⟩
 .rename_i f i m c;exact⟨_,_,d,rp,λw _=>by simp[execOp,e.eq c O,SV.v,Ce.v]⟩
 .rename_i l c;obtain⟨s,m,i⟩:=d;exact⟨_,_,i,rp,λw _=>by simp[execOp,e.eq c O,SV.v,Ce.v,m]⟩
 .rename_i l c;obtain⟨m,rfl,i⟩:=d;exact⟨_,_,i,rp,λw _=>by simp[execOp,e.eq c O,SV.v,Ce.v]⟩
 .exact d.elim
def abh{a:BinOp}{x y:Int}(h:wg a x y k):∃s v,k s/\s.Is v/\∀w:World,(binOp a c (.int .i64 x) (.int .i64 y)).run g w=.ok v w:=by
 cases a<;>simp only[wg]at h
 case quo=>exact⟨_,_,h.2,rp,λw=>by simp[binOp,Op.intDiv,h.1,SV.v,Ce.v,eV]⟩
 case rem=>exact⟨_,_,h.2,rp,λw=>by simp[binOp,Op.intDiv,h.1,SV.v,Ce.v]⟩
 case xor=>exact⟨_,_,h,rp,λw=>by simp[binOp,Op.intBits,SV.v,Ce.v,eV,abR,IntKind.bits];rfl⟩
 all_goals exact⟨_,_,h,rp,λw=>by simp[binOp,Op.intArith,Op.intCmp,SV.v,Ce.v,eV]⟩
def U0(a:BinOp)(c:TypeId)(d e:Operand)(b:IntKind)(x:Int)(y:Value)(w:World):(eqGuard a c d e (.int b x) y).run g w=.ok () w:=by
 cases a<;>simp[eqGuard]
def Tw(a:BinOp)(c:TypeId)(b d:Operand)(x:Bool)(y:Value)(w:World):(eqGuard a c b d (.bool x) y).run g w=.ok () w:=by
 cases a<;>simp[eqGuard]
def WU(hd:g.underlying c=some .bool)(x y:Bool)(w:World):(Op.equal c (.bool x) (.bool y)).run g w=.ok (x==y) w:=by
 have:Op.equal c (.bool x) (.bool y)=Op.equalIn (9999+1) c (.bool x) (.bool y):=rfl;rw[this];generalize 9999=z;simp[Op.equalIn,run_underlying hd]
def Oq(hd:g.underlying c=some (.slice e))(s:E)(w:World):(Op.equal c s.v (.slice none 0 0)).run g w=.ok s.NM w:=by
 have:Op.equal c s.v (.slice none 0 0)=Op.equalIn (9999+1) c s.v (.slice none 0 0):=rfl;rw[this];generalize 9999=z;cases s<;>simp[Op.equalIn,run_underlying hd,E.v]
def RE(hd:g.underlying c=some (.pointer e))(a:Option Addr)(w:World):(Op.equal c (.pointer a) (.pointer none)).run g w=.ok a.isNone w:=by
 have:Op.equal c (.pointer a) (.pointer none)=Op.equalIn (9999+1) c (.pointer a) (.pointer none):=rfl;rw[this];generalize 9999=z;cases a<;>simp[Op.equalIn,run_underlying hd]
def U1(b:BinOp)(c:TypeId)(d e:Operand)(a:Option Addr)(y:Value)(w:World):(eqGuard b c d e (.pointer a) y).run g w=.ok () w:=by
 cases b<;>simp[eqGuard]
def U6(hd:g.underlying c=some (.int .i64))(x y:Int)(w:World):(Op.equalIn (z+1) c (.int .i64 x) (.int .i64 y)).run g w=.ok (x==y) w:=by
 simp[Op.equalIn,run_underlying hd]
def Vs(d:yA g T){u:Nat}(e:jo T u=some ⟨.cell,[.I],b⟩){a:Array Value}{c:Nat}{v:Value}(h:a[c]? =some v)(w:World):(part u a c).run g w=.ok v w:=by
 simp[part,MF d e O,TI.agg,h]
def aae(n:yA g T){X Y:Array Value}(x:World):∀(h:agb)(e:Nat)(j:ao)(i r:ae)(l:Bool),h.map (λf=>(f.offset,f.type))=j->(∀f∈h,f.name≠ "_")->
 (∀k d,i[k]? =some d->X[e+k]? =some d.v)->(∀k d,r[k]? =some d->Y[e+k]? =some d.v)->eqC T e j i r=some l->
 (forIn (m:=Sem) h ((none,()):Option Bool×PUnit) λf _=>do
  if f.name≠ "_" then
   if !(<-Op.equalIn (z+1) f.type (<-part f.type X f.offset) (<-part f.type Y f.offset))then pure (.done (some false,()))else pure (.yield (none,()))
  else pure (.yield (none,()))).run g x=.ok (if l=true then(none,())else(some false,())) x:=by
 intro h
 induction h with
 |nil=>
  intro e j i r l s t p q c
  subst s
  cases i<;>cases r<;>simp[eqC]at c
  subst c
  simp
 |cons f h I=>
  intro e j i r l s t p q c
  subst s
  simp only[eP]at c
  unfold eqC at c
  split at c
  .simp at*
  .rename_i e _ _ _ _ o N j a i b r A
   obtain⟨⟨rfl,rfl⟩,rfl⟩:=sp A
   cases v:Nat.beq f.offset e
   .grind
   .rw[v]at c;simp only[pG]at c
    have w:=gG v
    split at c
    .rename_i K J u H
     simp only[Wo]at c
     obtain⟨⟨y,C,L⟩,_⟩:=qV (n.CH u)
     have E:y=.int .i64:=by grind [BZ]
     subst E
     have F:X[f.offset]? =some (.int .i64 a):=by have:=p 0 (.i a) O;rw[w];exact this
     have G:Y[f.offset]? =some (.int .i64 b):=by have:=q 0 (.i b) O;rw[w];exact this
     have M:=I (e+1) _ i r J O (λB D=>t B (aX _ D)) (λk d B=>by have:=p (k+1) d cC;rw[<-this];congr 1;omega) (λk d B=>by have:=q (k+1) d cC;rw[<-this];congr 1;omega) H
     rw[List.forIn_cons,eC,a8 (t f cQ)]
     simp only[eC,Vs n u F,Vs n u G,dy,U6 C]
     grind [Bool.not_true,Bool.false_eq_true,Go.Sem.run_pure,Go.Result.andThen_ok]
    .simp at c
  .simp at c
def Tx(j:yA g T){a:Array Field}(p:g.underlying c=some (.struct a))(o:g.stoodInHeld c=false)(n:∀f∈a.toList,f.name≠ "_"){r:ae}{b:Bool}
 (l:eqC T 0 (a.toList.map λf=>(f.offset,f.type)) i r=some b)(w:World):(Op.equal c (.agg (i.map Ce.v).toArray) (.agg (r.map Ce.v).toArray)).run g w=.ok b w:=by
 have:Op.equal c (.agg (i.map Ce.v).toArray) (.agg (r.map Ce.v).toArray)=Op.equalIn (9998+1+1) c (.agg (i.map Ce.v).toArray) (.agg (r.map Ce.v).toArray):=rfl
 rw[this]
 generalize 9998=z
 rw[Op.equalIn]
 simp only[eC,run_underlying p,dy]
 have m:=aae j (z:=z) (X:=(i.map Ce.v).toArray) (Y:=(r.map Ce.v).toArray) w a.toList 0 _ i r b O n (λk h e=>by simp[e]) (λk h e=>by simp[e]) l
 have e:(program:Sem Program).run g w=.ok g w:=rfl
 rw[e,dy,aV (by simp[o]),eC,<-Array.forIn_toList,m]
 cases b<;>rfl
def Y1(h:abk g c=true):∃a,g.underlying c=some (.struct a)/\(∀f∈a.toList,f.name≠ "_")/\g.stoodInHeld c=false/\g.eqGuardType g.depth c=false:=by
 grind [abk,List.all_eq_true,Bool.not_eq_true']
def UZ(h:g.eqGuardType g.depth c=false)(e f:Operand)(a b:Array Value)(w:World):(eqGuard .eql c e f (.agg a) (.agg b)).run g w=.ok () w:=by
 have d:(program:Sem Program).run g w=.ok g w:=rfl;simp only[eqGuard];simp[d,h]
def RD(a:BinOp)(c:TypeId)(b d:Operand)(s:E)(y:Value)(w:World):(eqGuard a c b d s.v y).run g w=.ok () w:=by
 cases s<;>cases a<;>simp[eqGuard,E.v]
def Vd(A:yA g T)(f:mG n h a){C:BinOp}{I:TypeId}(b:rd T h j k (.binOp C c x y I)):tp g T h j a ⟨q,.binOp C c x y I,v,u,p,r⟩ k:=by
 simp only[rd]at b;split at b
 .rename_i Q d l m;obtain⟨w,F,B,s,E⟩:=abh (g:=g) (c:=c) b;refine⟨w,F,B,s,λD _=>?_⟩;simp only[execOp,f.eq l O,f.eq m O,SV.v,Ce.v,eC];simp[U0,E]
 .rename_i w l m;split at b
  .rename_i e K J B;have s:=(nu (A.CH B)).1;have G:a.eval x=w.v:=f.eq l O;have H:a.eval y=.slice none 0 0:=f.eq m O;cases C<;>simp only[aby]at b
   all_goals
    first
    |exact b.elim
    |exact⟨_,_,b,rp,λD _=>by
     have E:∀o:BinOp,o=.eql\/o=.neq->binOp o c w.v (.slice none 0 0)=(if o=.eql then(do pure (.bool (<-Op.equal c w.v (.slice none 0 0))))else(do pure (.bool (!(<-Op.equal c w.v (.slice none 0 0)))))):=by
      intro o F;rcases F with rfl|rfl<;>cases w<;>rfl
     simp only[execOp,G,H,eC,RD,dy];rw[E _ bO];simp[Oq s,SV.v,Ce.v]⟩
  .exact b.elim
 .rename_i d l m;split at b
  .rename_i J B;obtain⟨⟨z,hd,M⟩,_⟩:=qV (A.CH B);have s:∃e,g.underlying c=some (.pointer e):=by cases z<;>simp_all [BZ]
   obtain⟨e,s⟩:=s;have G:a.eval x=.pointer (d.map λd=>⟨d.1,d.2,none⟩):=f.eq l O;have H:a.eval y=.pointer none:=f.eq m O;cases C<;>simp only[abz]at b
   all_goals
    first
    |exact b.elim
    |exact⟨_,_,b,rp,λD _=>by
     have E:∀o:BinOp,o=.eql\/o=.neq->binOp o c (.pointer (d.map λd=>(⟨d.1,d.2,none⟩:Addr))) (.pointer none)=(if o=.eql then(do pure (.bool (<-Op.equal c (.pointer (d.map λd=>(⟨d.1,d.2,none⟩:Addr))) (.pointer none))))else(do pure (.bool (!(<-Op.equal c (.pointer (d.map λd=>(⟨d.1,d.2,none⟩:Addr))) (.pointer none)))))):=by
      intro o F;rcases F with rfl|rfl<;>rfl
     simp only[execOp,G,H,eC,U1,dy];rw[E _ bO];simp[RE s,SV.v,Ce.v]⟩
  .exact b.elim
 .rename_i i R l m;split at b
  .unfold eqA at b;split at b
   .rename_i H B;split at b
    .rename_i V E;obtain⟨S,s,L,N,J⟩:=Y1 (A.cmp H);obtain⟨⟨U,w,K⟩,_⟩:=qW (A.CH B);rw[s]at w;obtain rfl:=(TypeDesc.struct.inj (Option.some.inj w));rw[<-K]at E;refine⟨_,_,b,rp,λD _=>?_⟩;have F:a.eval x=.agg (i.map Ce.v).toArray:=f.eq l O;have G:a.eval y=.agg (R.map Ce.v).toArray:=f.eq m O;simp only[execOp,F,G,eC,UZ J,dy,binOp,Tx A s N L E];rfl
    .exact b.elim
   .exact b.elim
  .exact b.elim
 .split at b
  .rename_i Q d w l m;obtain⟨⟨z,hd,M⟩,_⟩:=qV (A.CH w);have s:z=.bool:=by
    cases z<;>simp_all [BZ]
   subst s;cases C<;>simp only[abg]at b
   all_goals
    first
    |exact b.elim
    |exact⟨_,_,b,rp,λD _=>by
     simp only[execOp,f.evB l,f.evB m,eC,Tw,Result.andThen,binOp,WU hd];rfl⟩
  .exact b.elim
def RI(d:yA g T)(i:mG n h a){s:TypeId}(b:rd T h j k (.convert s c x)):tp g T h j a ⟨q,.convert s c x,v,u,p,r⟩ k:=by
 simp only[rd]at b;split at b
 .rename_i B b1 b2 y A o t w;obtain⟨⟨z,hd,_⟩,_⟩:=qV (d.CH o);obtain⟨⟨e,l,f⟩,_⟩:=qV (d.CH t);have m:e=.int .i64:=by unfold BZ at f;split at f<;>simp_all
  subst m;exact⟨_,_,b,rp,λC _=>by
   simp only[execOp,i.eq w O,SV.v,Ce.v,eC];simp[convert,run_underlying hd,run_underlying l,Conv.intToInt,eV]⟩
 .exact b.elim
def W9(d:mG n h a){f:UnOp}(b:rd T h j k (.unOp f c x)):tp g T h j a ⟨q,.unOp f c x,v,u,p,r⟩ k:=by
 simp only[rd]at b;generalize e:ev h x=sx at b;unfold unO at b;split at b
 .exact⟨_,_,b,rp,λw _=>by simp[execOp,d.eq e O,SV.v,Op.unary]⟩
 .exact⟨_,_,b,rp,λw _=>by simp[execOp,d.eq e O,SV.v,Op.unary]⟩
 .exact⟨_,_,b,rp,λw _=>by simp[execOp,d.eq e O,SV.v,Ce.v,Op.unary]⟩
 .exact⟨_,_,b,rp,λw _=>by simp[execOp,d.eq e O,SV.v,Ce.v,Op.unary,Op.intArith,eV]⟩
 .exact b.elim
def It(m:yA g T){mk:Nat->SV}(D:∀o,(mk o).v=.pointer (some ⟨b,o,none⟩))(I:a.eval x=.pointer (some ⟨b,o,none⟩))(d:KC T c f o mk k):
 tp g T h j a ⟨q,.fieldAddr c x f,v,u,p,r⟩ k:=by
 unfold KC at d
 split at d
 .rename_i L M J G
  split at d
  .rename_i K N s
   split at d
   .rename_i l H
    cases i:(l.zi||Nat.beq l.sh.length 0)
    .rw[i]at d
     simp only[cZ]at i
     obtain⟨⟨y,B,C⟩,_⟩:=qW (m.CH G)
     rw[uh,<-C,eB]at s
     obtain⟨t,z,n⟩:=jL.1 s
     simp only[Tb]at n
     obtain⟨rfl,rfl⟩:=n
     have F:=λw=>nA m H i.1 w
     have E:l.sh.length≠0:=λe=>by rw[e]at i;simp at i
     refine⟨_,_,d,rp,λw _=>?_⟩
     have A:y[f]? =some t:=sp z
     rw[D]
     simp[execOp,Instr.fieldAt,I,run_underlying B,A,Instr.sureAddr,fieldPlace,F,E,Ap]
    .rw[i]at d;exact d.elim
   .exact d.elim
  .exact d.elim
 .exact d.elim
def Ot(l:yA g T)(i:mG n h a)(d:rd T h j k (.fieldAddr c x f)):tp g T h j a ⟨q,.fieldAddr c x f,v,u,p,r⟩ k:=by
 simp only[rd]at d;split at d
 .rename_i b o e;exact It l (λo=>O) (i.eq e O) d
 .rename_i m b o e;exact It l (λo=>O) (i.eq e O) d
 .exact d.elim
def Vf(l:yA g T)(m:mG n h a)(b:rd T h j k (.field c x f)):tp g T h j a ⟨q,.field c x f,v,u,p,r⟩ k:=by
 simp only[rd]at b;split at b
 .rename_i i C;unfold Tz at b;split at b
  .rename_i N P L K;split at b
   .rename_i M Q A;split at b
    .rename_i E B;cases d:E.zi
     .rw[d]at b;obtain⟨⟨G,z,I⟩,_⟩:=qW (l.CH K);rw[uh,<-I,eB]at A;obtain⟨F,H,s⟩:=jL.1 A;simp only[Tb]at s;obtain⟨rfl,rfl⟩:=s;have J:=λw=>nA l B d w;have o:=λw=>MF l B d w;have t:G[f]? =some F:=sp H;cases e:E.agg
      .simp only[e,Am]at b;split at b
       .rename_i y D;refine⟨_,_,b,rp,λw _=>?_⟩;rw[uh]at D;simp[execOp,Instr.field,m.eq C O,SV.v,run_underlying z,t,asAgg,part,o,e,D]
       .exact b.elim
      .simp only[e,Am,pG]at b;refine⟨_,_,b,rp,λw _=>?_⟩;simp[execOp,Instr.field,m.eq C O,SV.v,run_underlying z,t,asAgg,part,o,e,J,List.map_drop,List.map_take]
     .rw[d]at b;exact b.elim
    .exact b.elim
   .exact b.elim
  .exact b.elim
 .exact b.elim
def Ou(m:yA g T)(l:mG n h a)(d:rd T h j k (.indexAddr c x y)):tp g T h j a ⟨q,.indexAddr c x y,v,u,p,r⟩ k:=by
 simp only[rd]at d;split at d
 .rename_i G K D F;unfold adK at d;split at d
  .rename_i e M I B;split at d
   .rename_i H z;cases i:H.zi
    .rw[i]at d;obtain⟨s,f,t⟩:=d;have C:=(nu (m.CH B)).1;have A:=λw=>nA m z i w;cases G with
     |nil=>simp[E.len]at f;omega
     |Ec _ _ _=>simp[E.len]at f;omega
     |mk b o L J=>
      refine⟨_,_,t,rp,λw _=>?_⟩;simp only[E.len]at f;simp[execOp,Instr.indexAt,l.eq D O,l.eq F O,SV.v,Ce.v,E.v,asIntOf,run_underlying C,s,f,A,Ap,E.bt,E.off]
    .rw[i]at d;exact d.elim
   .exact d.elim
  .exact d.elim
 .exact d.elim
def Vk:∀(d:aB)(b o c:Nat)(k:ae->Prop),ldC j b o c d k->∃i,k i/\i.length=d.length/\∀a,a<d.length->aS j b (o+c+a)=(i[a]?).map Ce.v
 |[],_,_,_,_,h=>⟨[],h,O,λa e=>by simp at e⟩
 |s::r,b,o,c,k,h=>by
  obtain⟨x,m,h⟩:=h;obtain⟨i,f,g,l⟩:=Vk r b o (c+1) _ h;refine⟨s.mk x::i,f,by simp[g],λa e=>?_⟩;grind
def qJ(A:yA g T)(H:a.eval x=.pointer (some ⟨b,o,none⟩)){e:TI}(G:jo T c=some e)(F:e.zi=false)
 (J:∀d,d<e.sh.length->(b,o+d)∈ZE T h (.load c x))(D:i.length=e.sh.length)(K:∀y,y<e.sh.length->aS j b (o+y)=(i[y]?).map Ce.v)
 {s:SV}(N:(e.agg=true/\s.v=.agg (i.map Ce.v).toArray)\/(e.agg=false/\∃m,i=[m]/\s.v=m.v))(M:k s):
 tp g T h j a ⟨q,.load c x,v,u,p,r⟩ k:=by
 refine⟨s,s.v,M,rp,λl Q=>?_⟩
 have O:=nA A G F l
 have B:=MF A G F l
 have C:∀d,d<e.sh.length->aS l.heap b (o+d)=(i[d]?).map Ce.v:=λd f=>by rw[Q (b,o+d) (J d f),K d f]
 rcases N with⟨n,t⟩|⟨n,m,t,I⟩
 .have E:=run_loadCells_list (P:=g) (w:=l) ⟨b,o,none⟩ (i.map Ce.v) (λd R f=>by
   rw[Ap,Eu];have L:d<e.sh.length:=by
    rcases eH d e.sh.length with z|z
    .exact z
    .rw[lp fu]at f;simp at f
   rw[C d L,<-eB,f])
  simp only[jQ]at E
  simp only[execOp,Instr.loadAt,H,Instr.sureAddr,loadVar,eC,iG,B,n,dy,O,vW]
  simp[<-D,E,t]
 .subst t
  have z:=C 0 (by rw[<-D];simp)
  simp at z
  simp only[execOp,Instr.loadAt,H,Instr.sureAddr,loadVar,eC,iG,B,n,dy]
  simp[Eu,z,I]
def NH(C:yA g T)(H:mG n h a)(D:a.eval x=.pointer (some ⟨b,o,none⟩))
 (B:∀d f,jo T c=some d->f<d.sh.length->(b,o+f)∈ZE T h (.load c x))(m:Vm T j c b o k):tp g T h j a ⟨q,.load c x,v,u,p,r⟩ k:=by
 unfold Vm at m
 split at m
 .rename_i I J F d
  obtain⟨i,z,G,E⟩:=Vk _ _ _ _ _ m
  exact qJ C D d O (λf w=>B _ f d w) G (λA t=>by simpa using E A t) (s:=.agg i) (bz ⟨O,O⟩) z
 .rename_i G F d
  obtain⟨y,E,z⟩:=m
  exact qJ C D d O (λf w=>B _ f d w) (i:=[G.mk y]) O (λA t=>by
   have:A=0:=sp t;subst this;exact E) (s:=.c (G.mk y)) (bH ⟨O,_,O,O⟩) z
 .rename_i e G F d
  obtain⟨y,E,z⟩:=m
  exact qJ C D d O (λf w=>B _ f d w) (i:=[.s y]) O (λA t=>by
   have:A=0:=sp t;subst this;exact E) (s:=.c (.s y)) (bH ⟨O,_,O,O⟩) z
 .exact m.elim
def Rj:∀{a:ae}{b o:Nat}{i:ae},LR a o b=some i->i.length=b/\∀c,c<b->a[o+c]? =i[c]?
 |a,0,o,i,h=>by simp[LR]at h;subst h;simp
 |a,b+1,o,i,h=>by
  simp only[LR]at h;split at h
  .rename_i e r j d;simp at h;subst h;obtain⟨f,g⟩:=Rj d;constructor<;>grind [uh]
  .simp at h
def NG(C:yA g T)(K:mG n h a){e:Nat}{G:ae}(E:a.eval x=.pointer (some ⟨b,o,none⟩))
 (B:∀d t,jo T c=some d->t<d.sh.length->(b,o+t)∈ZE T h (.load c x))(H:j[b]? =some (.cells (G.map Ce.v).toArray e))(d:Sw T c G o k):
 tp g T h j a ⟨q,.load c x,v,u,p,r⟩ k:=by
 have D:∀m,aS j b m=(G[m]?).map Ce.v:=λm=>by simp[aS,H]
 unfold Sw at d
 split at d
 .rename_i J L F f
  split at d
  .rename_i i I
   obtain⟨w,y⟩:=Rj I
   exact qJ C E f O (λt A=>B _ t f A) w (λm z=>by rw[D,y m z]) (s:=.agg i) (bz ⟨O,O⟩) d
  .exact d.elim
 .rename_i I F f
  split at d
  .rename_i w y
   rw[uh]at y
   exact qJ C E f O (λt A=>B _ t f A) (i:=[w]) O (λm z=>by
    have:m=0:=sp z;subst this;rw[D];simp[y]) (s:=.c w) (bH ⟨O,_,O,O⟩) d
  .exact d.elim
 .rename_i e I F f
  split at d
  .rename_i w y
   rw[uh]at y
   exact qJ C E f O (λt A=>B _ t f A) (i:=[w]) O (λm z=>by
    have:m=0:=sp z;subst this;rw[D];simp[y]) (s:=.c w) (bH ⟨O,_,O,O⟩) d
  .exact d.elim
 .rename_i L J I F f
  split at d
  .rename_i w y
   rw[uh]at y
   exact qJ C E f O (λt A=>B _ t f A) (i:=[w]) O (λm z=>by
    have:m=0:=sp z;subst this;rw[D];simp[y]) (s:=.c w) (bH ⟨O,_,O,O⟩) d
  .exact d.elim
 .exact d.elim
def W7(m:yA g T)(f:mG n h a)(B:Bx n h j)(d:rd T h j k (.load c x)):tp g T h j a ⟨q,.load c x,v,u,p,r⟩ k:=by
 simp only[rd]at d;split at d
 .rename_i b o i;exact NH m f (f.eq i O) (λs l A z=>by simp only[ZE,i,A];exact fA.2 ⟨l,rf.2 z,O⟩) d
 .rename_i C b o i;have w:∀s l,jo T c=some s->l<s.sh.length->(b,o+l)∈ZE T h (.load c x):=λs l A z=>by simp only[ZE,i,A];exact fA.2 ⟨l,rf.2 z,O⟩
  split at d
  .rename_i D e t y;obtain⟨rfl,d⟩:=d;exact NG m f (f.eq i O) w (B.bt C _ e t (bz y)) d
  .rename_i D e t y;obtain⟨rfl,d⟩:=d;exact NG m f (f.eq i O) w (B.bt C _ e t (bH y)) d
  .exact NH m f (f.eq i O) w d
 .exact d.elim
end
section
variable{x:Operand}{t:TypeId}
variable{P:Program}{T:TT}
variable{n:Nat}{b:Fr}{a:Act}{m:D}{k:SV->Prop}{d:Option Tmp}{g:TypeId}{f:String}{c:Array Edge}{e:Option (Nat×Bool)}
def RJ(l:mG n b a){j:Nat}(h:rd T b m k (.extract x j)):tp P T b m a ⟨d,.extract x j,g,f,c,e⟩ k:=by
 simp only[rd]at h;split at h
 .rename_i p o;split at h
  .rename_i y i;refine⟨_,_,h,rp,λw _=>?_⟩;rw[uh]at i;rw[AV.afZ];have:a.eval x=.tuple (p.map AV.v).toArray:=l.eq o O;simp[execOp,Instr.extract,this,i]
  .exact h.elim
 .exact h.elim
def SJ(c:mG n b a){x:Option Operand}{d:Int}{k:Int->Prop}(h:RP b x d k):
 (x=none/\k d)\/∃y i,x=some y/\a.eval y=.int .i64 i/\k i:=by
 unfold RP at h
 split at h
 .exact bz ⟨O,h⟩
 .rename_i y
  split at h
  .rename_i i e
   exact bH ⟨y,i,O,c.eq e O,h⟩
  .exact h.elim
def uo{k:IntKind}{i:Int}{y:Nat}{c:BoundsCode}(a:0<=i)(b:i<=y)(w:World):(Instr.sliceBound (.int k i) y c).run P w=.ok i.toNat w:=by
 simp[Instr.sliceBound,asIntOf,a,b]
def aeg(b o l c a d e:Nat):(E.cut (.mk b o l c) a d e).v=.slice (if c=a then some ⟨b,o,none⟩else(some (⟨b,o,none⟩:Addr)).map (·.add (a*e))) (d -a) (c -a):=by
 show Value.slice _ _ _=_;grind [Ap]
def Vg(K:yA P T)(r:mG n b a){A y:Option Operand}(i:rd T b m k (.slice t x A y none)):tp P T b m a ⟨d,.slice t x A y none,g,f,c,e⟩ k:=by
 simp only[rd]at i;split at i
 .rename_i s H;unfold Xv at i;split at i
  .rename_i v Q N M;split at i
   .rename_i B L;cases D:B.zi
    .rw[D]at i;have G:=(nu (K.CH M)).1;have F:=λw=>nA K L D w;have z:∀(l h:Int),0<=l->l<=h->h<=(s.cap:Int)->
      (∀w:World,(Instr.sliceBounds true s.len s.cap (A.map a.eval) (y.map a.eval) none).run P w=.ok (l.toNat,h.toNat,s.cap) w)->
      ∀w:World,(execOp a.eval ⟨d,.slice t x A y none,g,f,c,e⟩).run P w=.ok (.value (Ce.s (s.cut l.toNat h.toNat B.sh.length)).v) w:=by
      intro l h o p j q w
      cases s with
      |nil=>
       simp only[E.cap,E.len]at q j
       have:h=0:=V
       have:l=0:=V
       subst this;subst h
       simp[execOp,Instr.sliceAt,r.eq H O,SV.v,Ce.v,E.v,run_underlying G,Instr.slice,q,F,E.cut]
      |Ec u C sp=>
       simp only[E.cap,E.len]at q j
       have:h=0:=V
       have:l=0:=V
       subst this;subst h
       simp[execOp,Instr.sliceAt,r.eq H O,SV.v,Ce.v,E.v,run_underlying G,Instr.slice,q,F,E.cut]
      |mk u J I C=>
       simp only[E.cap,E.len]at q
       have v:(Ce.s ((E.mk u J I C).cut l.toNat h.toNat B.sh.length)).v=_:=aeg u J I C l.toNat h.toNat B.sh.length
       rw[v]
       have:a.eval x=.slice (some ⟨u,J,none⟩) I C:=r.eq H O
       simp[execOp,Instr.sliceAt,this,run_underlying G,Instr.slice,q,F]
     simp only[Am]at i;rcases SJ r i with⟨rfl,C⟩|⟨R,l,rfl,I,C⟩<;>rcases SJ r C with⟨rfl,o,p,j,u⟩|⟨S,h,rfl,J,o,p,j,u⟩
     .exact⟨_,_,u,rp,λw _=>z _ _ o p j (λw=>by simp[Instr.sliceBounds]) w⟩
     .exact⟨_,_,u,rp,λw _=>z _ _ o p j (λw=>by simp[Instr.sliceBounds,J,uo (by omega:0<=h) j]) w⟩
     .exact⟨_,_,u,rp,λw _=>z _ _ o p j (λw=>by simp[Instr.sliceBounds,I,uo o p]) w⟩
     .exact⟨_,_,u,rp,λw _=>z _ _ o p j (λw=>by
       have v:l<=(h.toNat:Int):=V;simp[Instr.sliceBounds,J,I,uo (by omega:0<=h) j,uo o v]) w⟩
    .rw[D]at i;exact i.elim
   .exact i.elim
  .exact i.elim
 .exact i.elim
def PC(s:yA P T)(o:mG n b a)(m:ao)(jM:Nat->Option (Nat×Nat))
 (q:∀i d t e,Mx m i=some (d,t)->jo T t=some e->e.zi=false->jM i=some (d,e.sh.length)):
 ∀(r:aG)(c:ae)(k:ae->Prop),Kv T b m c r k->
  ∃l,k l/\Instr.fill jM (c.map Ce.v).toArray (r.map λp=>(p.1,a.eval p.2))=some (l.map Ce.v).toArray
 |[],c,k,h=>⟨c,h,O⟩
 |(i,x)::F,c,k,h=>by
  simp only[Kv]at h;split at h
  .rename_i d t f B A;split at h
   .rename_i e C;cases g:(!e.zi&&Nat.beq f.length e.sh.length&&Nat.ble (d+f.length) c.length)
    .grind
    .rw[g]at h;simp only[fe,yw]at g;obtain⟨⟨u,j⟩,p⟩:=g;have j:=gG j;have p:=oV p;obtain⟨l,w,z⟩:=PC s o m jM q F (qP c d f) k h;refine⟨l,w,?_⟩;obtain⟨y,v⟩:=tW A;have D:a.eval x=(ev b x).v:=o.eq O y;simp only[eP,Instr.fill,q i d t e B C u,D,v,List.size_toArray,jQ,j];rw[aV cC,<-z];congr 1;apply Gy;intro E;have G:=SF (f.map Ce.v) 0 d (c.map Ce.v).toArray E;grind [Array.toList_zipIdx,GX,List.map,Ce.v,qP,Option.map]
   .exact h.elim
  .exact h.elim
def szT(T:TT)(t:Nat):Nat:=match jo T t with|some a=>a.sh.length|none=>0
def NQ(c:yA P T)(w:World):∀(a:agb),(∀f∈a,∃b,jo T f.type=some b/\b.zi=false)->
 (a.mapM (λf=>do pure (f.offset,<-sizeOf f.type):Field->Sem (Nat×Nat))).run P w=.ok (a.map λf=>(f.offset,szT T f.type)) w
 |[],_=>bO
 |f::a,h=>by
  obtain⟨b,d,j⟩:=h f bO;have e:=NQ c w a (λg i=>h g (by simp[i]));simp only[List.mapM_cons,eC,nA c d j,dy,iG]at e⊢;rw[e];simp[szT,d]
def NS:∀{b:ao},zW T b=true->∀p∈b,∃c,jo T p.2=some c/\c.zi=false
 |[],_,_,h=>by simp at h
 |(o,t)::r,h,p,a=>by
  simp only[zW,fe]at h;rcases aZ.1 a with rfl|a
  .grind
  .exact NS h.2 p a
def Ve(l:yA P T)(z:mG n b a){o:Array (Nat×Operand)}(i:rd T b m k (.build t o)):tp P T b m a ⟨d,.build t o,g,f,c,e⟩ k:=by
 simp only[rd]at i;split at i
 .rename_i y K M v;cases q:zW T y
  .rw[q]at i;exact i.elim
  rw[q]at i;obtain⟨⟨j,D,s⟩,_⟩:=qW (l.CH v);obtain⟨L,I,J,R⟩:=AO l v O;have A:∀h∈j.toList,∃r,jo T h.type=some r/\r.zi=false:=λh B=>
   NS q (h.offset,h.type) (by rw[<-s];exact fA.2 ⟨h,B,O⟩)
  have G:∀w:World,(j.mapM (λh=>do pure (h.offset,<-sizeOf h.type):Field->Sem (Nat×Nat))).run P w=.ok (j.toList.map λh=>(h.offset,szT T h.type)).toArray w:=by
   intro w;rw[aa4,Sem.run_map,NQ l w j.toList A];rfl
  obtain⟨S,E,F⟩:=PC l z y (λx=>((j.toList.map λh=>(h.offset,szT T h.type)).toArray)[x]?) (λx U t r u H Q=>by
   rw[uh,<-s,eB]at u;obtain⟨N,C,p⟩:=jL.1 u;simp only[Tb]at p;obtain⟨rfl,rfl⟩:=p;simp only[th,eB,C,sF,szT,H]) _ _ _ i
  refine⟨_,_,E,rp,λw _=>?_⟩;have u:L.cells=((K.map Sh.zero).map Ce.v).toArray:=by
   apply nl.1;simp[I]
  have C:(o.map λp=>(p.1,a.eval p.2)).toList=o.toList.map λp=>(p.1,a.eval p.2):=bO;simp only[execOp,Instr.build,eC,J,dy,run_underlying D,G,u,C,F];simp[SV.v]
 .exact i.elim
def GQ(d:mG n b a):∀{c:aE},c.all (λx=>(ev b x).mW)=true->c.map a.eval=c.map λx=>(ev b x).v
 |[],_=>O
 |x::c,h=>by
  simp only[Ta,fe]at h;simp only[eP,d.eq O h.1,GQ d h.2]
def RH(v:yA P T)(l:mG n b a){s:Builtin}{i:Array Operand}{r:Array TypeId}(h:rd T b m k (.call ⟨.builtin s,i,r⟩)):
 tp P T b m a ⟨d,.call ⟨.builtin s,i,r⟩,g,f,c,e⟩ k:=by
 simp only[rd]at h
 unfold ZY at h
 split at h
 .rename_i t x z p
  split at h
  .rename_i D F C q y o
   refine⟨_,_,h,rp,λw _=>?_⟩
   have A:=(nu (v.CH y)).1
   have u:r=#[t]:=nl.1 (sp z)
   have j:i=#[x]:=nl.1 (sp p)
   subst u;subst j
   have B:a.eval x=q.v:=l.eq o O
   cases q<;>simp[execOp,resolve,invoke,builtin,Builtin.len_,run_underlying A,B,E.v,goInt,SV.v,Ce.v,E.len]
  .exact h.elim
 .rename_i x y p
  split at h
  .rename_i u z o q
   refine⟨_,_,h,rp,λw _=>?_⟩
   have j:i=#[x,y]:=nl.1 (sp p)
   subst j
   simp[execOp,resolve,invoke,builtin,Builtin.max_,Builtin.max2,l.eq o O,l.eq q O,SV.v,Ce.v]
  .exact h.elim
 .rename_i x y p
  split at h
  .rename_i u z o q
   refine⟨_,_,h,rp,λw _=>?_⟩
   have j:i=#[x,y]:=nl.1 (sp p)
   subst j
   simp[execOp,resolve,invoke,builtin,Builtin.min_,Builtin.min2,l.eq o O,l.eq q O,SV.v,Ce.v]
  .exact h.elim
 .exact h.elim
def Qz(j:yA P T)(i:mG n b a)(s:Bx n b m)(o:Oper)(h:rd T b m k o.op):tp P T b m a o k:=by
 obtain⟨d,l,g,f,c,e⟩:=o;cases l with
 |move x=>exact aai i h
 |assign x=>exact Y9 i h
 |pick p x y=>exact W8 i h
 |nilCheck x=>exact PY i h
 |binOp l t x y q=>exact Vd j i h
 |unOp l t x=>exact W9 i h
 |convert q t x=>exact RI j i h
 |fieldAddr t x q=>exact Ot j i h
 |field t x q=>exact Vf j i h
 |indexAddr t x y=>exact Ou j i h
 |load t x=>exact W7 j i s h
 |extract x r=>exact RJ i h
 |slice t x u r mx=>cases mx with
  |none=>exact Vg j i h
  |some y=>exact h.elim
 |build t r=>exact Ve j i h
 |call p=>
  obtain⟨r,u,w⟩:=p;cases r with
  |builtin v=>exact RH j i h
  |value q=>exact h.elim
  |invoke v q=>exact h.elim
 |_=>exact h.elim
end
section
variable{v:Value}{m a:D}{b o e n q:Nat}{l:ae}{x:SV}
def aW(m:D)(b o:Nat):ae->D
 |[]=>m
 |c::r=>aW (vJ m b o c.v) b (o+1) r
def gK(m:D)(b o n:Nat):Prop:=∀j,j<n->(aS m b (o+j)).isSome=true/\Dc m b (o+j)=false
def jw(m:D)(b o:Nat)(l:ae):Prop:=∀(i:Nat)(c:Ce),l[i]? =some c->aS m b (o+i)=some c.v
def nv(a:ae)(n:Nat):ae:=(List.replicate n a).flatten
def dh(l:ae):Array Value:=(l.map Ce.v).toArray
def Xt(m:D)(b o:Nat)(v:Value):(vJ m b o v).size=m.size:=by simp[vJ]
theorem QM(m:D)(b o:Nat){j:Nat}(h:j≠b):(vJ m b o v)[j]? =m[j]? :=by
 grind [vJ]
theorem bE:∀(l:ae)(m:D)(b o:Nat),(aW m b o l).size=m.size
 |[],_,_,_=>O
 |c::r,m,b,o=>by simp only[aW];rw[bE r,Xt]
theorem cw:∀(l:ae)(m:D)(b o:Nat){j:Nat},j≠b->(aW m b o l)[j]? =m[j]?
 |[],_,_,_,_,_=>O
 |c::r,m,b,o,j,h=>by simp only[aW];rw[cw r _ _ _ h,QM m b o h]
theorem pI(h:aS m b o=some v):b<m.size:=by
 grind [Nat.lt_or_ge,Array.size,aS,Array.getElem?_eq_none]
theorem bD(h:a[b]? =m[b]?)(o:Nat):aS a b o=aS m b o:=by simp only[aS,h]
def dJ(m:D)(b:Nat)(e:Nat)(l:ae):Prop:=m[b]? =some (.cells (dh l) e)
theorem aaU(l:ae)(i:Nat):(dh l)[i]? =(l[i]?).map Ce.v:=by simp[dh]
def dJ.dg(h:dJ m b e l)(o:Nat):aS m b o=(l[o]?).map Ce.v:=by
 have a:m[b]? =some (.cells (dh l) e (0,0)):=h;grind [aS,aaU]
def dJ.kv(h:dJ m b e l):jw m b 0 l:=λi c a=>by rw[h.dg,fD,a];rfl
theorem dJ.lt(h:dJ m b e l):b<m.size:=(gW.1 h).1
theorem dJ.Dc{m:D}{b e:Nat}{l:ae}(h:dJ m b e l){o:Nat}:Dc m b o=false:=by
 have a:m[b]? =some (.cells (dh l) e (0,0)):=h;simp[Vc.Dc,a]
theorem dJ.gK(h:dJ m b e l)(c:o+n<=l.length):gK m b o n:=λj a=>by
 refine⟨?_,h.Dc⟩;rw[h.dg];simp;omega
theorem dJ.push(m:D)(l:ae)(e:Nat):dJ (m.push (.cells (dh l) e)) m.size e l:=by simp[dJ]
theorem dJ.congr(c:dJ m b e l)(h:a[b]? =m[b]?):dJ a b e l:=by
 grind [dJ]
theorem dJ.vJ{m:D}{b e:Nat}{l:ae}(h:dJ m b e l)(o:Nat)(c:Ce):dJ (vJ m b o c.v) b e (l.set o c):=by
 have a:m[b]? =some (.cells (dh l) e (0,0)):=h;have d:=h.lt;simp only[dJ,Vc.vJ,Array.getElem?_modify,vW,a,sF];congr 2;grind [dh,List.size_toArray,List.length_map,List.length]
def jm(l:ae)(o:Nat):ae->ae
 |[]=>l
 |c::r=>jm (l.set o c) (o+1) r
theorem mw:∀(r l:ae)(o:Nat),(jm l o r).length=l.length
 |[],_,_=>O
 |c::r,l,o=>by simp only[jm];rw[mw r];simp
theorem Ff:∀(r l:ae)(o i:Nat),(jm l o r)[i]? =if o<=i/\i<o+r.length/\i<l.length then r[i -o]? else l[i]?
 |[],l,o,i=>by simp[jm];intro h;omega
 |c::r,l,o,i=>by
  simp only[jm];rw[Ff r,IM];grind [List.length_set,List.length_cons,List.length,List.getElem?_cons_succ]
def dJ.aW{m:D}{b e:Nat}:∀{r l:ae}{m:D}{o:Nat},dJ m b e l->dJ (aW m b o r) b e (jm l o r)
 |[],_,_,_,h=>h
 |c::r,l,m,o,h=>by
  simp only[Vc.aW,jm];exact dJ.aW (m:=m) (h.vJ o c)
def BR(t:Nat):ad->Bool
 |[]=>false
 |u::r=>Nat.beq u t||BR t r
theorem Mt{t:Nat}:∀{M:ad},BR t M=true->t∈M
 |[],h=>by simp[BR]at h
 |u::r,h=>by
  simp only[BR,eK]at h;rcases h with h|h
  .grind [Nat.eq_of_beq_eq_true,List.mem_cons_self]
  .exact aX _ (Mt h)
def Rw(n:Nat):Fr->ad->ad
 |[],_=>[]
 |(q,x)::r,a=>bif Nat.ble n q&&!BR q a then
  match x with
  | .box b _ _=>b::Rw n r (q::a)
  | .Er b _ _=>b::Rw n r (q::a)
  |_=>Rw n r (q::a)
  else Rw n r a
def gT(l:ad)(m a:D):Prop:=∀b∈l,a[b]? =m[b]?
def Fc(l:ad)(m a:D)(k:Prop):Prop:=
 match l with
 |[]=>k
 |_=>gT l m a/\k
def pR{l:ad}{k:Prop}(h:Fc l m a k):gT l m a/\k:=by
 unfold Fc at h;split at h
 .exact⟨(λb c=>by cases c),h⟩
 .exact h
def LV{n:Nat}{q b e:Nat}{l:ae}(d:n<=q):∀{g:Fr}{a:ad},q∉a->pb g q b e l->b∈Rw n g a
 |[],a,_,h=>by rcases h with h|h<;>simp[ku]at h
 |(u,x)::r,a,i,h=>by
  simp only[Rw];cases j:Nat.beq u q
  .have k:u≠q:=λe=>by subst e;simp at j
   have c:pb r q b e l:=by
    grind [pb,ku]
   have f:q∉u::a:=by
    grind
   cases(Nat.ble n u&&!BR u a)
   .exact LV d i c
   .simp only[pG];split
    .exact aX _ (LV d f c)
    .exact aX _ (LV d f c)
    .exact LV d f c
  .grind [Nat.eq_of_beq_eq_true,BR,Mt,Nat.ble,Nat.ble_eq_true_of_le,Bool.not_false,Bool.and_self,pb,ku,List.mem_cons_self]
theorem Bx.jA{a:Fr}(h:Bx n a m)(r:∀b e l,x≠.box b e l/\x≠.Er b e l):Bx n ((q,x)::a) m:=by
 have c:∀{u b e l},pb ((q,x)::a) u b e l->pb a u b e l:=by
  grind [pb,ku,Nat.beq]
 exact⟨λq b e l d=>h.bt q b e l (c d),λq p b e l f g o k i j=>h.WJ q p b e l f g o k (c i) (c j),λq b e l d=>h.NN q b e l (c d)⟩
def SV.aeF(x:SV)(b e:Nat)(l:ae):x.nb≠.box b e l/\x.nb≠.Er b e l:=by
 cases x<;>exact⟨by simp[SV.nb],by simp[SV.nb]⟩
def Bx.cE{a:Fr}(h:Bx n a m){d:Option Nat}:Bx n (yF a d x) m:=by
 cases d with
 |none=>exact h
 |some d=>exact h.jA (SV.aeF x)
def Bx.fg{c:Fr}(h:Bx n c m)(f:gT (Rw n c []) m a):Bx n c a:=
 ⟨λq b e l d=>by rw[f b (LV (h.NN q b e l d) bO d)];exact h.bt q b e l d,h.WJ,h.NN⟩
def Bx.push{a:Fr}(h:Bx n a m)(o:Obj):Bx n a (m.push o):=
 ⟨λq b e l d=>by
  have c:=h.bt q b e l d;have f:=(gW.1 c).1;rw[vm,aV V];exact c,h.WJ,h.NN⟩
def Bx.bI{c:Fr}(h:Bx n c m)(i:n<=q)(t:Nat)(l:ae):Bx n ((q,.box m.size t l)::c) (m.push (.cells (dh l) t)):=by
 have g:=h.push (.cells (dh l) t);have k:∀{u b e l},pb c u b e l->b<m.size:=λa=>(gW.1 (h.bt _ _ _ _ a)).1;have j:∀{u b e d},pb ((q,.box m.size t l)::c) u b e d->(u=q/\b=m.size/\e=t/\d=l)\/(u≠q/\pb c u b e d):=by
  intro u b e d a;unfold pb at a⊢;simp only[ku]at a;cases f:Nat.beq q u
  .rw[f]at a;exact bH ⟨λe=>by subst e;simp at f,a⟩
  .grind [Nat.eq_of_beq_eq_true]
 constructor<;>grind [dh,Bx.bt,Bx.WJ,Bx.NN]
def Bx.pE{g:Fr}(j:Bx n g m){c:ae}(r:ku g q=.box b e c)(o:Nat)(l:ae):Bx n ((q,.box b e (jm c o l))::g) (aW m b o l):=by
 have p:pb g q b e c:=bz r;have k:dJ m b e c:=j.bt q b e c p;have s:∀{u d f h},pb ((q,.box b e (jm c o l))::g) u d f h->(u=q/\d=b/\f=e/\h=jm c o l)\/(u≠q/\pb g u d f h):=by
  intro u d f h a;unfold pb at a⊢;simp only[ku]at a;cases i:Nat.beq q u
  .rw[i]at a;exact bH ⟨λe=>by subst e;simp at i,a⟩
  .grind [Nat.eq_of_beq_eq_true]
 refine⟨λu d f h a=>?_,λu B b1 t z b2 v A y w x=>?_,λu d f h a=>?_⟩
 .rcases s a with⟨rfl,rfl,rfl,rfl⟩|⟨i,a⟩
  .exact dJ.aW (m:=m) k
  grind [cw,Bx.WJ,Bx.bt]
 .grind [Bx.WJ]
 .grind [Bx.NN]
def Kz(a:Fr):ae->Option Fr
 |[]=>some a
 | .bp q _ _::r=>match ku a q with
  | .Er _ _ _=>none
  |_=>Kz ((q,.jA)::a) r
 |_::r=>Kz a r
def AV.ces:AV->ae
 | .c x=>[x]
 | .agg l=>l
def SV.ces:SV->ae
 | .c x=>[x]
 | .agg l=>l
 | .tup l=>l.flatMap AV.ces
 |_=>[]
def aaf(a:Fr)(l:aC):Option Fr:=Kz a (l.flatMap SV.ces)
def uW{n:Nat}{f:Act}{m:D}:∀{l:ae}{a c:Fr},Kz a l=some c->mG n a f->Bx n a m->mG n c f/\Bx n c m
 |[],a,c,h,e,d=>by simp[Kz]at h;subst h;exact⟨e,d⟩
 |g::r,a,c,h,e,d=>by
  cases g with
  |bp q b o=>
   simp only[Kz]at h;split at h
   .simp at h
   .exact uW h (e.jA q) (d.jA bO)
  |_=>exact uW (l:=r) (by simpa[Kz]using h) e d
end
section
variable{P:Program}{T:TT}
def TM(m:D)(k:D->Prop):Prop:=k m
def mf(m:D)(f:Nat)(b:ae)(e:Nat)(s x:E)(k:E->D->Prop):Prop:=
 ∃a:ae,a.length=x.len*b.length/\jw m x.bt x.off a/\
  (s.len+x.len<=s.cap->gK m s.bt (s.off+s.len*b.length) a.length/\
   k (match s with| .nil=>.nil| .mk d o l c=>.mk d o (l+x.len) c| .Ec d o sp=>.Ec d o sp) (aW m s.bt (s.off+s.len*b.length) a))/\
  (s.cap<s.len+x.len->(s.len+x.len)*e<=140737488355328/\∃old:ae,old.length=s.len*b.length/\jw m s.bt s.off old/\
   ∀c,s.len+x.len<=c->k (.mk m.size 0 (s.len+x.len) c) (m.push (.cells (dh (old++a++nv b (c -(s.len+x.len)))) f)))
def adE(m:D)(c:Nat)(s x:E)(k:SV->D->Prop):Prop:=
 ∃a:ae,a.length=Nat.min x.len s.len*c/\jw m x.bt x.off a/\gK m s.bt s.off a.length/\
  TM (aW m s.bt s.off a) λb=>k (.c (.i (Nat.min x.len s.len:Nat))) b
def exC:aB->(ae->Prop)->Prop
 |[],k=>k []
 |s::r,k=>∃x:s.ty,exC r λl=>k (s.mk x::l)
def Y7(T:TT):ad->(aH->Prop)->Prop
 |[],k=>k []
 |t::r,k=>match jo T t with
  |some ⟨.struct _,b,_⟩=>exC b λl=>Y7 T r λa=>k (.agg l::a)
  |some ⟨.cell,[s],_⟩=>∃x:s.ty,Y7 T r λa=>k (.c (s.mk x)::a)
  |some ⟨.slice _,[_],_⟩=>∃x:E,Y7 T r λa=>k (.c (.s x)::a)
  |_=>False
def Vw(T:TT)(t:Nat)(v:Value)(k:SV->Prop):Prop:=
 match jo T t with
 |some ⟨.tuple [],_,_⟩=>k .jA
 |some ⟨.tuple a,_,_⟩=>Y7 T a λl=>v=.tuple (l.map AV.v).toArray/\k (.tup l)
 |some ⟨.struct _,a,_⟩=>exC a λl=>v=.agg (l.map Ce.v).toArray/\k (.agg l)
 |some ⟨.cell,[s],_⟩=>∃x:s.ty,v=(s.mk x).v/\k (.c (s.mk x))
 |some ⟨.slice _,[_],_⟩=>∃x:E,v=x.v/\k (.c (.s x))
 |_=>False
def Z1(P:Program)(T:TT)(G:ad)(n:Nat)(a:Fr)(m:D)(e:Nat)(h:Operand)(b:aE)(k:Fr->SV->D->Prop):Prop:=
 match aaf a (b.map (ev a))with
 |none=>False
 |some d=>match ev a h with
  | .c (.fn (.func g) first f)=>bif G.elem g&&b.all (λx=>(ev a x).mW)then
   bJ P g (first.toList++(b.map λx=>(ev a x).v)++f.toList) m λv c=>Fc (Rw n d []) m c (Vw T e v λx=>k d x c)
   else False
  | .c (.fv q)=>bif b.all (λx=>(ev a x).mW)then
   ∃g,q.1=.func g/\G.elem g=true/\bJ P g (q.2.1.toList++(b.map λx=>(ev a x).v)++q.2.2.toList) m λv c=>Fc (Rw n d []) m c (Vw T e v λx=>k d x c)
   else False
  |_=>False
def Iz(m:D)(b:Nat)(l:aD):Prop:=
 ∃a c,m[b]? =some (.map a c)/\a.toList.map (λe=>(e.key,e.val))=l.map λp=>(Value.int .i64 p.1,Value.int .i64 p.2)
def zU(l:aD)(k:Int):Int:=
 match l with
 |[]=>0
 |(j,v)::r=>if k=j then v else zU r k
def Oz(l:aD)(k v:Int):aD:=
 match l with
 |[]=>[(k,v)]
 |(j,u)::r=>if k=j then(j,v)::r else(j,u)::Oz r k v
def BW(T:TT)(d:Fr)(b:Nat):ae->aG->(ae->Prop)->Prop
 |a,[],k=>k a
 |a,(i,x)::r,k=>
  match(ev d x).cells with
  |some c=>bif Nat.beq c.length b&&Nat.ble (i*b+c.length) a.length then BW T d b (qP a (i*b) c) r k else False
  |none=>False
def Zd(n:Nat)(b:Fr)(d:Option Nat)(m:D)(t:Nat)(l:ae)(k:Fr->SV->D->Prop):Prop:=
 match d with
 |some a=>match ku b (n+a)with
  | .Er _ _ _=>False
  |_=>TM (m.push (.cells (dh l) t)) λc=>k ((n+a,.box m.size t l)::b) (.c (.bp (n+a) m.size 0)) c
 |none=>TM (m.push (.cells (dh l) t)) λc=>k b (.c (.p m.size 0)) c
def Uj(n:Nat)(c:Fr)(m:D)(x:SV)(l:ae)(k:Fr->SV->D->Prop):Prop:=
 match x with
 | .c (.p b o)=>gK m b o l.length/\TM (aW m b o l) λa=>Fc (Rw n c []) m a (k c .un a)
 | .c (.bp q b o)=>match ku c q with
  | .box d f e=>bif Nat.ble (o+l.length) e.length then NE d b (TM (aW m b o l) λa=>k ((q,.box d f (jm e o l))::c) .un a)else False
  | .Er _ _ _=>False
  |_=>gK m b o l.length/\TM (aW m b o l) λa=>Fc (Rw n c []) m a (k c .un a)
 |_=>False
def wr(P:Program)(T:TT)(G:ad)(n:Nat)(a:Fr)(m:D)(h:Option Nat)(o:Nat)(k:Fr->SV->D->Prop):Op->Prop
 | .alloc t=>match jo T t with
  |some f=>bif f.zi then False else Zd n a h m t (f.sh.map Sh.zero) k
  |none=>False
 | .box t x=>match(ev a x).cells with
  |some l=>match Kz a l with
   |some d=>Zd n d h m t l k
   |none=>False
  |none=>False
 | .buildSlice t g i=>match jo T t with
  |some ⟨.slice e,_,_⟩=>match jo T e with
   |some c=>bif c.zi||!(Nat.ble (g*c.sh.length) 16777216)then False else
    BW T a c.sh.length (nv (c.sh.map Sh.zero) g) i.toList λl=>match Kz a l with
     |some d=>TM (m.push (.cells (dh l) e)) λb=>k d (.c (.s (.mk m.size 0 g g))) b
     |none=>False
   |none=>False
  |_=>False
 | .store t x y=>match(ev a y).cells,jo T t with
  |some l,some f=>bif f.zi||!(Nat.beq l.length f.sh.length)then False else match Kz a l with
   |some d=>Uj n d m (ev a x) l k
   |none=>False
  |_,_=>False
 | .makeSlice t x y=>match jo T t,ev a x,ev a y with
  |some ⟨.slice e,_,_⟩,.c (.i l),.c (.i f)=>match jo T e with
   |some c=>bif c.zi then False else 0<=l/\l<=f/\(c.bytes:Int)*f<=281474976710656/\f<=9223372036854775807/\
    TM (m.push (.cells (dh (nv (c.sh.map Sh.zero) f.toNat)) e)) λb=>k a (.c (.s (.mk m.size 0 l.toNat f.toNat))) b
   |none=>False
  |_,_,_=>False
 | .makeFunc g first f=>bif first.toList.all (λx=>(ev a x).mW)&&f.toList.all (λx=>(ev a x).mW)then
  match aaf a (first.toList.map (ev a)++f.toList.map (ev a))with
  |some d=>k d (.c (.fn g (first.toList.map λx=>(ev a x).v).toArray (f.toList.map λx=>(ev a x).v).toArray)) m
  |none=>False
  else False
 | .makeMap _ none=>TM (m.push (.map #[] 0)) λb=>k a (.c (.mp m.size)) b
 | .lookup t x y false=>match jo T t,ev a x,ev a y with
  |some ⟨.map f g,_,_⟩,.c (.mp d),.c (.i n)=>match jo T f,jo T g with
   |some ⟨.cell,[.I],_⟩,some ⟨.cell,[.I],_⟩=>∃l,Iz m d l/\k a (.c (.i (zU l n))) m
   |_,_=>False
  |_,_,_=>False
 | .mapUpdate t x y z=>match jo T t,ev a x,ev a y,ev a z with
  |some ⟨.map f _,_,_⟩,.c (.mp d),.c (.i g),.c (.i v)=>match jo T f with
   |some ⟨.cell,[.I],_⟩=>∃l,Iz m d l/\∀b,Iz b d (Oz l g v)->b.size=m.size->(∀j,j≠d->b[j]? =m[j]?)->Fc (Rw n a []) m b (k a .un b)
   |_=>False
  |_,_,_,_=>False
 | .call ⟨.value f,d,_⟩=>Z1 P T G n a m o f d.toList k
 | .call ⟨.builtin .append,d,f⟩=>match d.toList,f.toList with
  |[x,y],[t,u]=>match jo T t,jo T u,ev a x,ev a y with
   |some ⟨.slice e,_,_⟩,some ⟨.slice _,_,_⟩,.c (.s s),.c (.s z)=>match jo T e with
    |some c=>bif c.zi||Nat.beq c.bytes 0 then False else mf m e (c.sh.map Sh.zero) c.bytes s z λr b=>Fc (Rw n a []) m b (k a (.c (.s r)) b)
    |none=>False
   |_,_,_,_=>False
  |_,_=>False
 | .call ⟨.builtin .copy,d,f⟩=>match d.toList,f.toList with
  |[x,y],t::_=>match jo T t,ev a x,ev a y with
   |some ⟨.slice e,_,_⟩,.c (.s s),.c (.s z)=>match jo T e with
    |some c=>bif c.zi then False else adE m c.sh.length s z λx b=>Fc (Rw n a []) m b (k a x b)
    |none=>False
   |_,_,_=>False
  |_,_=>False
 |_=>False
def Sx(P:Program)(g:Nat):Bool:=
 match P.funcs[g]? with
 |some a=>!(a.name== "runtime.NumGoroutine")&&a.body.isSome
 |none=>false
def GOK(P:Program)(G:ad):Prop:=G.all (Sx P)=true
def We(a:ae):∀(n i:Nat),i<n*a.length->(nv a n)[i]? =a[i%a.length]?
 |0,i,h=>by simp at h
 |n+1,i,h=>by
  have c:0<a.length:=by
   grind [Nat.eq_zero_or_pos,List.length]
  have e:nv a (n+1)=a++nv a n:=by simp[nv,mF]
  rw[e,List.getElem?_append];split
  .grind [Nat.mod_eq_of_lt]
  .rename_i b;rw[We a n (i -a.length) (by rw[nC,Nat.one_mul]at h;omega)];grind [Nat.mod_eq_sub_mod]
theorem vU(a:ae)(n:Nat):(nv a n).length=n*a.length:=by
 simp[nv]
theorem Ny(a:ae)(z:Array Value)(h:z.toList=a.map Ce.v)(n:Nat):
 (Array.range (n*a.length)).map (λi=>z[i%z.size]!)=dh (nv a n):=by
 apply Gy
 intro i
 have g:z.size=a.length:=by grind [Array.length_toList]
 by_cases b:i<n*a.length
 .have c:=We a n i b
  have f:0<a.length:=by
   grind [Nat.eq_zero_or_pos,List.length]
  have e:i%a.length<a.length:=Nat.mod_lt _ f
  have d:(dh (nv a n))[i]? =((nv a n)[i]?).map Ce.v:=by simp[dh]
  rw[d,c,<-eB,<-h]
  simp[b,g,e]
 .grind [dh,nv,vU]
end
section
variable{c:SV}{l:ae}{t:TypeId}
variable{e:Program}{T:TT}{G:ad}
def Ce.abB(c:Ce):c.v.oneCell'=true:=by
 cases c with
 |s y=>cases y<;>rfl
 |_=>rfl
def od:∀(l:ae)(w:World)(b o:Nat),(w.setCells b o (l.map Ce.v)).heap=aW w.heap b o l
 |[],_,_,_=>O
 |c::r,w,b,o=>by
  simp only[eP,World.setCells,aW];rw[od r,T5]
def vx:∀(l:ap)(w:World)(a o:Nat),rY w (w.setCells a o l)
 |[],w,_,_=>rY.cX w
 |c::r,w,a,o=>by
  simp only[World.setCells];exact rY.N (b:=w.setCell ⟨a,o,none⟩ c) ⟨O,O,O⟩ (vx r _ a (o+1))
def Jq(l:ae)(b o:Nat)(w:World)(h:gK w.heap b o l.length):
 (storeCells ⟨b,o,none⟩ (l.map Ce.v)).run e w=.ok () (w.setCells b o (l.map Ce.v)):=by
 have:=run_storeCells_cells (P:=e) b o (l.map Ce.v) 0 w
  (λj a=>by have:=(h j cC).1;rw[Eu];simpa using this)
  (λj a=>by have:=(h j cC).2;rw[WZ];simpa using this)
  (λv a=>by obtain⟨c,_,rfl⟩:=fA.1 a;exact c.abB)
 simpa using this
def Vy(l:ae)(b o:Nat)(a:World)(h:jw a.heap b o l):(loadCells ⟨b,o,none⟩ l.length).run e a=.ok (dh l) a:=by
 have:=run_loadCells_list (P:=e) (w:=a) ⟨b,o,none⟩ (l.map Ce.v) (λj v c=>by
  rw[Ap,Eu];rw[eB]at c;obtain⟨d,f,rfl⟩:=jL.1 c;exact h j d f)
 grind [dh]
variable{n:Nat}{d:Fr}{a:Act}{m:D}{k:Fr->SV->D->Prop}{f:Option Tmp}{g:TypeId}{j:String}{h:Array Edge}{i:Option (Nat×Bool)}
def Ki(e:Program)(n:Nat)(a:Act)(m:D)(o:Oper)(k:Fr->SV->D->Prop):Prop:=
 ∀(w:World),w.heap=m->∀(f:Act->World->Prop)(Q:Exit->Act->World->Prop),
  (∀d c v b,k d c b.heap->mG n d a->Bx n d b.heap->c.Is v->rY w b->f (a.put o.dst v) b)->o.wp e a w f Q
def mL{o:Oper}{d:Fr}{v:Value}{w b:World}(h:mG n d a)(g:Bx n d b.heap)(p:c.Is v)(m:rY w b)(i:k d c b.heap)(l:(execOp a.eval o).run e w=.ok (.value v) b)
 {f:Act->World->Prop}{Q:Exit->Act->World->Prop}(j:∀d c v b,k d c b.heap->mG n d a->Bx n d b.heap->c.Is v->rY w b->f (a.put o.dst v) b):o.wp e a w f Q:=by
 unfold Oper.wp
 rw[l]
 exact j d c v b i h g p m
def SH{i:Option Nat}{t:Nat}(g:mG n d a)(f:Bx n d m)(h:Zd n d i m t l k):
 ∃b c,mG n b a/\Bx n b (m.push (.cells (dh l) t))/\c.Is (.pointer (some ⟨m.size,0,none⟩))/\k b c (m.push (.cells (dh l) t)):=by
 unfold Zd at h
 split at h
 .split at h
  .exact h.elim
  .rename_i e _ j
   exact⟨(n+e,.box m.size t l)::d,.c (.bp (n+e) m.size 0),g.dV (λ_=>trivial),f.bI (Nat.le_add_right _ _) t l,O,h⟩
 .exact⟨d,.c (.p m.size 0),g,f.push _,O,h⟩
def VL(s:mG n d a)(g:Bx n d m)(h:Uj n d m c l k):
 ∃p b o,mG n p a/\Bx n p (aW m b o l)/\(∀v,c.Is v->v=.pointer (some ⟨b,o,none⟩))/\gK m b o l.length/\k p .un (aW m b o l):=by
 unfold Uj at h
 split at h
 .obtain⟨q,r⟩:=pR h.2
  exact⟨_,_,_,s,g.fg q,λv e=>e,h.1,r⟩
 .split at h
  .rename_i w b o _ i j f u
   cases t:Nat.ble (o+l.length) f.length
   .grind
   .rw[t]at h
    obtain⟨rfl,h⟩:=h
    have x:dJ m i j f:=g.bt w i j f (bz u)
    exact⟨(w,.box i j (jm f o l))::d,_,_,s.dV (λ_=>trivial),g.pE u o l,λv e=>e,x.gK (oV t),h⟩
  .exact h.elim
  .obtain⟨q,r⟩:=pR h.2
   exact⟨_,_,_,s,g.fg q,λv e=>e,h.1,r⟩
 .exact h.elim
def WK(y:yA e T)(s:mG n d a)(q:Bx n d m)(b:wr e T G n d m f g k (.alloc t)):Ki e n a m ⟨f,.alloc t,g,j,h,i⟩ k:=by
 intro l D L Q B
 subst D;simp only[wr]at b;split at b
 .rename_i o C;cases p:o.zi
  .rw[p]at b;obtain⟨I,F,H,K⟩:=AO y C p;have z:I.cells=dh (o.sh.map Sh.zero):=by apply nl.1;simp[F,dh]
   obtain⟨J,c,u,r,E,A⟩:=SH s q b;refine mL (w:=l) (c:=c) (v:=.pointer (some ⟨l.heap.size,0,none⟩)) (b:={l with heap:=l.heap.push (.cells (dh (o.sh.map Sh.zero)) t)}) u r E ⟨O,O,O⟩ A ?_ B;simp[execOp,Instr.alloc,H,newVar,newRow,z]
  grind
 .exact b.elim
def Z4(p:mG n d a)(q:Bx n d m){c:Operand}(b:wr e T G n d m f g k (.box t c)):Ki e n a m ⟨f,.box t c,g,j,h,i⟩ k:=by
 intro o F L Q E
 subst F;simp only[wr]at b;split at b
 .rename_i l D;split at b
  .rename_i K A;obtain⟨y,s⟩:=uW A p q;obtain⟨B,z⟩:=tW D;obtain⟨J,I,u,r,H,C⟩:=SH y s b;refine mL (w:=o) (c:=I) (v:=.pointer (some ⟨o.heap.size,0,none⟩)) (b:={o with heap:=o.heap.push (.cells (dh l) t)}) u r H ⟨O,O,O⟩ C ?_ E;simp[execOp,Instr.box,newVar,newRow,p.eq O B,z,dh]
  .exact b.elim
 .exact b.elim
def RB(p:mG n d a)(w:Bx n d m){o:Fn}{first b:Array Operand}(l:wr e T G n d m f g k (.makeFunc o first b)):Ki e n a m ⟨f,.makeFunc o first b,g,j,h,i⟩ k:=by
 intro C B E Q A
 subst B;simp only[wr]at l;cases q:(first.toList.all (λc=>(ev d c).mW)&&b.toList.all (λc=>(ev d c).mW))
 .grind
 .rw[q]at l;simp only[fe]at q;obtain⟨t,u⟩:=q;have r:(first.toList.map λc=>(ev d c).v).toArray=first.map a.eval:=by
   apply nl.1;simp[GQ p t]
  have s:(b.toList.map λc=>(ev d c).v).toArray=b.map a.eval:=by
   apply nl.1;simp[GQ p u]
  simp only[pG]at l;split at l
  .rename_i D z;obtain⟨y,x⟩:=uW z p w;refine mL y x (v:=.func o (first.map a.eval) (b.map a.eval)) ?_ (rY.cX C) l ?_ A
   .show Value.func o (first.map a.eval) (b.map a.eval)=Value.func o _ _;rw[r,s]
   .simp[execOp,Instr.makeFunc]
  .exact l.elim
def NZ(m:mG n d a)(e:Nat):
 ∀(q:aG)(b:ae)(k:ae->Prop),BW T d e b q k->
  ∃l,k l/\Instr.fill (λi=>some (i*e,e)) (b.map Ce.v).toArray (q.map λp=>(p.1,a.eval p.2))=some (l.map Ce.v).toArray
 |[],b,k,h=>⟨b,h,O⟩
 |(i,c)::x,b,k,h=>by
  simp only[BW]at h;split at h
  .rename_i f u;cases g:(Nat.beq f.length e&&Nat.ble (i*e+f.length) b.length)
   .grind
   .rw[g]at h;simp only[fe]at g;obtain⟨j,o⟩:=g;have j:=gG j;have o:=oV o;obtain⟨l,r,t⟩:=NZ m e x (qP b (i*e) f) k h;refine⟨l,r,?_⟩;obtain⟨s,p⟩:=tW u;have v:=m.eq O s;simp only[eP,Instr.fill,v,p,List.size_toArray,jQ,j];rw[aV cC,<-t];congr 1;apply Gy;intro w;have y:=SF (f.map Ce.v) 0 (i*e) (b.map Ce.v).toArray w;grind [Array.toList_zipIdx,GX,List.map,Ce.v,qP,Option.map]
  .exact h.elim
def Oo(B:yA e T)(D:mG n d a)(N:Bx n d m){b:Nat}{z:Array (Nat×Operand)}(p:wr e T G n d m f g k (.buildSlice t b z)):Ki e n a m ⟨f,.buildSlice t b z,g,j,h,i⟩ k:=by
 intro q W ae aa R
 subst W;simp only[wr]at p;split at p
 .rename_i L sh ab U;split at p
  .rename_i o H;cases r:(o.zi||!(Nat.ble (b*o.sh.length) 16777216))
   .rw[r]at p;simp only[cZ,af1]at r;have ac:=oV r.2;have I:=(nu (B.CH U)).1;obtain⟨K,X,Y,ad⟩:=AO B H r.1;have F:=λq=>nA B H r.1 q;obtain⟨l,y,s⟩:=NZ D _ _ _ _ p;cases C:Kz d l with
    |none=>rw[C]at y;exact y.elim
    |some u=>
    rw[C]at y;obtain⟨Q,P⟩:=uW C D N;refine mL (w:=q) (c:=.c (.s (.mk q.heap.size 0 b b))) (v:=.slice (some ⟨q.heap.size,0,none⟩) b b) (b:={q with heap:=q.heap.push (.cells (dh l) L)}) Q (P.push _) O ⟨O,O,O⟩ y ?_ R;have E:(z.map λu=>(u.1,a.eval u.2)).toList=z.toList.map λu=>(u.1,a.eval u.2):=bO;have Z:K.cells.toList=(o.sh.map Sh.zero).map Ce.v:=by simp[X]
    have J:(o.sh.map Sh.zero).length=o.sh.length:=bO;have ni:=Ny (o.sh.map Sh.zero) K.cells Z b;rw[J]at ni;by_cases A:b*o.sh.length=0
    .have S:nv (o.sh.map Sh.zero) b=[]:=by
      apply cp.1;rw[vU,J,A]
     rw[S]at s;simp only[execOp,Instr.buildSlice,eC,run_underlying I,dy,F,A];simp only[E];have M:(Array.map (λc=>(default:Value)) (Array.range 0))=#[]:=bO;simp at s⊢;rw[M,s];simp[newRow,dh]
    .simp only[execOp,Instr.buildSlice,eC,run_underlying I,dy,F,A,mD];have:¬(b*o.sh.length>2^24):=V;simp only[this,mD,Y,eC,iG,dy,E];rw[ni];simp only[dh]at s⊢;simp[s,newRow]
   grind
  .exact p.elim
 .exact p.elim
def WO(C:yA e T)(r:mG n d a)(v:Bx n d m){c y:Operand}(b:wr e T G n d m f g k (.store t c y)):Ki e n a m ⟨f,.store t c y,g,j,h,i⟩ k:=by
 intro w L Z Q H
 subst L;simp only[wr]at b;split at b
 .rename_i l s F K;cases o:(s.zi||!(Nat.beq l.length s.sh.length))
  .rw[o]at b;simp only[Am]at b;simp only[cZ,af1]at o;split at b
   .rename_i N D;obtain⟨B,z⟩:=uW D r v;obtain⟨u,p,q,A,x,M,I,E⟩:=VL B z b;have U:=gG o.2;obtain⟨S,R⟩:=tW F;have W:=λw=>nA C K o.1 w;unfold Oper.wp;have J:(execOp a.eval ⟨f,.store t c y,g,j,h,i⟩).run e w=.ok .skip (w.setCells p q (l.map Ce.v)):=by
     have V:=Jq (e:=e) l p q w I;have X:a.eval c=.pointer (some ⟨p,q,none⟩):=M _ (r.ev c);have Y:(a.eval y).cells=(l.map Ce.v).toArray:=by grind [mG.eq]
     grind [Go.execOp,Go.Instr.storeAt,Go.Instr.sureAddr,Go.storeVar,Go.Sem.run_bind,Go.Sem.run_pure,Go.Result.andThen_ok,List.size_toArray,List.length_map]
    rw[J];exact H u .un undef _ (by rw[od];exact E) A (by rw[od];exact x) O (vx _ _ _ _)
   .exact b.elim
  grind
 .exact b.elim
end
section
variable{b y f:Operand}{t:TypeId}{i:Array Operand}{p:Array TypeId}
variable{c:Program}{T:TT}{G:ad}
variable{n:Nat}{e:Fr}{a:Act}{m:D}{k:Fr->SV->D->Prop}{h:Option Tmp}{g:TypeId}{o:String}{j:Array Edge}{l:Option (Nat×Bool)}
theorem Us{b:Int}(a: -9223372036854775808<=b)(c:b<=9223372036854775807):IntKind.i64.wrap b=b:=by
 grind [Go.IntKind.bits,Go.IntKind.signed,Go.IntKind.wrap]
theorem dk{b:Int}(a: -9223372036854775808<=b)(c:b<=9223372036854775807):eV b=b:=Us a c
def PM(r:yA c T)(u:mG n e a)(F:Bx n e m)(i:wr c T G n e m h g k (.makeSlice t b y)):Ki c n a m ⟨h,.makeSlice t b y,g,o,j,l⟩ k:=by
 intro q W ai ae J
 subst W;simp only[wr]at i;split at i
 .rename_i D sh af p d R Z hy;split at i
  .rename_i f z;cases s:f.zi
   .rw[s]at i;obtain⟨h0,h1,h2,h3,I⟩:=i;have U:=(nu (r.CH R)).1;obtain⟨C,hz,ac,ah⟩:=AO r z s;obtain⟨ti,H,ag,S,_⟩:=K9 r z s;have Q:=λq=>nA r z s q;refine mL (w:=q) (c:=.c (.s (.mk q.heap.size 0 p.toNat d.toNat))) (v:=.slice (some ⟨q.heap.size,0,none⟩) p.toNat d.toNat) (b:={q with heap:=q.heap.push (.cells (dh (nv (f.sh.map Sh.zero) d.toNat)) D)}) u (F.push _) O ⟨O,O,O⟩ I ?_ J;have ad:C.cells.toList=(f.sh.map Sh.zero).map Ce.v:=by simp[hz]
    have B:(f.sh.map Sh.zero).length=f.sh.length:=bO;have ni:=Ny (f.sh.map Sh.zero) C.cells ad d.toNat;rw[B]at ni;have aa:a.eval b=.int .i64 p:=u.eq Z O;have ab:a.eval y=.int .i64 d:=u.eq hy O;have Y:IntKind.i64.wrap p=p:=by grind [Us]
    have X:IntKind.i64.wrap d=d:=by grind [Us]
    have K:¬d<0:=V;have L:¬((f.bytes:Int)*d>2^48):=by
     grind
    have M:¬p<0:=V;have N:¬p>d:=V;simp only[execOp,Instr.makeSlice,eC,run_underlying U,dy,asInt,asIntOf,aa,ab,iG,S,Y,X,H];simp only[K,L,M,N,decide_false,abX,rS,mD];simp only[eC,dy,run_askRoom,Q];by_cases A:d.toNat*f.sh.length=0
    .have P:nv (f.sh.map Sh.zero) d.toNat=[]:=by
      apply cp.1;rw[vU,B,A]
     rw[P];have E:(Array.map (λb=>(default:Value)) (Array.range 0))=#[]:=bO;simp[A,newRow,dh];rw[E]
    .simp only[A,mD,eC,ac,dy,iG];rw[ni];simp[newRow]
   grind
  .exact i.elim
 .exact i.elim
def PQ:∀{c:aB}{k:ae->Prop},exC c k->∃l,k l
 |[],_,h=>⟨_,h⟩
 |_::_,_,⟨b,h⟩=>let⟨_,a⟩:=PQ h;⟨_,a⟩
def KA:∀{p:ad}{k:aH->Prop},Y7 T p k->∃l,k l
 |[],_,h=>⟨_,h⟩
 |t::p,k,h=>by
  simp only[Y7]at h;split at h
  .obtain⟨l,c⟩:=PQ h;obtain⟨d,a⟩:=KA c;exact⟨_,a⟩
  .obtain⟨b,c⟩:=h;obtain⟨d,a⟩:=KA c;exact⟨_,a⟩
  .obtain⟨b,c⟩:=h;obtain⟨d,a⟩:=KA c;exact⟨_,a⟩
  .exact h.elim
def Zm{t:Nat}{v:Value}{k:SV->Prop}(h:Vw T t v k):∃b:SV,b.Is v/\k b:=by
 unfold Vw at h;split at h
 .exact⟨.jA,trivial,h⟩
 .obtain⟨l,c,a⟩:=KA h;exact⟨.tup l,c,a⟩
 .obtain⟨l,c,a⟩:=PQ h;exact⟨.agg l,c,a⟩
 .rename_i s _ _;obtain⟨b,c,a⟩:=h;exact⟨.c (s.mk b),c,a⟩
 .obtain⟨b,c,a⟩:=h;exact⟨.c (.s b),c,a⟩
 .exact h.elim
def PL(z:GOK c G)(A:mG n e a){d:Fr}(B:mG n d a)(y:Bx n d m){q:Nat}{first s:Array Value}(E:a.eval f=.func (.func q) first s)
 (H:G.elem q=true)(J:i.toList.all (λb=>(ev e b).mW)=true)
 (x:bJ c q (first.toList++(i.toList.map λb=>(ev e b).v)++s.toList) m λv r=>Fc (Rw n d []) m r (Vw T g v λb=>k d b r)):
 Ki c n a m ⟨h,.call ⟨.value f,i,p⟩,g,o,j,l⟩ k:=by
 intro w P W S K
 subst P
 have r:=LY.1 z q (sp H)
 have C:i.map a.eval=(i.toList.map λb=>(ev e b).v).toArray:=by
  apply nl.1;simp[<-GQ A J]
 unfold Sx at r
 split at r
 .rename_i u F
  simp only[fe,yw]at r
  have D:u.body.isNone=false:=by cases V:u.body<;>simp_all
  have L:(execOp a.eval ⟨h,.call ⟨.value f,i,p⟩,g,o,j,l⟩).run c w=
   .ok (.enter q (first.toList++(i.toList.map λb=>(ev e b).v)++s.toList).toArray) w:=by
   simp only[execOp,resolve,E,C,Deferred.ofValue,eC,iG,dy,invoke,callFunc,run_program,F,r.1,D,rS,mD]
   simp
  unfold Oper.wp
  rw[L]
  refine(x w O).mono ?_
  rintro U R ⟨v,rfl,M,t⟩
  obtain⟨N,t⟩:=pR t
  obtain⟨b,Q,I⟩:=Zm t
  exact K d b v R I B (y.fg N) Q M
 .simp at r
def Y4(v:GOK c G)(r:mG n e a)(y:Bx n e m)(d:wr c T G n e m h g k (.call ⟨.value f,i,p⟩)):Ki c n a m ⟨h,.call ⟨.value f,i,p⟩,g,o,j,l⟩ k:=by
 simp only[wr,Z1]at d;split at d
 .exact d.elim
 rename_i D z;obtain⟨w,u⟩:=uW z r y;split at d
 .rename_i s first x t
  cases q:(G.elem s&&i.toList.all (λb=>(ev e b).mW))
  .grind
  .rw[q]at d;simp only[fe]at q;exact PL v r w u (r.eq t O) q.1 q.2 d
 .rename_i x t;cases q:(i.toList.all (λb=>(ev e b).mW))
  .grind
  .rw[q]at d;obtain⟨s,A,B,d⟩:=d;have C:a.eval f=.func (.func s) x.2.1 x.2.2:=by
    rw[<-A];exact r.eq t O
   exact PL v r w u C B q d
 .exact d.elim
def wV(a:c.underlying t=some (.int .i64))(e:Bool)(b:Int)(w:World):(Instr.checkKey e 10000 t (.int .i64 b)).run c w=.ok () w:=by
 have:Instr.checkKey e 10000 t (.int .i64 b)=Instr.checkKey e (9999+1) t (.int .i64 b):=rfl;rw[this];generalize 9999=d;simp[Instr.checkKey,run_underlying a]
def Ey(b:Int):∀(a:List MapEntry)(l:aD)(i:Nat),a.map (λe=>(e.key,e.val))=l.map (λp=>(Value.int .i64 p.1,Value.int .i64 p.2))->
 (Instr.findNow (.int .i64) (.int .i64 b) a i=some none/\zU l b=0/\(∀v,Oz l b v=l++[(b,v)]))\/
 ∃j u,Instr.findNow (.int .i64) (.int .i64 b) a i=some (some (i+j,.int .i64 u))/\zU l b=u/\j<a.length/\l[j]? =some (b,u)/\∀v,Oz l b v=l.set j (b,v)
 |[],[],i,_=>bz ⟨O,O,λv=>O⟩
 |[],_::_,i,h=>by simp at h
 |_::_,[],i,h=>by simp at h
 |e::a,(j,u)::l,i,h=>by
  simp only[eP,List.cons.injEq,Tb]at h;obtain⟨⟨o,s⟩,h⟩:=h;have p:Instr.sameNow (.int .i64) (.int .i64 b) e.key=some (b==j):=by grind [Go.Instr.sameNow]
  by_cases f:b=j
  .subst f;refine bH ⟨0,u,?_,?_,bO,bO,?_⟩
   .grind [Go.Instr.findNow]
   .simp[zU]
   .intro v;simp[Oz]
  .have n:(b==j)=false:=cC;rcases Ey b a l (i+1) h with⟨g,c,d⟩|⟨q,r,g,c,d,k,m⟩
   .grind [Go.Instr.findNow,zU,Oz]
   .refine bH ⟨q+1,r,?_,?_,sp d,sp k,?_⟩
    .grind [Go.Instr.findNow]
    .simp[zU,f,c]
    grind [Oz]
def Tt(i:mG n e a)(f:Bx n e m){r:Option Operand}(d:wr c T G n e m h g k (.makeMap t r)):Ki c n a m ⟨h,.makeMap t r,g,o,j,l⟩ k:=by
 intro b q s Q p
 subst q;cases r with
 |some r=>exact d.elim
 |none=>
  refine mL (w:=b) (c:=.c (.mp b.heap.size)) (v:=.map (some b.heap.size)) (b:={b with heap:=b.heap.push (.map #[] 0)}) i (f.push _) O ⟨O,O,O⟩ d ?_ p;simp[execOp,Instr.makeMap]
def UW(s:yA c T)(r:mG n e a)(K:Bx n e m){z:Bool}(d:wr c T G n e m h g k (.lookup t b y z)):Ki c n a m ⟨h,.lookup t b y z,g,o,j,l⟩ k:=by
 intro f W ag ad S
 subst W;cases z with
 |true=>exact d.elim
 |false=>
  simp only[wr]at d;split at d
  .rename_i kt et sh ae B i V X Y;split at d
   .rename_i b1 b2 R P;obtain⟨u,⟨C,I,N,M⟩,Q⟩:=d;have E:=(G8 (s.CH V)).1;obtain⟨⟨J,hd,hp⟩,_⟩:=qV (s.CH R);have L:J=.int .i64:=by
     grind [BZ]
    subst L;obtain⟨A,Z,ac,ab⟩:=AO s P O;have aa:A=.int .i64 0:=by
     have:A.cells.toList=[Value.int .i64 0]:=Z;have U:=ab O;cases A<;>first|(simp[Value.cells]at this;done)|(simp[Value.cells]at this;rw[this.1,this.2])|exact absurd O (U _)
    have F:a.eval b=.map (some B):=r.eq X O;have H:a.eval y=.int .i64 i:=r.eq Y O;have D:(getObj B).run c f=.ok (.map C I) f:=by simp[getObj,Sem.run,N]
    refine mL (w:=f) (c:=.c (.i (zU u i))) (v:=.int .i64 (zU u i)) (b:=f) r K O (rY.cX f) Q ?_ S;rcases Ey i C.toList u 0 M with⟨p,q,_⟩|⟨af,ah,p,q,_⟩
    .simp[execOp,Instr.lookup,run_underlying E,F,H,D,wV hd,Instr.findKey,run_underlying hd,p,ac,aa,q]
    .simp[execOp,Instr.lookup,run_underlying E,F,H,D,wV hd,Instr.findKey,run_underlying hd,p,q]
   .exact d.elim
  .exact d.elim
def PN(J:yA c T)(r:mG n e a)(I:Bx n e m){z:Operand}(q:wr c T G n e m h g k (.mapUpdate t b y z)):Ki c n a m ⟨h,.mapUpdate t b y z,g,o,j,l⟩ k:=by
 intro w hw ag ae N
 subst hw;simp only[wr]at q;split at q
 .rename_i kt et sh af f d u ht hx hy hz;split at q
  .rename_i b1 ab;obtain⟨ad,⟨p,i,C,v⟩,M⟩:=q;have Q:=(G8 (J.CH ht)).1;obtain⟨⟨V,hd,hp⟩,_⟩:=qV (J.CH ab);have Z:V=.int .i64:=by
    grind [BZ]
   subst Z;have R:a.eval b=.map (some f):=r.eq hx O;have S:a.eval y=.int .i64 d:=r.eq hy O;have U:a.eval z=.int .i64 u:=r.eq hz O;have L:(getObj f).run c w=.ok (.map p i) w:=by simp[getObj,Sem.run,C]
   have P:∀E,(setObj f E).run c w=.ok () {w with heap:=w.heap.setIfInBounds f E}:=λE=>by simp[setObj,Sem.run,C]
   have K:f<w.heap.size:=(gW.1 C).1;unfold Oper.wp;rcases Ey d p.toList ad 0 v with⟨B,W,H⟩|⟨x,ah,B,W,H,X,Y⟩
   .have D:(execOp a.eval ⟨h,.mapUpdate t b y z,g,o,j,l⟩).run c w=.ok .skip {w with heap:=w.heap.setIfInBounds f (.map (p.push {key:=.int .i64 d,val:=.int .i64 u,born:=i}) (i+1))}:=by
     simp[execOp,Instr.mapUpdate,run_underlying Q,R,S,U,L,wV hd,Instr.findKey,run_underlying hd,B,P]
    rw[D];have s:=pR (M {w with heap:=w.heap.setIfInBounds f (.map (p.push {key:=.int .i64 d,val:=.int .i64 u,born:=i}) (i+1))}.heap ?_ bO ?_)
    .exact N e .un undef _ s.2 r (I.fg s.1) O ⟨O,O,O⟩
    .refine⟨_,_,by simp[K];exact⟨O,O⟩,?_⟩;rw[H];simp[v]
    grind [Array.getElem?_setIfInBounds_ne]
   .have aa:(p[x]?).map (·.key)=some (.int .i64 d):=by
     have:=jR (λF=>(F[x]?).map (·.1)) v;simpa[X]using this
    have ac:(Instr.keyThatStays (.int .i64 d) (.int .i64 d)).run c w=.ok (.int .i64 d) w:=by
     simp[Instr.keyThatStays,Instr.sameBits]
    have D:(execOp a.eval ⟨h,.mapUpdate t b y z,g,o,j,l⟩).run c w=.ok .skip {w with heap:=w.heap.setIfInBounds f (.map (p.modify x λA=>{A with key:=.int .i64 d,val:=.int .i64 u}) i)}:=by
     simp only[execOp,Instr.mapUpdate,run_underlying Q,R,S,U,L,wV hd,Instr.findKey,run_underlying hd,B,eC,dy,iG,fD,aa,uL,ac,P]
    rw[D];have s:=pR (M {w with heap:=w.heap.setIfInBounds f (.map (p.modify x λA=>{A with key:=.int .i64 d,val:=.int .i64 u}) i)}.heap ?_ bO ?_)
    .exact N e .un undef _ s.2 r (I.fg s.1) O ⟨O,O,O⟩
    .refine⟨_,_,by simp[K];exact⟨O,O⟩,?_⟩;rw[Y];apply eA;intro F;have A:=jR (λ(q':List (Value×Value))=>q'[F]?) v;simp only[eB]at A;grind [List.length,List.getElem?_eq_some_iff,Array.size]
    grind [Array.getElem?_setIfInBounds_ne]
  .exact q.elim
 .exact q.elim
def xZ(l:ae)(z:E)(a e:Nat)(f:l.length=a*e)(w:World)(h:jw w.heap z.bt z.off l)(d:a<=z.len):
 (Builtin.firstCells e a z.v).run c w=.ok (dh l) w:=by
 cases z with
 |nil=>
  have b:a=0:=by simp at d;omega
  have:l=[]:=cp.1 cC
  subst this
  simp[Builtin.firstCells,E.v,dh]
 |Ec g i sp=>
  have b:a=0:=by simp at d;omega
  have:l=[]:=cp.1 cC
  subst this
  simp[Builtin.firstCells,E.v,dh,b,loadCells,loadCellsFrom]
 |mk b o i g=>
  simp only[Builtin.firstCells,E.v,<-f]
  exact Vy l b o w h
def Ut(a:ae)(z:Array Value)(b:z.toList=a.map Ce.v)(n:Nat):Builtin.zeroCells z n=dh (nv a n):=by
 grind [Array.size,List.length,Array.length_toList,Ny,Go.Builtin.zeroCells]
def Wa(l r:ae):dh (l++r)=dh l++dh r:=by simp[dh]
def UU(J:yA c T)(D:mG n e a)(N:Bx n e m)(u:wr c T G n e m h g k (.call ⟨.builtin .append,i,p⟩)):Ki c n a m ⟨h,.call ⟨.builtin .append,i,p⟩,g,o,j,l⟩ k:=by
 intro d hw aJ ax R
 subst hw;simp only[wr]at u;split at u
 .rename_i b y t aw aA aH;split at u
  .rename_i B sh ay e2 aK az s z ht ao hx hy;split at u
   .rename_i f ac;cases C:(f.zi||Nat.beq f.bytes 0)
    .rw[C]at u;simp only[cZ]at C;obtain⟨A,ag,aE,ae,af⟩:=u;have e1:i=#[b,y]:=by grind [Array.toList_inj]
     have ai:p=#[t,aw]:=by grind [Array.toList_inj]
     subst e1;subst ai;have W:=(nu (J.CH ht)).1;have X:=(nu (J.CH ao)).1;obtain⟨zv,hz,au,aI⟩:=AO J ac C.1;obtain⟨ti,hb,aG,ad,_⟩:=K9 J ac C.1;have U:=λd=>nA J ac C.1 d;have Y:a.eval b=s.v:=D.eq hx O;have Z:a.eval y=z.v:=D.eq hy O;have H:(Builtin.lenOf z.v).run c d=.ok z.len d:=by cases z<;>simp[Builtin.lenOf,E.v,E.len]
     have ah:(f.sh.map Sh.zero).length=f.sh.length:=bO;rw[ah]at ag;simp only[ah]at ae af;have Q:∀r:World,r.heap=d.heap->(Builtin.firstCells f.sh.length z.len z.v).run c r=.ok (dh A) r:=λr ap=>
      xZ A z z.len f.sh.length ag r cC bY
     have an:=s.adV;by_cases F:s.len+z.len<=s.cap
     .obtain⟨S,q⟩:=ae F;cases s with
      |nil=>
       simp only[E.TJ,E.abj]at F S q;have M:z.len=0:=V;have:A=[]:=cp.1 cC;subst this;obtain⟨ab,q⟩:=pR q;refine mL (w:=d) (c:=.c (.s .nil)) (v:=.slice none 0 0) (b:=d) D N O (rY.cX d) q ?_ R;have K:a.eval b=.slice none 0 0:=Y;have I:=Q d O;simp only[execOp,resolve,eC,iG,dy,invoke,builtin,Builtin.append_,rc,eP,jg,K,Z];rw[M]at H I;simp[run_underlying W,run_underlying X,U,H,I]
      |Ec L o0 sp=>
       simp only[E.Yq,E.abi]at F S q;have M:z.len=0:=V;have:A=[]:=cp.1 cC;subst this;obtain⟨ab,q⟩:=pR q;refine mL (w:=d) (c:=.c (.s (.Ec L o0 sp))) (v:=.slice (some ⟨L,o0,some sp⟩) 0 0) (b:=d) D N O (rY.cX d) q ?_ R;have K:a.eval b=.slice (some ⟨L,o0,some sp⟩) 0 0:=Y;have I:=Q d O;simp only[execOp,resolve,eC,iG,dy,invoke,builtin,Builtin.append_,rc,eP,jg,K,Z];rw[M]at H I;simp[run_underlying W,run_underlying X,U,H,I,dh,storeCells]
      |mk I M L aa=>
       simp only[E.lU,E.Tk,E.nh,E.BV]at F S q;obtain⟨ab,q⟩:=pR q;refine mL (w:=d) (c:=.c (.s (.mk I M (L+z.len) aa))) (v:=.slice (some ⟨I,M,none⟩) (L+z.len) aa) (b:=d.setCells I (M+L*f.sh.length) (A.map Ce.v)) D (by rw[od];exact N.fg ab) O (vx _ _ _ _) (by rw[od];exact q) ?_ R;have aj:=Jq (e:=c) A I (M+L*f.sh.length) d S;have K:a.eval b=.slice (some ⟨I,M,none⟩) L aa:=Y;simp only[execOp,resolve,eC,iG,dy,invoke,builtin,Builtin.append_,rc,eP,jg,K,Z];simp[run_underlying W,run_underlying X,U,H,F,Q d O,Ap,dh,aj]
     .obtain⟨S,old,al,aF,q⟩:=af V;have aB:=growslice_fits (need:=s.len+z.len) (old:=s.cap) (bytes:=f.bytes) V S;have M:f.bytes≠0:=λB=>by rw[B]at C;simp at C
      have am:∀r:World,r.heap=d.heap->(Builtin.firstCells f.sh.length s.len s.v).run c r=.ok (dh old) r:=λr ap=>
       xZ old s s.len f.sh.length al r cC bY
      let I:Question:=.appendCap (s.len+z.len) s.cap B;let nc:=I.cut (d.tape d.drawn I);let K:World:={d with drawn:=d.drawn+1};have aj:s.len+z.len<=nc:=Nat.le_add_right _ _;refine mL (w:=d) (c:=.c (.s (.mk d.heap.size 0 (s.len+z.len) nc))) (v:=.slice (some ⟨d.heap.size,0,none⟩) (s.len+z.len) nc)
       (b:={K with heap:=d.heap.push (.cells (dh (old++A++nv (f.sh.map Sh.zero) (nc -(s.len+z.len)))) B)}) D (N.push _) O ⟨O,O,O⟩ (pR (q nc aj)).2 ?_ R
      have av:zv.cells.toList=(f.sh.map Sh.zero).map Ce.v:=by simp[hz]
      have aq:=Ut (f.sh.map Sh.zero) zv.cells av (nc -(s.len+z.len));have aC:I.forced=false:=rfl;have aD:¬(Builtin.nextslicecap (s.len+z.len) s.cap*f.bytes>2^48):=by
       grind
      simp only[execOp,resolve,eC,iG,dy,invoke,builtin,Builtin.append_,rc,eP,jg,Y,Z];have L:=am K O;have aa:=Q K O;rw[an]at L⊢;simp only[th,wS,kd,eC,run_underlying W,run_underlying X,dy,U,iG,H,rS,mD,F,ad,hb,false_or];simp only[M,and_false,mD,eC,dy,ad,aa1,vW,newRow];simp[Wa];rw[hb,aV V,aV (show¬(Question.appendCap (s.len+z.len) s.cap B).forced=true by simp[Question.forced])];have ak:(Builtin.firstCells f.sh.length s.len (Value.slice s.de s.len s.cap)).run c d.drew=.ok (dh old) d.drew:=L;have ab:(Builtin.firstCells f.sh.length z.len z.v).run c d.drew=.ok (dh A) d.drew:=aa;simp only[ad,dy,ak,ab,au];have ar:Builtin.zeroCells zv.cells ((Question.appendCap (s.len+z.len) s.cap B).cut (d.tape d.drawn (Question.appendCap (s.len+z.len) s.cap B)) -(s.len+z.len))=dh (nv (f.sh.map Sh.zero) (nc -(s.len+z.len))):=aq;rw[ar];rfl
    grind
   .exact u.elim
  .exact u.elim
 .exact u.elim
end
section
variable{b:Program}{T:TT}{G:ad}
variable{n:Nat}{c:Fr}{a:Act}{m:D}{k:Fr->SV->D->Prop}{d:Option Tmp}{e:TypeId}{h:String}{f:Array Edge}{g:Option (Nat×Bool)}
def Y5(K:yA b T)(t:mG n c a)(S:Bx n c m){r:Array Operand}{I:Array TypeId}(j:wr b T G n c m d e k (.call ⟨.builtin .copy,r,I⟩)):Ki b n a m ⟨d,.call ⟨.builtin .copy,r,I⟩,e,h,f,g⟩ k:=by
 intro i hw ai ae U
 subst hw;simp only[wr]at j;split at j
 .rename_i q N ad aj ah ab;split at j
  .rename_i ag sh af s z ht hx hy;split at j
   .rename_i H aa;cases L:H.zi
    .rw[L]at j;obtain⟨o,V,W,X,u⟩:=j;obtain⟨Y,u⟩:=pR u;have R:r=#[q,N]:=by grind [Array.toList_inj]
     subst R;have B:I[0]? =some ad:=by rw[<-Array.getElem?_toList,ab];rfl
     have C:=(nu (K.CH ht)).1;have A:=λi=>nA K aa L i;have D:=t.eq hx O;have F:a.eval N=z.v:=t.eq hy O;have y:(Builtin.lenOf z.v).run b i=.ok z.len i:=by cases z<;>simp[Builtin.lenOf,E.v,E.len]
     have l:(Builtin.firstCells H.sh.length (Nat.min z.len s.len) z.v).run b i=.ok (dh o) i:=
      xZ o z _ H.sh.length V i W (Nat.min_le_left _ _)
     refine mL (w:=i) (c:=.c (.i (Nat.min z.len s.len:Nat))) (v:=.int .i64 (Nat.min z.len s.len:Nat)) (b:=i.setCells s.bt s.off (o.map Ce.v)) t (by rw[od];exact S.fg Y) O (vx _ _ _ _) (by rw[od];exact u) ?_ U;cases s with
     |nil=>
      have Q:Nat.min z.len E.nil.len=0:=bO;have:o=[]:=cp.1 cC;subst this;have p:a.eval q=.slice none 0 0:=D;simp only[E.TJ]at l⊢;simp only[execOp,resolve,eC,iG,dy,invoke,builtin,Builtin.copy_,rc,eP,jg,p,F,B];simp only[th,wS,kd,eC,run_underlying C,dy,y,A,l,iG];rfl
     |Ec J M sp=>
      have Q:Nat.min z.len (E.Ec J M sp).len=0:=bO;have:o=[]:=cp.1 cC;subst this;have p:a.eval q=.slice (some ⟨J,M,some sp⟩) 0 0:=D;simp only[E.Yq]at l⊢;simp only[execOp,resolve,eC,iG,dy,invoke,builtin,Builtin.copy_,rc,eP,jg,p,F,B];simp only[th,wS,kd,eC,run_underlying C,dy,y,A,l,iG,dh];rfl
     |mk J M ac Q=>
      have Z:=Jq (e:=b) o J M i X;have p:a.eval q=.slice (some ⟨J,M,none⟩) ac Q:=D;simp only[E.lU]at l⊢;simp only[execOp,resolve,eC,iG,dy,invoke,builtin,Builtin.copy_,rc,eP,jg,p,F,B];simp only[th,wS,kd,eC,run_underlying C,dy,y,A,l,iG,dh,Z];rfl
    grind
   .exact j.elim
  .exact j.elim
 .exact j.elim
def Wc(o:yA b T)(u:GOK b G)(l:mG n c a)(j:Bx n c m)(p:Oper)(i:wr b T G n c m p.dst p.type k p.op):Ki b n a m p k:=by
 obtain⟨d,v,e,h,f,g⟩:=p;cases v with
 |alloc t=>exact WK o l j i
 |box t x=>exact Z4 l j i
 |buildSlice t q r=>exact Oo o l j i
 |store t x y=>exact WO o l j i
 |makeSlice t x y=>exact PM o l j i
 |makeFunc r first q=>exact RB l j i
 |makeMap t w=>exact Tt l j i
 |lookup t x y q=>exact UW o l j i
 |mapUpdate t x y z=>exact PN o l j i
 |call r=>
  obtain⟨s,t,x⟩:=r;cases s with
  |builtin q=>
   cases q with
   |append=>exact UU o l j i
   |copy=>exact Y5 o l j i
   |_=>exact i.elim
  |value q=>exact Y4 u l j i
  |invoke w q=>exact i.elim
 |_=>exact i.elim
end
section
variable{b:Array Bool}{j:Nat}{L:List (Nat×(World->Prop))}{a:Act}{w:World}
variable{P:Program}{c:Array Oper}{Q:Exit->Act->World->Prop}{d:Region.Mode}{e:Nat->Nat->Bool}
def Al(P:Program)(d:Region.Mode)(c:Array Oper)(Q:Exit->Act->World->Prop)(e:Nat->Nat->Bool)(L:List (Nat×(World->Prop))):Nat->Array Bool->Act->World->Prop
 |0,b,a,w=>Region.ready d c b=[]/\Q .normal a w
 |h+1,b,a,w=>
  (Region.ready d c b=[]->Q .normal a w)/\
  ∀i∈Region.ready d c b,wpOp P c Q i (λg f=>(∀x∈L,e i x.1=false->x.2 w->x.2 f)/\Al P d c Q e L h (b.setIfInBounds i true) g f) a w
def Rq{L:List (Nat×(World->Prop))}:∀(f:Nat)(b:Array Bool)(a:Act)(w:World),Al P d c Q e L f b a w->wpAny P d c Q f b a w
 |0,_,_,_,h=>h
 |f+1,_,_,_,h=>⟨h.1,λk j=>wpOp_mono (λg l i=>Rq f _ g l i.2) (h.2 k j)⟩
theorem IL{L g:List (Nat×(World->Prop))}(j:∀x∈g,x∈L):∀(f:Nat)(b:Array Bool)(a:Act)(w:World),Al P d c Q e L f b a w->Al P d c Q e g f b a w
 |0,_,_,_,h=>h
 |f+1,_,_,_,h=>⟨h.1,λn l=>wpOp_mono (λk o i=>⟨λx m=>i.1 x (j x m),IL j f _ k o i.2⟩) (h.2 n l)⟩
def IP(e:Nat->Nat->Bool)(b:Array Bool):Prop:=∀i,b.getD i false=true->∀r,e i r=true->b.getD r false=true
def aa7(d:Region.Mode)(c:Array Oper)(e:Nat->Nat->Bool):Prop:=
 ∀(i r:Nat)(o:Oper),c[i]? =some o->e i r=true->∃a∈o.after,Region.binds d a=true/\(a.on=r\/e a.on r=true)
theorem Ca(k:aa7 d c e)(l:IP e b)(n:j∈Region.ready d c b){r:Nat}(p:e j r=true):b.getD r false=true:=by
 obtain⟨_,q,o,g⟩:=mem_ready.1 n;obtain⟨f,m,i,h⟩:=k j r q o p;have a:=g f m i;rcases h with rfl|h
 .exact a
 .exact l _ a r h
theorem IP.eE(k:aa7 d c e)(f:IP e b)(l:j∈Region.ready d c b):IP e (b.setIfInBounds j true):=by
 intro i a r h;by_cases g:j=i
 .grind [Go.getD_set_true,Ca]
 .rw[getD_set_ne false g]at a;exact getD_set_true (f i a r h)
def LX{i:Nat}{g:Oper}{v:Value}{S:World->Prop}(T:aa7 d c e)(z:c[i]? =some g)(C:∀(j:Nat)(D:Oper) m l,c[j]? =some D->D.op≠.select m l)
 (F:∀f a w,Q (.panic f) (a.put g.dst v) w->Q (.panic f) a w):
 ∀(n:Nat)(b:Array Bool)(a:Act)(w:World),IP e b->
  (∀j h,c[j]? =some h->j≠i->b.getD j true=false->(∀f∈h.after,Region.binds d f=true->f.on≠i)->g.apart c h=true)->
  i∈Region.ready d c b->YieldsIf P c S g v a->S w->
  Al P d c Q e ((i,S)::L) n (b.setIfInBounds i true) (a.put g.dst v) w->Al P d c Q e L (n+1) b a w:=by
 intro n
 induction n with
 |zero=>
  intro b a w _ _ M u x H
  refine⟨λr=>cC,λj q=>?_⟩
  by_cases o:j=i
  .subst o;exact u.wpOp z x ⟨λk _ _ r=>r,H⟩
  .have:=ready_mono q o
   rw[H.1]at this
   cases this
 |succ n Z=>
  intro b a w V y M u x H
  refine⟨λr=>cC,λj q=>?_⟩
  by_cases o:j=i
  .grind [Go.YieldsIf.wpOp,IL,List.mem_cons_of_mem]
  .have E:=H.2 j (ready_mono q o)
   obtain⟨B,h,s,O⟩:=mem_ready.1 q
   have t:b.getD i false=false:=by
    grind [Go.mem_ready,Nat.lt_or_ge,Array.size,Array.getElem?_eq_none]
   have K:∀f∈h.after,Region.binds d f=true->f.on≠i:=λf W R X=>by
    grind
   have U:e j i=false:=by
    grind [Ca]
   have N:=wpOp_putIf s (y j h s o B K) (λm l=>C i g m l z) (λm l=>C j h m l s) F u E
   have Y:∀k p,c[k]? =some p->k≠i->(b.setIfInBounds j true).getD k true=false->
    (∀f∈p.after,Region.binds d f=true->f.on≠i)->g.apart c p=true:=λk p G I t J=>by
    refine y k p G I ?_ J
    by_cases A:j=k
    .subst A;exact B
    .rw[getD_set_ne true A]at t;exact t
   grind [Go.wpOp_mono,List.mem_cons_of_mem,Array.setIfInBounds,IP.eE,Go.ready_mono,List.mem_cons_self,Array.setIfInBounds_comm]
def XI{f:Nat}(k:Region.ready d c b≠[])
 (j:∀i∈Region.ready d c b,wpOp P c Q i (λh g=>(∀x∈L,e i x.1=false->x.2 w->x.2 g)/\Al P d c Q e L f (b.setIfInBounds i true) h g) a w):
 Al P d c Q e L (f+1) b a w:=by constructor<;>grind
theorem Wb(f:Region.ready d c b=[])(h:Q .normal a w):
 ∀g,Al P d c Q e L g b a w
 |0=>⟨f,h⟩
 |_+1=>⟨λ_=>h,by rw[f];simp⟩
end
section
variable{M:ad}{a:Act}{d:Option Nat}{o:Oper}{m:D}
variable{b:Program}{T:TT}{G:ad}{n:Nat}
def P6:Op->Bool
 | .alloc _| .box ..| .buildSlice ..| .store ..| .makeSlice ..| .makeMap ..| .lookup ..| .mapUpdate ..| .makeFunc ..=>true
 | .call ⟨.builtin .append,_,_⟩| .call ⟨.builtin .copy,_,_⟩=>true
 | .call ⟨.builtin _,_,_⟩=>false
 | .call _=>true
 |_=>false
def wK(n:Nat):Option Nat->Bool
 |none=>true
 |some d=>Nat.blt d n
def P1(a:ar)(j:Nat):Option Nat:=
 match Mx a j with
 |some o=>o.dst
 |none=>none
def gd(e:ar)(a:Fr)(g:Option (Nat×Bool))(Ux b:Fr->Prop):Prop:=
 match g with
 |none=>Ux a
 |some (j,c)=>match P1 e j with
  |none=>False
  |some d=>match ku a d with
   | .tt=>bif c then Ux a else b a
   | .ff=>bif c then b a else Ux a
   | .un=>b a
   | .c (.t x)=>(x=true->bif c then Ux ((d,.tt)::a)else b ((d,.tt)::a))/\(x=false->bif c then b ((d,.ff)::a)else Ux ((d,.ff)::a))
   |_=>False
def wR(b:Program)(T:TT)(G:ad)(n:Nat)(c:ar):ar->Fr->D->(Fr->D->Prop)->Prop
 |[],a,m,k=>k a m
 |o::mN,a,m,k=>
  bif wK n o.dst then
   gd c a o.guard
    (λa=>bif P6 o.op then wr b T G n a m o.dst o.type (λd x e=>wR b T G n c mN (yF d o.dst x) e k) o.op
     else rd T a m (λx=>wR b T G n c mN (yF a o.dst x) m k) o.op)
    (λa=>wR b T G n c mN (yF a o.dst .un) m k)
  else False
def Ev:ar->ad
 |[]=>[]
 |o::r=>match o.dst with
  |some d=>d::Ev r
  |none=>Ev r
def ph(M:ad)(a b:Act):Prop:=∀t,t∉M->b.tmps.getD t undef=a.tmps.getD t undef
def ph.cX(M:ad)(a:Act):ph M a a:=λ_ _=>O
def ph.N{b c:Act}(h:ph M a b)(k:ph M b c):ph M a c:=λt d=>(k t d).trans (h t d)
def ph.cE(hd:∀t,d=some t->t∈M){v:Value}:ph M a (a.put d v):=by
 cases d with
 |none=>exact ph.cX M a
 |some d=>
  intro t c;have b:d≠t:=cC;simp[Act.put,Ws b]
theorem Qi{d:Nat}(hd:o.dst=some d):∀(a:ar),o∈a->d∈Ev a:=by
 intro a;induction a with
 |nil=>intro h;cases h
 |cons x r c=>
  intro h;rcases aZ.1 h with b|b
  .grind [Ev,List.mem_cons_self]
  .grind [Ev,List.mem_cons_of_mem]
def I6(h:wK n d=true):∀t,d=some t->t<n:=by
 rintro t rfl;have:Nat.blt t n=true:=h;simpa[Nat.blt,Nat.succ_le_iff]using this
def Nx(g:Array Oper){i:Fr}(j:mG n i a)(u:Bx n i m)(o:Oper){Ux s:Fr->Prop}(h:gd g.toList i o.guard Ux s):
 (Region.wanted o (yielded g a.tmps)=true/\∃b,Ux b/\mG n b a/\Bx n b m)\/
 (Region.wanted o (yielded g a.tmps)=false/\∃b,s b/\mG n b a/\Bx n b m):=by
 unfold gd at h
 cases k:o.guard with
 |none=>
  rw[k]at h
  exact bz ⟨by simp[Region.wanted,k],i,h,j,u⟩
 |some v=>
  obtain⟨q,z⟩:=v
  rw[k]at h
  simp only at h
  split at h
  .exact h.elim
  .rename_i d hd
   have w:(g[q]?).bind (·.dst)=some d:=by
    grind [P1,uh]
   have b:=j.br d
   have p:∀c:Bool,a.tmps.getD d undef=.bool c->yielded g a.tmps q=some c:=by
    intro c e;have:a.tmps[d]? =some (.bool c):=by
     cases r:a.tmps[d]? with
     |none=>rw[DX,r]at e;simp[undef]at e
     |some y=>rw[DX,r]at e;simp at e;rw[e]
    grind [Go.yielded]
   split at h
   .rename_i f
    rw[f]at b
    have l:=p true b
    grind [Go.Region.wanted]
   .rename_i f
    rw[f]at b
    have l:=p false b
    grind [Go.Region.wanted]
   .rename_i f
    rw[f]at b
    have l:yielded g a.tmps q=none:=by
     have t:a.tmps.getD d undef=undef:=b;rw[DX]at t;grind [Go.yielded,Go.undef]
    grind [Go.Region.wanted]
   .rename_i x f
    rw[f]at b
    have l:=p x b
    have y:∀c:Bool,x=c->mG n ((d,if c then SV.tt else SV.ff)::i) a:=by
     rintro c rfl;refine⟨j.aQ,j.nP,λt=>?_⟩;simp only[ku];cases e:Nat.beq d t
     .exact j.br t
     .have:=gG e;subst this;cases x<;>exact b
    grind [Go.Region.wanted,Bx.jA]
   .exact h.elim
def aeK(g:yA b T){c:Fr}(f:mG n c a)(e:Bx n c m){k:SV->Prop}(h:rd T c m k o.op){w:World}(p:w.heap=m)
 {d:Act->World->Prop}{Q:Exit->Act->World->Prop}(j:∀x v,k x->x.Is v->d (a.put o.dst v) w):o.wp b a w d Q:=by
 obtain⟨x,v,i,q,l⟩:=Qz (P:=b) g f e o h
 unfold Oper.wp
 rw[l w (λr _=>by rw[p])]
 exact j x v i q
def zG(p:yA b T)(t:GOK b G)(c:Array Oper){Q:Exit->Act->World->Prop}{J:World}{F:Act}:
 ∀(mN:ar)(e:Fr)(m:D)(k:Fr->D->Prop)(a:Act)(w:World),(∀o∈mN,o∈c.toList)->wR b T G n c.toList mN e m k->mG n e a->Bx n e m->w.heap=m->rY J w->
  ph (Ev c.toList) F a->
  (∀i f g,k i g.heap->mG n i f->Bx n i g.heap->rY J g->ph (Ev c.toList) F f->Q .normal f g)->wpList b c Q mN a w
 |[],e,m,k,a,w,_,h,y,v,f,s,q,r=>by
  subst f;exact r e a w h y v s q
 |o::mN,e,m,k,a,w,M,h,y,v,f,s,q,r=>by
  simp only[wR]at h;cases hd:wK n o.dst
  .grind
  .rw[hd]at h;simp only[pG]at h;have z:=I6 hd;have A:∀d,o.dst=some d->d∈Ev c.toList:=by grind [Qi,List.mem_cons_self]
   have B:=λS P=>M S (aX _ P);unfold wpList;rcases Nx c y v o h with⟨H,i,u,l,j⟩|⟨H,i,N,l,j⟩
   .rw[a8 H];refine .inl ?_;cases I:P6 o.op
    .simp only[I,Am]at u;refine aeK p l j u f λV U E C=>?_;exact zG p t c mN _ m k _ w B E (l.cE C z) j.cE f s (q.N (ph.cE A)) r
    .simp only[I,pG]at u;refine Wc p t l j o u w f _ _ λW V U g E L K C R=>?_;exact zG p t c mN _ _ k _ g B E (L.cE C z) K.cE O (s.N R) (q.N (ph.cE A)) r
   .rw[aV cC];exact zG p t c mN _ m k _ w B N (l.cE (x:=.un) O z) j.cE f s (q.N (ph.cE A)) r
end
section
variable{P:Program}{T:TT}{G:ad}{n:Nat}
def yL:ad->Nat->Nat
 |[],_=>0
 |x::_,0=>x
 |_::r,n+1=>yL r n
def oQ:aga->Nat
 |[]=>0
 |e::r=>bif Region.binds .any e then 2^e.on|||oQ r else oQ r
def sG(a:ad):aga->Nat
 |[]=>0
 |e::r=>bif Region.binds .any e then(2^e.on|||yL a e.on)|||sG a r else sG a r
def oI(a:ad):ar->ad->ad->Bool
 |[],[],[]=>true
 |o::d,p::e,b::c=>Nat.beq p (oQ o.after.toList)&&Nat.beq b (sG a o.after.toList)&&oI a d e c
 |_,_,_=>false
def Yy:Op->aE
 | .alloc _| .ready _| .waits _=>[]
 | .move x| .assign x| .box _ x| .load _ x| .nilCheck x| .unOp _ _ x| .convert _ _ x| .sliceToArrayPointer _ x| .makeInterface _ x
 | .makeChan _ x| .fieldAddr _ x _| .field _ x _| .range _ x| .next x _| .entry x| .typeAssert x _ _ _| .extract x _| .panic x| .recv _ x _=>[x]
 | .pick c a b=>[c,a,b]
 | .build _ b| .buildSlice _ _ b=>b.toList.map (·.2)
 | .store _ a v| .binOp _ _ a v _| .makeSlice _ a v| .indexAddr _ a v| .index _ a v| .lookup _ a v _| .mapEntry _ a v| .send a v=>[a,v]
 | .makeFunc _ first a=>first.toList++a.toList
 | .makeMap _ r=>r.toList
 | .slice _ x l h m=>[x]++l.toList++h.toList++m.toList
 | .mapUpdate _ m k v| .entryStore _ m k v| .insert _ m k v=>[m,k,v]
 | .call ⟨.value f,a,_⟩| .go ⟨.value f,a,_⟩| .defer ⟨.value f,a,_⟩=>f::a.toList
 | .call ⟨.invoke f _,a,_⟩| .go ⟨.invoke f _,a,_⟩| .defer ⟨.invoke f _,a,_⟩=>f::a.toList
 | .call ⟨.builtin _,a,_⟩| .go ⟨.builtin _,a,_⟩| .defer ⟨.builtin _,a,_⟩=>a.toList
 | .select a _=>(a.flatMap λc=>#[c.chan]++c.send.toArray).toList
def aaC(a:Op):a.operands.toList=Yy a:=by
 cases a<;>try (simp[Op.operands,Yy];done)
 all_goals
  rename_i c
  obtain⟨b,d,e⟩:=c
  cases b<;>simp[Op.operands,Yy,Call.operands]
def Oi(d:Nat):aE->Bool
 |[]=>false
 | .tmp t::r=>Nat.beq t d||Oi d r
 |_::r=>Oi d r
def TL(a:ar)(o:Oper)(d:Nat):Bool:=
 Oi d (Yy o.op)||(match o.guard with
  |some (g,_)=>(match P1 a g with|some t=>Nat.beq t d|none=>false)
  |none=>false)
def Ti(a:ar)(x y:Oper):Bool:=
 (match x.dst with
  |some d=>!TL a y d&&(match y.dst with|some e=>!Nat.beq d e|none=>true)
  |none=>true)&&
 (match y.dst with
  |some d=>!TL a x d
  |none=>true)
def adR:Op->Bool
 | .select ..=>true
 |_=>false
def Ep(b:ar)(i:Nat)(a:Nat)(o:Oper):Nat->ar->ad->Bool
 |_,[],_=>true
 |_,_,[]=>true
 |j,x::c,p::d=>(Nat.beq j i||Nat.testBit p i||Nat.testBit a j||Ti b o x)&&Ep b i a o (j+1) c d
def Kp(a:ar)(b:ad):Nat->ar->ad->Bool
 |_,[],_=>true
 |_,_,[]=>true
 |i,o::e,c::d=>!adR o.op&&(P6 o.op||Ep a i c o 0 a b)&&Kp a b (i+1) e d
def nT(done p i:Nat):Bool:=!(Nat.testBit done i)&&Nat.beq (p&&&done) p
def BA(done:Nat):Nat->ar->ad->Option Nat
 |_,[],_=>none
 |_,_,[]=>none
 |i,o::a,p::b=>bif nT done p i&&!(P6 o.op)then some i else BA done (i+1) a b
def uj(done:Nat):Nat->ar->ad->ad
 |_,[],_=>[]
 |_,_,[]=>[]
 |i,_::a,p::b=>bif nT done p i then i::uj done (i+1) a b else uj done (i+1) a b
def QK(m a:D):ao->Prop->Prop
 |[],k=>k
 |(b,o)::r,k=>aS a b o=aS m b o/\QK m a r k
def II(a:Nat)(m b:D):List (Nat×ao)->Prop->Prop
 |[],k=>k
 |(r,c)::L,k=>bif Nat.testBit a r then II a m b L k else QK m b c (II a m b L k)
def Th:ad->(Nat->Prop)->Prop
 |[],_=>True
 |[i],f=>f i
 |i::r,f=>f i/\Th r f
def td(P:Program)(T:TT)(G:ad)(n:Nat)(b:ar)(c d:ad):Nat->Nat->Fr->D->List (Nat×ao)->(Fr->D->Prop)->Prop
 |0,done,a,m,_,k=>match uj done 0 b c with
  |[]=>k a m
  |_=>False
 |e+1,done,a,m,L,k=>
  match BA done 0 b c with
  |some i=>match Mx b i with
   |some o=>bif wK n o.dst then
    gd b a o.guard
     (λa=>rd T a m (λx=>td P T G n b c d e (done|||2^i) (yF a o.dst x) m ((i,ZE T a o.op)::L) k) o.op)
     (λa=>td P T G n b c d e (done|||2^i) (yF a o.dst .un) m L k)
    else False
   |none=>False
  |none=>match uj done 0 b c with
   |[]=>k a m
   |h=>Th h λi=>match Mx b i with
    |some o=>bif wK n o.dst then
     gd b a o.guard
      (λa=>wr P T G n a m o.dst o.type (λg x f=>II (yL d i) m f L (td P T G n b c d e (done|||2^i) (yF g o.dst x) f L k)) o.op)
      (λa=>td P T G n b c d e (done|||2^i) (yF a o.dst .un) m L k)
     else False
    |none=>False
theorem rB(r:Nat):∀(a:aga),Nat.testBit (oQ a) r=true<->∃e∈a,Region.binds .any e=true/\e.on=r
 |[]=>by simp[oQ]
 |e::a=>by
  have b:=rB r a;grind [oQ,Go.Region.binds]
theorem C6(b:ad)(r:Nat):∀(a:aga),Nat.testBit (sG b a) r=true->∃e∈a,Region.binds .any e=true/\(e.on=r\/Nat.testBit (yL b e.on) r=true)
 |[],h=>by simp[sG]at h
 |e::a,h=>by
  have c:=C6 b r a;grind [sG,Go.Region.binds,List.mem_cons_of_mem,List.mem_cons_self]
def pt(c:ad):∀{d:ar}{e a:ad},oI c d e a=true->∀(i:Nat)(o:Oper),d[i]? =some o->
 e[i]? =some (oQ o.after.toList)/\yL a i=sG c o.after.toList/\∃b,a[i]? =some b
 |[],[],[],_,i,o,h=>by simp at h
 |x::d,p::e,b::a,h,i,o,f=>by
  simp only[oI,fe]at h;obtain⟨⟨g,j⟩,k⟩:=h;cases i with
  |zero=>
   simp at f;subst f;exact⟨by simp[gG g],by simp[yL,gG j],b,bO⟩
  |succ i=>
   have:=pt c k i o cC;simpa[yL]using this
 |[],[],_::_,h,_,_,_=>by simp[oI]at h
 |[],_::_,_,h,_,_,_=>by simp[oI]at h
 |_::_,[],_,h,_,_,_=>by simp[oI]at h
 |_::_,_::_,[],h,_,_,_=>by simp[oI]at h
def NR(d:ad):∀{a:ar}{c b:ad},oI d a c b=true->c.length=a.length/\b.length=a.length
 |[],[],[],_=>⟨O,O⟩
 |x::a,p::c,e::b,h=>by
  simp only[oI,fe]at h;have:=NR d h.2;simp[this.1,this.2]
 |[],[],_::_,h=>by simp[oI]at h
 |[],_::_,_,h=>by simp[oI]at h
 |_::_,[],_,h=>by simp[oI]at h
 |_::_,_::_,[],h=>by simp[oI]at h
end
section
variable{N a:Nat}{b:Array Bool}
variable{P:Program}{T:TT}{G:ad}{n:Nat}
def yr{d:Nat}:∀{a:aE},Oi d a=false->d∉(a.filterMap λ| .tmp t=>some t|_=>none)
 |[],_=>bO
 |x::r,h=>by
  cases x with
  |tmp t=>
   simp only[Oi,cZ]at h;have b:=yr h.2;have:t≠d:=λe=>by subst e;simp at h
   simp only[List.filterMap_cons,aZ,CL];exact⟨λe=>this e.symm,b⟩
  |const v=>simpa using yr (a:=r) (by simpa[Oi]using h)
  |global g=>simpa using yr (a:=r) (by simpa[Oi]using h)
  |func f=>simpa using yr (a:=r) (by simpa[Oi]using h)
def aaj(a:Array Oper)(g:Nat):P1 a.toList g=(a[g]?).bind (·.dst):=by
 grind [P1,uh]
theorem NP(b:Array Oper){o:Oper}{d:Nat}(h:TL b.toList o d=false):d∉o.looksAt b:=by
 simp only[TL,cZ]at h;unfold Oper.looksAt;rw[aaC,bT,CL];refine⟨yr h.1,?_⟩;have a:=h.2;cases c:o.guard with
 |none=>simp
 |some p=>
  obtain⟨g,f⟩:=p;rw[c]at a;simp only at a⊢;rw[aaj]at a;cases hd:(b[g]?).bind (·.dst)with
  |none=>simp
  |some t=>
   rw[hd]at a;simp only at a;simp only[Option.toList_some,Gz];intro e;subst e;simp at a
theorem UM(c:Array Oper){x y:Oper}(h:Ti c.toList x y=true):x.apart c y=true:=by
 simp only[Ti,fe]at h;obtain⟨a,j⟩:=h;unfold Oper.apart;simp only[fe];constructor
 .cases e:x.dst with
  |none=>rfl
  |some g=>
   rw[e]at a;simp only[fe,yw]at a⊢;refine⟨?_,?_⟩
   .grind [NP]
   .have b:=a.2;cases f:y.dst with
    |none=>simp
    |some i=>
     rw[f]at b;simp only[yw]at b;simp only[Uu,ne_eq,Wo];intro d;subst d;simp at b
 .grind [Bool.not_eq_true',NP]
def Io(f:ar)(a d:Nat)(o:Oper):∀{e:ar}{g:ad}{b:Nat},Ep f a d o b e g=true->∀(j:Nat)(x:Oper)(p:Nat),e[j]? =some x->g[j]? =some p->
 b+j=a\/Nat.testBit p a=true\/Nat.testBit d (b+j)=true\/Ti f o x=true
 |[],_,_,_,j,x,p,h,_=>by simp at h
 |_::_,[],_,_,j,x,p,_,h=>by simp at h
 |y::e,q::g,b,h,j,x,p,k,i=>by
  simp only[Ep,fe,eK]at h;obtain⟨c,m⟩:=h;cases j with
  |zero=>
   simp at k i;subst k;subst i;rcases c with((c|c)|c)|c
   .grind [Nat.eq_of_beq_eq_true]
   .grind
   .grind
   .grind
  |succ j=>
   have:=Io f a d o m j x p cC cC;have l:b+1+j=b+(j+1):=V;rw[l]at this;exact this
def Bv(d:ar)(g:ad):∀{f:ar}{e:ad}{c:Nat},Kp d g c f e=true->∀(a:Nat)(o:Oper)(b:Nat),f[a]? =some o->e[a]? =some b->
 adR o.op=false/\(P6 o.op=true\/Ep d (c+a) b o 0 d g=true)
 |[],_,_,_,a,o,b,h,_=>by simp at h
 |_::_,[],_,_,a,o,b,_,h=>by simp at h
 |y::f,q::e,c,h,a,o,b,j,i=>by
  simp only[Kp,fe,eK,yw]at h;obtain⟨⟨l,m⟩,n⟩:=h;cases a with
  |zero=>simp at j i;subst j;subst i;exact⟨l,sp m⟩
  |succ a=>
   have:=Bv d g n a o b cC cC;have k:c+1+a=c+(a+1):=V;rw[k]at this;exact this
theorem NO(p d:Nat):Nat.beq (p&&&d) p=true<->∀r,Nat.testBit p r=true->Nat.testBit d r=true:=by
 constructor
 .grind [Nat.eq_of_beq_eq_true]
 .intro h;have:p&&&d=p:=by
   apply Nat.eq_of_testBit_eq;grind [Nat.testBit]
  rw[this];simp
@[grind cases] structure C9 (N done:Nat) (listed:Array Bool):Prop where
 aQ:listed.size=N
 bit:∀i,listed.getD i false=Nat.testBit done i
theorem C9.un{done:Nat}(h:C9 N done b)(c:a<N):b.getD a true=Nat.testBit done a:=by
 grind [C9.bit,Array.size,C9.aQ]
def C9.eE{done:Nat}(h:C9 N done b)(d:a<N):C9 N (done|||2^a) (b.setIfInBounds a true):=by
 refine⟨by simp[h.aQ],λj=>?_⟩;have c:a<b.size:=by grind [C9.aQ]
 rw[Nat.testBit_or,Nat.testBit_two_pow];by_cases e:a=j
 .subst e;simp[c]
 .rw[getD_set_ne false e,h.bit j];simp[e]
theorem MD(c:Array Oper){h e i:ad}(f:oI e c.toList h i=true){done:Nat}(l:C9 c.size done b)(a:Nat):
 a∈Region.ready .any c b<->∃o p,c[a]? =some o/\h[a]? =some p/\nT done p a=true:=by
 rw[mem_ready]
 constructor
 .rintro⟨k,o,d,m⟩
  have j:a<c.size:=(gW.1 d).1
  have g:=(pt e f a o cC).1
  refine⟨o,_,d,g,?_⟩
  grind [nT,Bool.not_eq_true',C9.un,NO,rB,C9.bit]
 .rintro⟨o,p,d,g,m⟩
  have j:a<c.size:=(gW.1 d).1
  have k:=(pt e f a o cC).1
  grind [Option.some.injEq,nT,Bool.not_eq_true',C9.un,C9.bit,NO,rB]
theorem Qj(done:Nat):∀{c:ar}{d:ad}{b a:Nat},a∈uj done b c d<->∃j o p,a=b+j/\c[j]? =some o/\d[j]? =some p/\nT done p a=true
 |[],_,_,_=>by simp[uj]
 |_::_,[],_,_=>by simp[uj]
 |x::c,q::d,b,a=>by
  have h:=Qj done (c:=c) (d:=d) (b:=b+1) (a:=a);have k:(∃j o p,a=b+j/\(x::c)[j]? =some o/\(q::d)[j]? =some p/\nT done p a=true)<->
   ((a=b/\nT done q b=true)\/∃j o p,a=b+1+j/\c[j]? =some o/\d[j]? =some p/\nT done p a=true):=by
   constructor
   .grind
   .rintro(⟨rfl,e⟩|⟨j,o,p,rfl,f,g,e⟩)
    .exact⟨0,x,q,O,bO,bO,e⟩
    .exact⟨j+1,o,p,V,sp f,sp g,e⟩
  grind [uj,nT]
def NF(done:Nat):∀{c:ar}{d:ad}{b a:Nat},BA done b c d=some a->∃j o p,a=b+j/\c[j]? =some o/\d[j]? =some p/\nT done p a=true/\P6 o.op=false
 |[],_,_,_,h=>by simp[BA]at h
 |_::_,[],_,_,h=>by simp[BA]at h
 |x::c,q::d,b,a,h=>by
  simp only[BA]at h;cases e:(nT done q b&&!(P6 x.op))
  .rw[e]at h;obtain⟨j,o,p,rfl,f,g,i,k⟩:=NF done h;grind
  .rw[e]at h;simp at h;subst h;grind [Bool.not_eq_true']
def Sp:∀{l:ad}{f:Nat->Prop},Th l f->∀a∈l,f a
 |[a],f,h,j,b=>by simp at b;subst b;exact h
 |a::c::r,f,h,j,b=>by
  rcases aZ.1 b with rfl|b
  .exact h.1
  .exact Sp h.2 j b
def QL{m b:D}:∀{l:ao}{k:Prop},QK m b l k->k/\∀q∈l,aS b q.1 q.2=aS m q.1 q.2
 |[],k,h=>⟨h,bO⟩
 |(e,o)::r,k,h=>by
  obtain⟨c,d⟩:=QL h.2;refine⟨c,λq a=>?_⟩;rcases aZ.1 a with rfl|a
  .exact h.1
  .exact d q a
def Kd{a:Nat}{m d:D}:∀{L:List (Nat×ao)}{k:Prop},II a m d L k->k/\∀x∈L,Nat.testBit a x.1=false->∀q∈x.2,aS d q.1 q.2=aS m q.1 q.2
 |[],k,h=>⟨h,bO⟩
 |(r,j)::L,k,h=>by
  simp only[II]at h;cases c:Nat.testBit a r
  .rw[c]at h;obtain⟨e,l⟩:=QL h;obtain⟨b,f⟩:=Kd e;refine⟨b,λx g i=>?_⟩;grind
  .rw[c]at h;obtain⟨b,f⟩:=Kd h;refine⟨b,λx g i=>?_⟩;grind
def afE(L:List (Nat×ao))(b:List (Nat×(World->Prop))):Prop:=
 ∀x∈b,(∀w,x.2 w)\/∃(a:ao)(c:Nat×Nat->Option Value),(x.1,a)∈L/\x.2=λw=>∀q∈a,aS w.heap q.1 q.2=c q
end
section
variable{a:Program}{T:TT}{G:ad}{n:Nat}
def Up(hT:yA a T)(hG:GOK a G)(b:Array Oper){M d:ad}(F:oI d b.toList M d=true)(af:Kp b.toList M 0 b.toList d=true)
 {ab:Exit->Act->World->Prop}(hQ:∀z e w,¬ab (.panic z) e w){w0:World}{a0:Act}:
 ∀(t done:Nat)(A:Fr)(Y:D)(L:List (Nat×ao))(r:Fr->D->Prop)(y:List (Nat×(World->Prop)))(c:Array Bool)(e:Act)(w:World),
  td a T G n b.toList M d t done A Y L r->afE L y->C9 b.size done c->IP (λi N=>Nat.testBit (yL d i) N) c->mG n A e->Bx n A Y->w.heap=Y->rY w0 w->
  ph (Ev b.toList) a0 e->
  (∀m g f,r m f.heap->mG n m g->Bx n m f.heap->rY w0 f->ph (Ev b.toList) a0 g->ab .normal g f)->
  Al a .any b ab (λi N=>Nat.testBit (yL d i) N) y t c e w:=by
 have C:aa7 .any b (λi N=>Nat.testBit (yL d i) N):=by
  intro i N o u hr;have h1:=(pt d F i o cC).2.1;grind [C6]
 have ay:=NR d F
 have ai:∀(j:Nat)(o:Oper) cs l,b[j]? =some o->o.op≠.select cs l:=by
  intro j o cs l u g;obtain⟨_,_,bj,am⟩:=pt d F j o cC;have:=(Bv _ _ af j o bj cC am).1;grind [adR]
 have ah:∀{done:Nat}{c:Array Bool},C9 b.size done c->∀i,i∈Region.ready .any b c<->i∈uj done 0 b.toList M:=by
  grind [MD,Qj]
 have ap:∀{done:Nat}{c:Array Bool},C9 b.size done c->uj done 0 b.toList M=[]->Region.ready .any b c=[]:=by
  intro done c hD h;apply List.eq_nil_iff_forall_not_mem.2;grind
 intro t
 induction t with
 |zero=>
  intro done A Y L r y c e w h hL hD hC hR hB hw hs hk hq
  subst hw
  simp only[td]at h
  split at h
  .rename_i k
   exact⟨ap hD k,hq A e w h hR hB hs hk⟩
  .exact h.elim
 |succ t J=>
  intro done A Y L r y c e w h hL hD hC hR hB hw hs hk hq
  subst hw
  simp only[td]at h
  split at h
  · -- a reading is taken first
   rename_i i E
   obtain⟨j,o,aw,g,u,hp,hr,aA⟩:=NF done E
   have:i=j:=V
   subst this
   rw[uh,u]at h
   simp only at h
   have H:b[i]? =some o:=cC
   have X:i<b.size:=(gW.1 H).1
   have aa:i∈Region.ready .any b c:=by grind [MD]
   cases hd:wK n o.dst
   .grind
   .rw[hd]at h
    simp only[pG]at h
    have U:=I6 hd
    have W:∀R,o.dst=some R->R∈Ev b.toList:=by grind [Qi,List.mem_of_getElem?]
    have ag:∀j K,b[j]? =some K->j≠i->c.getD j true=false->(∀g∈K.after,Region.binds .any g=true->g.on≠i)->o.apart b K=true:=by
     intro j K an av ax az;have au:j<b.size:=(gW.1 an).1;obtain⟨_,ar,bi,al⟩:=pt d F i o u;rcases(Bv _ _ af i o bi u al).2 with B|B
     .grind
     .have p:=(pt d F j K cC).1;have q:yL d i=bi:=by
       have:∀(k:ad)(i l:Nat),k[i]? =some l->yL k i=l:=by
        intro k;induction k with
        |nil=>intro i l h;simp at h
        |cons Z k J=>intro i l h;cases i with
         |zero=>simpa[yL]using h
         |succ i=>simpa[yL]using J i l cC
       grind
      rcases Io _ _ _ _ B j K _ cC p with g|g|g|g
      .grind
      .grind [rB]
      .grind [Ca,C9.bit,C9.un]
      grind [UM]
    rcases Nx b hR hB o h with⟨I,m,ae,q,p⟩|⟨I,m,ac,q,p⟩
    .obtain⟨Z,aj,hx,hv,aq⟩:=Qz (P:=a) hT q p o ae
     let ak:World->Prop:=λf=>∀s∈ZE T m o.op,aS f.heap s.1 s.2=aS w.heap s.1 s.2
     refine LX (S:=ak) C H ai (λz e w hc=>absurd hc (hQ _ _ _)) t c e w hC ag aa (v:=aj) (bz ⟨I,λf k=>aq f k⟩) (λs _=>O) ?_
     refine J _ _ _ _ r _ _ _ w hx ?_ (hD.eE X) (hC.eE C aa) (q.cE hv U) p.cE O hs (hk.N (ph.cE W)) hq
     intro Q k
     rcases aZ.1 k with rfl|k
     .grind [aS,List.mem_cons_self]
     .rcases hL Q k with B|⟨As,z,h1,h2⟩
      .exact bz B
      .exact bH ⟨As,z,aX _ h1,h2⟩
    .refine LX (S:=λ_=>True) C H ai (λz e w hc=>absurd hc (hQ _ _ _)) t c e w hC ag aa (v:=undef) (bH ⟨I,O⟩) trivial ?_
     refine J _ _ _ _ r _ _ _ w ac ?_ (hD.eE X) (hC.eE C aa) (q.cE (x:=.un) O U) p.cE O hs (hk.N (ph.cE W)) hq
     intro Q k
     rcases aZ.1 k with rfl|k
     .grind
     .exact hL Q k
  .split at h
   .grind [Wb]
   .rename_i rs an
    have al:=Sp h
    refine XI ?_ ?_
    .intro g
     apply an
     cases h:uj done 0 b.toList M with
     |nil=>rfl
     |cons Z K=>
      have:Z∈Region.ready .any b c:=(ah hD Z).2 cC
      rw[g]at this
      cases this
    .intro i E
     have h:=al i ((ah hD i).1 E)
     obtain⟨o,aw,H,hp,hr⟩:=(MD b F hD i).1 E
     have u:b.toList[i]? =some o:=cC
     have X:i<b.size:=(gW.1 H).1
     rw[uh,u]at h
     simp only at h
     cases hd:wK n o.dst
     .grind
     .rw[hd]at h
      simp only[pG]at h
      have U:=I6 hd
      have W:∀R,o.dst=some R->R∈Ev b.toList:=by grind [Qi,List.mem_of_getElem?]
      unfold wpOp
      simp only[H]
      rcases Nx b hR hB o h with⟨I,m,ae,q,p⟩|⟨I,m,ac,q,p⟩
      .rw[a8 I]
       refine .inl (Wc hT hG q p o ae w O _ _ λax Z aj f hx ak ag hv aq=>?_)
       obtain⟨ar,au⟩:=Kd hx
       refine⟨λQ k av K=>?_,J _ _ _ L r y _ _ f ar hL (hD.eE X) (hC.eE C E) (ak.cE hv U) ag.cE O (hs.N aq) (hk.N (ph.cE W)) hq⟩
       rcases hL Q k with B|⟨As,z,h1,h2⟩
       .exact B f
       .rw[h2]at K⊢
        intro s aa
        rw[au _ h1 av s aa,K s aa]
      .rw[aV cC]
       exact⟨λQ k _ K=>K,J _ _ _ L r y _ _ w ac hL (hD.eE X) (hC.eE C E) (q.cE (x:=.un) O U) p.cE O hs (hk.N (ph.cE W)) hq⟩
end
section
variable{M:ad}{a:Act}{s:Sh}{y:s.ty}
variable{P:Program}{T:TT}{G:ad}{n:Nat}
structure Uv where
 aas:List (Nat×aw)
 abo:List (Nat×aw)
 fH:List (Nat×ad)
def lk{α:Type}:List (Nat×α)->Nat->Option α
 |[],_=>none
 |(u,x)::r,t=>bif Nat.beq u t then some x else lk r t
def Iu:Code->Option Nat
 | .region id _ _=>some id
 | .seq a b=>match Iu a with
  |some i=>some i
  |none=>Iu b
 | .cond _ a b=>match Iu a with
  |some i=>some i
  |none=>Iu b
 | .block _ c=>Iu c
 | .loop c=>Iu c
 | .scope c=>Iu c
 |_=>none
def lkH{α:Type}(l:List (Nat×α))(c:Code):Option α:=
 match Iu c with
 |some i=>lk l i
 |none=>none
def LZ:aw->Type
 |[]=>D->Prop
 |(_,s)::r=>s.ty->LZ r
def Tc:aw->Type
 |[]=>D->Nat
 |(_,s)::r=>s.ty->Tc r
def W6:(s:Sh)->SV->Option s.ty
 | .I,.c (.i n)=>some n
 | .U k,.c (.u b n)=>if k=b then some n else none
 | .T,.c (.t b)=>some b
 | .T,.tt=>some true
 | .T,.ff=>some false
 | .S,.c (.s x)=>some x
 | .P,.c (.p b o)=>some (b,o)
 | .P,.c (.bp _ b o)=>some (b,o)
 | .Q,.c (.pp q)=>some q
 | .Q,.c (.p b o)=>some (some (b,o))
 | .Q,.c .pn=>some none
 | .F,.c (.fn f a c)=>some (f,a,c)
 | .F,.c (.fv q)=>some q
 | .M,.c (.mp b)=>some b
 |_,_=>none
def Mc:(l:aw)->LZ l->Fr->D->Prop
 |[],I,_,m=>I m
 |(t,s)::r,I,a,m=>match W6 s (ku a t)with
  |some x=>Mc r (I x) a m
  |none=>False
def Tj:(l:aw)->LZ l->Tc l->Fr->D->Nat->Prop
 |[],I,μ,_,m,N=>I m/\μ m<N
 |(t,s)::r,I,μ,a,m,N=>match W6 s (ku a t)with
  |some x=>Tj r (I x) (μ x) a m N
  |none=>False
def UJ:(l:aw)->LZ l->Fr->(Fr->(D->Prop)->Prop)->Prop
 |[],I,a,k=>k a I
 |(t,s)::r,I,a,k=>∀x:s.ty,UJ r (I x) ((t,.c (s.mk x))::a) k
def UK:(l:aw)->LZ l->Tc l->Fr->(Fr->(D->Prop)->(D->Nat)->Prop)->Prop
 |[],I,μ,a,k=>k a I μ
 |(t,s)::r,I,μ,a,k=>∀x:s.ty,UK r (I x) (μ x) ((t,.c (s.mk x))::a) k
def rR:ad->Fr->Fr
 |[],a=>a
 |t::r,a=>(t,.jA)::rR r a
def tH:Code->ad
 | .region _ b _=>Ev b.toList
 | .seq a b=>tH a++tH b
 | .cond _ a b=>tH a++tH b
 | .block _ c=>tH c
 | .loop c=>tH c
 |_=>[]
def ur(M:ad):aw->Bool
 |[]=>true
 |(t,_)::r=>BR t M&&ur M r
def eqS(x y:SV)(k:Prop):Prop:=x=y/\k
theorem nQ(x:SV)(k:Prop):eqS x x k=k:=by simp[eqS]
def eM(A:Uv)(c:Code):ad:=
 match lkH A.fH c with
 |some K=>K
 |none=>[]
def Ip(n:Nat)(K:ad):Fr->ad
 |[]=>[]
 |(q,_)::r=>bif Nat.ble n q&&!BR q K then q::Ip n K r else Ip n K r
def y9(n:Nat)(K:ad)(a:Fr):Fr:=rR (Ip n K a) a
def eqK(a b:Fr):ad->Prop->Prop
 |[],k=>k
 |q::K,k=>eqS (ku b q) (ku a q) (eqK a b K k)
def Qx(c:Fr):Op->Option SV
 | .move x| .assign x=>match ev c x with
  | .jA=>none
  |y=>some y
 | .binOp d _ x y _=>match ev c x,ev c y with
  | .c (.i a),.c (.i b)=>match d with
   | .eql=>some (.c (.t (a==b)))
   | .neq=>some (.c (.t (a !=b)))
   | .lss=>some (.c (.t (decide (a<b))))
   | .leq=>some (.c (.t (decide (a<=b))))
   | .gtr=>some (.c (.t (decide (a>b))))
   | .geq=>some (.c (.t (decide (a>=b))))
   |_=>none
  |_,_=>none
 |_=>none
def vw(n:Nat):ar->Fr->Option Fr
 |[],a=>some a
 |o::r,a=>bif wK n o.dst then
  match o.guard with
  |none=>match Qx a o.op with
   |some x=>vw n r (yF a o.dst x)
   |none=>none
  |some _=>none
  else none
def orB(A:Uv)(n t:Nat):Code->Fr->Option Bool
 | .region _ d false,b=>match vw n d.toList b with
  |some a=>oL (ku a t)
  |none=>none
 | .seq (.region _ d false) (.cond (.tmp u) .skip c),b=>
  match lkH A.abo (.cond (.tmp u) .skip c)with
  |some _=>none
  |none=>bif Nat.beq u t&&BR t (tH c)then
   match vw n d.toList b with
   |some a=>match oL (ku a t),orB A n t c a with
    |some x,some y=>some (x||y)
    |_,_=>none
   |none=>none
   else none
 |_,_=>none
def orT(A:Uv)(n:Nat)(c:Operand)(a b:Code)(d:Fr):Option (Nat×Bool):=
 match c,a with
 | .tmp t,.skip=>bif BR t (tH b)then
  match orB A n t b d with
  |some y=>some (t,y)
  |none=>none
  else none
 |_,_=>none
def zn(a:Fr)(c:Operand)(v:SV):Fr:=
 match c with
 | .tmp t=>(t,v)::a
 |_=>a
def pmG:ar->ad
 |[]=>[]
 |o::r=>oQ o.after.toList::pmG r
def ZZ:ad->ar->ad
 |a,[]=>a
 |a,o::r=>ZZ (a++[sG a o.after.toList]) r
def uS:Code->Bool
 | .region _ b c=>!c||(oI (ZZ [] b.toList) b.toList (pmG b.toList) (ZZ [] b.toList)&&Kp b.toList (pmG b.toList) 0 b.toList (ZZ [] b.toList))
 | .seq a b=>uS a&&uS b
 | .cond _ a b=>uS a&&uS b
 | .block _ c=>uS c
 | .loop c=>uS c
 |_=>true
def vc(P:Program)(T:TT)(G:ad)(n:Nat)(A:Uv):Code->Fr->D->(Exit->Fr->D->Prop)->Prop
 | .skip,b,m,Q=>Q .normal b m
 | .region id c d,b,m,Q=>
  bif d then td P T G n c.toList (pmG c.toList) (ZZ [] c.toList) c.toList.length 0 b m [] (λb m=>Q .normal b m)
  else wR P T G n c.toList c.toList b m (λb m=>Q .normal b m)
 | .seq a f,b,m,Q=>match lkH A.abo f with
  |none=>vc P T G n A a b m λ
   | .normal,d,c=>vc P T G n A f d c Q
   |g,d,c=>Q g d c
  |some l=>bif ur (tH a) l then∃K:LZ l,(vc P T G n A a b m λ
   | .normal,d,c=>eqK b d (eM A f) (Mc l K d c)
   |g,d,c=>Q g d c)/\
   (UJ l K (rR (tH a) (y9 n (eM A f) b)) λd e=>∀c,e c->vc P T G n A f d c Q)else False
 | .cond e a f,b,m,Q=>match ev b e with
  | .tt=>vc P T G n A a b m Q
  | .ff=>vc P T G n A f b m Q
  | .c (.t x)=>match orT A n e a f b with
   |some (t,y)=>Q .normal ((t,.c (.t (x||y)))::rR (tH f) b) m
   |none=>(x=true->vc P T G n A a (zn b e .tt) m Q)/\(x=false->vc P T G n A f (zn b e .ff) m Q)
  |_=>False
 | .block id e,b,m,Q=>vc P T G n A e b m λ
  | .exit i,d,c=>bif Nat.beq i id then Q .normal d c else Q (.exit i) d c
  |g,d,c=>Q g d c
 | .loop e,b,m,Q=>match lkH A.aas e with
  |none=>False
  |some l=>bif ur (tH e) l then∃(I:LZ l)(μ:Tc l),Mc l I b m/\
   (UK l I μ (rR (tH e) (y9 n (eM A e) b)) λd i μ'=>∀c,i c->vc P T G n A e d c λ
    | .normal,f,h=>eqK b f (eM A e) (Tj l I μ f h (μ' c))
    |g,f,h=>Q g f h)else False
 | .exit id,b,m,Q=>Q (.exit id) b m
 | .ret,b,m,Q=>Q .ret b m
 |_,_,_,_=>False
theorem ph.aP{b:ad}{c:Act}(h:ph M a c)(e:∀t∈M,t∈b):ph b a c:=λt f=>h t λd=>f (e t d)
def GN:∀(M:ad)(a:Fr)(t:Nat),(t∈M/\ku (rR M a) t=.jA)\/(t∉M/\ku (rR M a) t=ku a t)
 |[],_,_=>bH ⟨bO,O⟩
 |u::M,a,t=>by
  simp only[rR,ku];cases d:Nat.beq u t
  .have f:u≠t:=λe=>by subst e;simp at d
   rcases GN M a t with⟨b,c⟩|⟨b,c⟩
   .grind [List.mem_cons_of_mem]
   grind
  .grind [Nat.eq_of_beq_eq_true,List.mem_cons_self]
def Fa{c:Fr}{b:Act}(f:mG n c a)(i:b.tmps.size=n)(hd:b.defers=[])(g:ph M a b):mG n (rR M c) b:=by
 refine⟨i,hd,λt=>?_⟩;rcases GN M c t with⟨_,h⟩|⟨d,e⟩
 .rw[h];trivial
 .rw[e,g t d];exact f.br t
def mG.rR{b:Fr}{a:Act}(c:mG n b a):∀(M:ad),mG n (rR M b) a
 |[]=>c
 |t::M=>(mG.rR c M).jA t
def Bx.rR{a:Fr}{m:D}(h:Bx n a m):∀(M:ad),Bx n (rR M a) m
 |[]=>h
 |t::M=>(Bx.rR h M).jA bO
theorem Sv{K:ad}{q:Nat}(c:n<=q)(b:q∉K):∀{a:Fr},q∈Ip n K a\/ku a q=.jA
 |[]=>bH O
 |(u,x)::r=>by
  simp only[Ip,ku];cases d:Nat.beq u q
  .rcases Sv c b (a:=r)with h|h
   .grind [Nat.ble,BR,List.mem_cons_of_mem]
   .exact bH h
  .grind [Nat.eq_of_beq_eq_true,BR,Mt,Nat.ble,Nat.ble_eq_true_of_le]
def PO{b c:Fr}:∀{K:ad}{k:Prop},eqK b c K k->(∀q∈K,ku c q=ku b q)/\k
 |[],k,h=>⟨bO,h⟩
 |q::K,k,h=>by
  obtain⟨d,e⟩:=PO h.2;refine⟨λu a=>?_,e⟩;rcases aZ.1 a with rfl|a
  .exact h.1
  .exact d u a
def Bx.eM{K:ad}{a g:Fr}{t k:D}(h:Bx n a t)(p:Bx n g k)(v:∀q∈K,ku g q=ku a q):Bx n (Vc.rR M (y9 n K a)) k:=by
 have f:∀{q b e l},pb (Vc.rR M (y9 n K a)) q b e l->pb a q b e l/\pb g q b e l:=by
  intro q b e l c;have d:ku (Vc.rR M (y9 n K a)) q=ku (y9 n K a) q\/ku (Vc.rR M (y9 n K a)) q=.jA:=by
   rcases GN M (y9 n K a) q with⟨_,h⟩|⟨_,h⟩
   .exact bH h
   .exact bz h
  unfold pb at c;rcases d with d|d
  .rw[d]at c;unfold y9 at c;rcases GN (Ip n K a) a q with⟨_,i⟩|⟨j,i⟩
   .grind
   grind [Bx.NN,pb,Sv]
  .grind
 exact⟨λq b e l c=>p.bt q b e l (f c).2,λq u b e l m o s r j i=>h.WJ q u b e l m o s r (f j).1 (f i).1,λq b e l c=>h.NN q b e l (f c).1⟩
def Y8{x:SV}(h:W6 s x=some y):x.mW=true/\x.v=(s.mk y).v:=by
 unfold W6 at h;split at h<;>first|(simp at h;subst h;exact⟨rfl,rfl⟩)|skip
 .split at h
  .rename_i a;subst a;simp at h;subst h;exact⟨O,O⟩
  .simp at h
 .simp at h
def QF{c de:Fr}{t:Nat}(f:mG n c a)(b:mG n de a)(h:W6 s (ku c t)=some y):mG n ((t,.c (s.mk y))::de) a:=by
 refine⟨b.aQ,b.nP,λu=>?_⟩;simp only[ku];cases g:Nat.beq t u
 .exact b.br u
 .have:=gG g;subst this;have d:=f.br t;obtain⟨i,j⟩:=Y8 h;have e:=d.eq i;show _=_;rw[e,j];rfl
def ZL:(l:aw)->LZ l->Tc l->Fr->Fr->(D->Prop)->(D->Nat)->Prop
 |[],I,μ,b,c,a,μ'=>c=b/\a=I/\μ'=μ
 |(t,s)::r,I,μ,b,c,a,μ'=>∃x:s.ty,ZL r (I x) (μ x) ((t,.c (s.mk x))::b) c a μ'
def Sq:∀{l:aw}{I:LZ l}{μ:Tc l}{b:Fr}{k:Fr->(D->Prop)->(D->Nat)->Prop},UK l I μ b k->∀{fr' I' μ'},ZL l I μ b fr' I' μ'->k fr' I' μ'
 |[],_,_,_,_,h,_,_,_,a=>by obtain⟨rfl,rfl,rfl⟩:=a;exact h
 |(t,s)::r,_,_,_,_,h,_,_,_,a=>by obtain⟨x,a⟩:=a;exact Sq (h x) a
def Sh.aav(s:Sh)(x:s.ty)(b e:Nat)(l:ae):SV.c (s.mk x)≠.box b e l/\SV.c (s.mk x)≠.Er b e l:=⟨bO,bO⟩
def Su{a:Act}{f:Fr}(g:mG n f a):∀{l:aw}{I:LZ l}{μ:Tc l}{de:Fr}{m:D}{N:Nat},mG n de a->Bx n de m->Tj l I μ f m N->
 ∃b c μ',ZL l I μ de b c μ'/\mG n b a/\Bx n b m/\c m/\μ' m<N
 |[],I,μ,de,_,_,e,d,h=>⟨de,I,μ,⟨O,O,O⟩,e,d,h.1,h.2⟩
 |(t,s)::r,I,μ,de,m,N,e,d,h=>by
  simp only[Tj]at h;split at h
  .rename_i x p;obtain⟨b,c,μ',i,j,k,o⟩:=Su g (QF g e p) (d.jA (s.aav x)) h;exact⟨b,c,μ',⟨x,i⟩,j,k,o⟩
  .exact h.elim
def Ss{a:Act}{f:Fr}(g:mG n f a):∀{l:aw}{I:LZ l}{μ:Tc l}{de:Fr}{m:D},mG n de a->Bx n de m->Mc l I f m->
 ∃b c μ',ZL l I μ de b c μ'/\mG n b a/\Bx n b m/\c m
 |[],I,μ,de,_,e,d,h=>⟨de,I,μ,⟨O,O,O⟩,e,d,h⟩
 |(t,s)::r,I,μ,de,m,e,d,h=>by
  simp only[Mc]at h;split at h
  .rename_i x o;obtain⟨b,c,μ',i,j,k⟩:=Ss g (QF g e o) (d.jA (s.aav x)) h;exact⟨b,c,μ',⟨x,i⟩,j,k⟩
  .exact h.elim
def UO{a:Act}{g:Fr}(i:mG n g a):∀{l:aw}{I:LZ l}{de:Fr}{m:D}{k:Fr->(D->Prop)->Prop},mG n de a->Bx n de m->Mc l I g m->UJ l I de k->
 ∃b f,k b f/\mG n b a/\Bx n b m/\f m
 |[],I,de,_,_,d,c,h,e=>⟨de,I,e,d,c,h⟩
 |(t,s)::r,I,de,m,k,d,c,h,e=>by
  simp only[Mc]at h;split at h
  .rename_i x j;exact UO i (QF i d j) (c.jA (s.aav x)) h (e x)
  .exact h.elim
def Zy{d:Code}{Q:Exit->Act->World->Prop}(b:Nat->Act->World->Prop)
 (f:∀N a w,b N a w->d.wp P (Exit.then (λe g=>∃c,c<N/\b c e g) Q) a w):∀N a w,b N a w->(Code.loop d).wp P Q a w:=by
 have g:∀N a w,b N a w->∃M,b M a w/\∀c,c<M->¬b c a w:=by
  intro N;induction N using Nat.strongRecOn with
  |_ N i=>
   intro a w h;by_cases e:∃c,c<N/\b c a w
   .grind
   .grind
 intro N a w e
 classical
 let μ:Act->World->Nat:=λa w=>if h:∃M,b M a w/\∀c,c<M->¬b c a w then Classical.choose h else 0
 have hμ:∀a w N,b N a w->b (μ a w) a w/\μ a w<=N:=by
  grind [Classical.choose,Classical.choose_spec,Nat.lt_or_ge]
 refine wp_loop (λa w=>∃N,b N a w) μ ⟨N,e⟩ ?_
 rintro a w ⟨N,h⟩
 refine mB ?_ (f (μ a w) a w (hμ a w N h).1)
 grind [Nat.lt_of_le_of_lt]
end
section
variable{i w:World}{j p:ad}{l a:Act}{f:Exit->Fr->D->Prop}{e:Exit}{b:D}
variable{g:Program}{h:TT}{G:ad}{d:Nat}{o:Uv}
def mR(d:Nat)(i:World)(j:ad)(l:Act)(f:Exit->Fr->D->Prop):Exit->Act->World->Prop
 | .panic _,_,_=>False
 | .outgrown,_,_=>False
 |e,a,w=>∃b,mG d b a/\Bx d b w.heap/\rY i w/\ph j l a/\f e b w.heap
theorem mR.mk{b:Fr}(g:(∀c,e≠.panic c)/\e≠.outgrown)
 (k:mG d b a)(h:Bx d b w.heap)(o:rY i w)(m:ph j l a)(n:f e b w.heap):mR d i j l f e a w:=by
 cases e with
 |panic c=>exact absurd O (g.1 c)
 |outgrown=>exact absurd O g.2
 |_=>exact⟨b,k,h,o,m,n⟩
theorem mR.cJ(h:mR d i j l f e a w):
 ((∀c,e≠.panic c)/\e≠.outgrown)/\∃b,mG d b a/\Bx d b w.heap/\rY i w/\ph j l a/\f e b w.heap:=by
 cases e with
 |panic c=>exact h.elim
 |outgrown=>exact h.elim
 |_=>exact⟨⟨bO,bO⟩,h⟩
def mR.aaq(h:mR d i j l f e a w):mR d i (j++p) l f e a w:=by
 grind [mR.cJ,mR.mk,ph.aP,List.mem_append_left]
def mR.YA(h:mR d i j l f e a w):mR d i (p++j) l f e a w:=by
 grind [mR.cJ,mR.mk,ph.aP,List.mem_append_right]
def Zj{f:Fr}{e:Op}{x:SV}{k:SV->Prop}(c:Qx f e=some x)(d:k x):P6 e=false/\rd h f b k e:=by
 unfold Qx at c;split at c
 .split at c
  .simp at c
  .simp at c;subst c;exact⟨O,d⟩
 .split at c
  .simp at c
  .simp at c;subst c;exact⟨O,d⟩
 .rename_i o t y z l;split at c
  .rename_i a j g i;refine⟨O,?_⟩;simp only[rd,g,i];split at c<;>simp at c<;>subst c<;>exact d
  .simp at c
 .simp at c
theorem Jn(j:ar){b:D}{i:Fr->D->Prop}:∀{n:ar}{c e:Fr},vw d n c=some e->i e b->wR g h G d j n c b i
 |[],c,e,a,f=>by simp[vw]at a;subst a;exact f
 |o::r,c,e,a,f=>by
  simp only[vw]at a;simp only[wR];cases hd:wK d o.dst
  .grind
  .rw[hd]at a;simp only[pG]at a⊢;cases l:o.guard with
   |some p=>rw[l]at a;simp at a
   |none=>
    rw[l]at a;simp only[gd]at a⊢;split at a
    .rename_i x p;obtain⟨q,s⟩:=Zj (h:=h) (b:=b) (k:=λx=>wR g h G d j r (yF c o.dst x) b i) p (Jn j a f);grind
    .simp at a
def aaD(p:Nat){b:D}{f:Exit->Fr->D->Prop}:∀(k:Code)(l:Fr)(y:Bool),orB o d p k l=some y->(∀i,oL (ku i p)=some y->f .normal i b)->vc g h G d o k l b f
 | .region id z e,l,y,a,n=>by
  cases e
  .grind [orB,vc,Jn]
  .simp[orB]at a
 | .seq (.region id z false) (.cond (.tmp u) .skip k),l,y,a,n=>by
  simp only[orB]at a;split at a
  .simp at a
  .rename_i s;cases m:(Nat.beq u p&&BR p (tH k))
   .grind
   .rw[m]at a;simp only[pG]at a;simp only[fe]at m;have x:=gG m.1;subst x;split at a
    .rename_i i w;split at a
     .rename_i C A e q;simp at a;subst a;rw[vc,s];simp only;rw[vc];simp only[Am];refine Jn _ w ?_;rw[vc];have v:ev i (.tmp u)=(ku i u).nb:=rfl;rw[v];cases j:ku i u with
      |tt=>
       rw[j]at e;simp[oL]at e;subst e;simp only[SV.nb,vc];exact n i (by rw[j];simp[oL])
      |ff=>
       rw[j]at e;simp[oL]at e;subst e;simp only[SV.nb];exact aaD u k i A q (λr B=>n r cC)
      |c r=>
       cases r with
       |t B=>
        rw[j]at e;simp[oL]at e;subst e;simp only[SV.nb,orT,m.2,pG,q];exact n _ (by simp[ku,oL])
       |_=>rw[j]at e;simp[oL]at e
      |_=>rw[j]at e;simp[oL]at e
     .simp at a
    .simp at a
def aaV(hT:yA g h)(hG:GOK g G)(ar:g.follows .mixedOrders=true)(i:World):∀(C:Code),uS C=true->∀(l:Fr)(b:D)(f:Exit->Fr->D->Prop)(a:Act)(w:World),
 vc g h G d o C l b f->mG d l a->Bx d l b->w.heap=b->rY i w->C.wp g (mR d i (tH C) a f) a w:=by
 intro C
 induction C with
 |skip=>
  intro hd l b f a w c k s x t
  subst x
  exact wp_skip ⟨l,k,s,t,ph.cX _ _,c⟩
 |region id p y=>
  intro hd l b f a w c k s x t
  simp only[vc]at c
  cases y
  .simp only[Am]at c
   refine wp_region_list ?_
   exact zG hT hG p p.toList l b (f .normal) a w (λ_ c=>c) c k s x t (ph.cX _ _) λz H R j r v u q=>⟨z,r,v,u,q,j⟩
  .simp only[pG]at c
   simp only[uS,abW,abV,fe]at hd
   refine wp_region_any ar (Rq (e:=λE B=>Nat.testBit (yL (ZZ [] p.toList) E) B) (L:=[]) _ _ _ _ ?_)
   have F:p.toList.length=p.size:=bO
   rw[F]at c
   refine Up hT hG p hd.1 hd.2 (λC a w hx=>hx) p.size 0 l b [] (f .normal) [] _ a _ c (λB hx=>by cases hx) ⟨bO,λE=>by simp[abU];split<;>rfl⟩ (λE Y=>by simp[abU]at Y;split at Y<;>simp at Y) k s x ⟨t.os,t.XG,t.Qt⟩ (ph.cX _ _) λz H R j r v u q=>⟨z,r,v,u,q,j⟩
 |seq B S Z U=>
  intro hd l b f a w c k s x t
  simp only[vc]at c
  simp only[uS,fe]at hd
  refine wp_seq ?_
  split at c
  .refine mB ?_ (Z hd.1 l b _ a w c k s x t)
   intro e H R j
   obtain⟨p,z,r,v,u,y,j⟩:=j.cJ
   cases e with
   |normal=>
    refine mB ?_ (U hd.2 z _ f H R j r v O u)
    intro e W ad j
    obtain⟨p,X,J,I,V,K,j⟩:=j.cJ
    exact mR.mk p J I V ((y.aP (λF q=>dO _ q)).N (K.aP (λF q=>na _ q))) j
   |panic C=>exact absurd O (p.1 C)
   |outgrown=>exact absurd O p.2
   |exit E=>exact mR.mk p r v u (y.aP (λF q=>dO _ q)) j
   |goto E=>exact mR.mk p r v u (y.aP (λF q=>dO _ q)) j
   |ret=>exact mR.mk p r v u (y.aP (λF q=>dO _ q)) j
  .rename_i N hl
   cases ab:ur (tH B) N
   .grind
   rw[ab]at c
   obtain⟨af,h1,h2⟩:=c
   refine mB ?_ (Z hd.1 l b _ a w h1 k s x t)
   intro e H R j
   obtain⟨p,z,r,v,u,y,j⟩:=j.cJ
   cases e with
   |normal=>
    obtain⟨aa,j⟩:=PO j
    obtain⟨ae,K',h3,h4,ac,h5⟩:=UO r (Fa (k.rR _) r.aQ r.nP y) (Bx.eM s v aa) j h2
    refine mB ?_ (U hd.2 ae _ f H R (h3 _ h5) h4 ac O u)
    intro e W ad j
    obtain⟨p,X,J,I,V,K,j⟩:=j.cJ
    exact mR.mk p J I V ((y.aP (λF q=>dO _ q)).N (K.aP (λF q=>na _ q))) j
   |panic C=>exact absurd O (p.1 C)
   |outgrown=>exact absurd O p.2
   |exit E=>exact mR.mk p r v u (y.aP (λF q=>dO _ q)) j
   |goto E=>exact mR.mk p r v u (y.aP (λF q=>dO _ q)) j
   |ret=>exact mR.mk p r v u (y.aP (λF q=>dO _ q)) j
 |cond ac B S Z U=>
  intro hd l b f a w c k s x t
  simp only[vc]at c
  simp only[uS,fe]at hd
  have af:∀{J:Bool},a.eval ac=.bool J->mG d (zn l ac (if J then .tt else .ff)) a:=by
   intro J I;unfold zn;split
   .rename_i F;refine⟨k.aQ,k.nP,λad=>?_⟩;simp only[ku];cases K:Nat.beq F ad
    .exact k.br ad
    .have:=gG K;subst this;cases J<;>exact I
   .exact k
  have ag:∀{B:SV},(∀J e N,B≠.box J e N/\B≠.Er J e N)->Bx d (zn l ac B) b:=by
   intro B hx;unfold zn;grind [Bx.jA]
  split at c
  .rename_i W
   exact wp_cond_true (k.eq W O) (mB (λ_ _ _ c=>c.aaq) (Z hd.1 l b f a w c k s x t))
  .rename_i W
   exact wp_cond_false (k.eq W O) (mB (λ_ _ _ c=>c.YA) (U hd.2 l b f a w c k s x t))
  .rename_i J W
   have X:=k.eq W O
   split at c
   .rename_i F y' K
    unfold orT at K
    split at K
    .rename_i V
     cases ai:BR V (tH S)
     .grind
     .rw[ai]at K
      simp only[pG]at K
      split at K
      .rename_i y0 aj
       simp at K
       obtain⟨rfl,rfl⟩:=K
       have al:a.tmps.getD V undef=.bool J:=X
       refine wp_cond_split X (λq=>?_) (λq=>?_)
       .subst x
        subst q
        refine wp_skip (mR.mk (e:=.normal) (b:=(V,.c (.t (true||y0)))::rR (tH S) l) ⟨bO,bO⟩ ?_ ((s.rR _).jA bO) t (ph.cX _ _) c)
        have I:=Fa (M:=tH S) k k.aQ k.nP (ph.cX _ a)
        constructor<;>grind [mG.aQ,mG.nP,ku,Nat.beq,mG.br,Nat.eq_of_beq_eq_true,SV.Is,SV.v,Ce.v]
       .subst q
        have hv:=aaD (g:=g) (h:=h) (G:=G) (o:=o) (d:=d) V (b:=b) (f:=λe z m'=>e=.normal/\m'=b/\oL (ku z V)=some y0) S l y0 aj (λz h'=>⟨O,O,h'⟩)
        refine mB ?_ (U hd.2 l b _ a w hv k s x t)
        intro e H R j
        obtain⟨p,z,r,v,u,y,rfl,ah,ak⟩:=j.cJ
        refine mR.mk (e:=.normal) (b:=(V,.c (.t (false||y0)))::rR (tH S) l) p ?_ (by rw[ah];exact(s.rR _).jA bO) u (y.aP (λF q=>na _ q)) cC
        have I:=Fa k r.aQ r.nP y
        refine⟨I.aQ,I.nP,λad=>?_⟩
        simp only[ku]
        grind [Nat.beq,mG.br,Nat.eq_of_beq_eq_true,Bw,SV.Is.eq,SV.Is,SV.v,Ce.v]
      .simp at K
    .simp at K
   .refine wp_cond_split X (λq=>?_) (λq=>?_)
    .subst q
     exact mB (λ_ _ _ c=>c.aaq) (Z hd.1 _ b f a w (c.1 O) (af X) (ag bO) x t)
    .subst q
     exact mB (λ_ _ _ c=>c.YA) (U hd.2 _ b f a w (c.2 O) (af X) (ag bO) x t)
  .exact c.elim
 |block id B U=>
  intro hd l b f a w c k s x t
  simp only[vc]at c
  refine wp_block (mB ?_ (U hd l b _ a w c k s x t))
  intro e H R j
  obtain⟨p,z,r,v,u,y,j⟩:=j.cJ
  cases e with
  |exit E=>
   simp only[Exit.inBlock]
   simp only at j
   cases I:Nat.beq E id
   .rw[I]at j
    have q:E≠id:=λe=>by subst e;simp at I
    rw[aV q]
    exact mR.mk p r v u y j
   .rw[I]at j
    rw[a8 (gG I)]
    exact mR.mk ⟨bO,bO⟩ r v u y j
  |normal=>exact mR.mk p r v u y j
  |panic C=>exact absurd O (p.1 C)
  |outgrown=>exact absurd O p.2
  |goto E=>exact mR.mk p r v u y j
  |ret=>exact mR.mk p r v u y j
 |loop B U=>
  intro hd l b f a w c k s x t
  subst x
  simp only[vc]at c
  split at c
  .exact c.elim
  .rename_i N hl
   cases ab:ur (tH B) N
   .grind
   rw[ab]at c
   obtain⟨W,μ,h0,h1⟩:=c
   let ac:Nat->Act->World->Prop:=λV H w=>∃z K μ',ZL N W μ (rR (tH B) (y9 d (eM o B) l)) z K μ'/\mG d z H/\Bx d z w.heap/\K w.heap/\μ' w.heap=V/\rY i w/\ph (tH B) a H
   obtain⟨ad,X,μ1,ao,al,ag,aj⟩:=Ss k (Fa (k.rR _) k.aQ k.nP (ph.cX (tH B) a)) (Bx.eM s s (λ_ _=>O)) h0
   refine Zy ac ?_ (μ1 w.heap) a w ⟨ad,X,μ1,ao,al,ag,aj,O,t,ph.cX _ _⟩
   rintro V a1 w ⟨z,K,μ',Y,r,v,ai,rfl,u,y⟩
   have an:=Sq h1 Y w.heap ai
   refine mB ?_ (U hd z w.heap _ a1 w an r v O u)
   intro e H R j
   obtain⟨p,ae,q,I,J,F,j⟩:=j.cJ
   cases e with
   |normal=>
    obtain⟨aa,j⟩:=PO j
    obtain⟨af,Z,μ3,ap,am,ah,ak,aq⟩:=Su q (Fa (k.rR _) q.aQ q.nP (y.N F)) (Bx.eM s I aa) j
    exact⟨_,aq,af,Z,μ3,ap,am,ah,ak,O,J,y.N F⟩
   |panic C=>exact absurd O (p.1 C)
   |outgrown=>exact absurd O p.2
   |exit E=>exact mR.mk p q I J (y.N F) j
   |goto E=>exact mR.mk p q I J (y.N F) j
   |ret=>exact mR.mk p q I J (y.N F) j
 |exit id=>
  intro hd l b f a w c k s x t
  subst x
  exact wp_exit ⟨l,k,s,t,ph.cX _ _,c⟩
 |ret=>
  intro hd l b f a w c k s x t
  subst x
  exact wp_ret ⟨l,k,s,t,ph.cX _ _,c⟩
 |rangeFunc j k B S _ _=>intro _ l b f a w c;exact c.elim
 |scope B _=>intro _ l b f a w c;exact c.elim
 |label N=>intro _ l b f a w c;exact c.elim
 |goto N=>intro _ l b f a w c;exact c.elim
 |refuse s=>intro _ l b f a w c;exact c.elim
def y8:Nat->aC->Fr
 |_,[]=>[]
 |i,x::r=>(i,x)::y8 (i+1) r
def K8(h:TT)(a:Fr)(b:D):ay->(aC->Prop)->Prop
 |[],k=>k []
 | .tmp t::r,k=>bif (ku a t).mW then K8 h a b r λl=>k (ku a t::l)else False
 | .cell p t::r,k=>rd h a b (λx=>bif x.mW then K8 h a b r λl=>k (x::l)else False) (.load t (.tmp p))
def adQ(h:TT)(c:ay)(a:Fr)(b:D)(R:ak):Prop:=
 K8 h a b c λ
  |[x]=>R x.v b
  |l=>R (.tuple (l.map SV.v).toArray) b
def Zw(g:Program)(h:TT)(G:ad)(o:Uv)(d:Nat)(c:ay)(f:Code)(e:aC)(b:D)(R:ak):Prop:=
 vc g h G d o f (y8 0 e) b λ
  | .normal,a,b=>adQ h c a b R
  | .ret,a,b=>adQ h c a b R
  |_,_,_=>False
def Md:∀(a:aC)(i t:Nat),(t<i/\ku (y8 i a) t=.jA)\/(i<=t/\ku (y8 i a) t=a.getD (t -i) .jA)
 |[],i,t=>by
  grind [Nat.lt_or_ge,y8,ku]
 |x::r,i,t=>by
  simp only[y8,ku];cases d:Nat.beq i t
  .have f:i≠t:=λe=>by subst e;simp at d
   rcases Md r (i+1) t with⟨b,c⟩|⟨b,c⟩
   .grind
   grind [List.getD_cons_succ]
  .grind [Nat.eq_of_beq_eq_true]
def QG(a:Array Value):ResultVar->Sem Value
 | .tmp t=>pure (a.getD t undef)
 | .cell p t=>do loadVar t (<-asAddr (a.getD p undef))
def Xq(b:Func)(c:Array Value):results b c=(do
 let a<-b.results.mapM (QG c)
 pure (if h:a.size=1 then a[0]else .tuple a)):=by
 unfold results
 congr 2
def ME{i:Fr}{a:Act}(r:yA g h)(f:mG d i a):∀(A:ay)(k:aC->Prop)(w:World),Bx d i w.heap->K8 h i w.heap A k->
 ∃n,k n/\(A.mapM (QG a.tmps)).run g w=.ok (n.map SV.v) w
 |[],k,w,_,b=>⟨[],b,bO⟩
 | .tmp t::u,k,w,j,b=>by
  simp only[K8]at b;cases c:(ku i t).mW
  .grind
  .rw[c]at b;obtain⟨n,q,D⟩:=ME r f u _ w j b;refine⟨_,q,?_⟩;have y:=(f.br t).eq c;have C:QG a.tmps (.tmp t)=pure (a.tmps.getD t undef):=rfl;grind [Go.Sem.run_bind,Go.Sem.run_pure,Go.Result.andThen_ok]
 | .cell p t::u,k,w,j,m=>by
  obtain⟨H,B,z,y,b⟩:=Qz r f j ⟨none,.load t (.tmp p),0,"",#[],none⟩ m;have b:=b w (λx _=>O);cases v:H.mW
  .grind
  rw[v]at z;obtain⟨n,q,D⟩:=ME r f u _ w j z;refine⟨_,q,?_⟩;have F:∃c o,a.tmps.getD p undef=.pointer (some ⟨c,o,none⟩):=by
   have l:=SV.aay (f.br p);simp only[K8,rd,ev]at m;split at m
   .rename_i c o s;rw[s]at l;exact⟨c,o,l⟩
   .rename_i x c o s;rw[s]at l;exact⟨c,o,l⟩
   .exact m.elim
  obtain⟨c,o,s⟩:=F;simp only[execOp,Instr.loadAt,Act.eval,s,Instr.sureAddr,eC,iG,dy]at b;have E:(loadVar t ⟨c,o,none⟩).run g w=.ok B w:=by
   cases x:(loadVar t ⟨c,o,none⟩).run g w with
   |ok I G=>
    rw[x]at b;simp at b;rw[b.1,b.2]
   |halt e G=>rw[x]at b;simp at b
  have G:=y.eq v;have C:(QG a.tmps (.cell p t)).run g w=.ok B w:=by
   simp only[QG,s,eC,asAddr,iG,dy,E]
  grind [Go.Sem.run_bind,Go.Sem.run_pure,Go.Result.andThen_ok]
def vk(z:yA g h)(J:GOK g G)(N:g.follows .mixedOrders=true){y:FuncId}{i:Func}{m:Code}{r:ay}{a:aC}{R:ak}
 (M:g.funcs[y]? =some i)(L:i.body=some m)(P:i.ntmps=d)(S:i.results=r.toArray)(A:a.all SV.mW=true)(X:a.length<=d)(hd:uS m=true)
 (j:Zw g h G o d r m a b R):bJ g y (a.map SV.v) b R:=by
 intro w U
 refine calls_of_wp M L ?_
 have K:mG d (y8 0 a) {tmps:=(a.map SV.v).toArray++Array.replicate (i.ntmps -(a.map SV.v).toArray.size) undef,defers:=[]}:=by
  refine⟨by simp[P];omega,O,λt=>?_⟩;rcases Md a 0 t with⟨n,_⟩|⟨_,p⟩
  .omega
  .rw[p,Nat.sub_zero];rcases eH t a.length with k|s
   .have u:(a[t]).mW=true:=LY.1 A _ (List.getElem_mem k);have c:a.getD t .jA=a[t]:=by simp[k]
    rw[c];have f:((a.map SV.v).toArray++Array.replicate (i.ntmps -(a.map SV.v).toArray.size) undef).getD t undef=(a[t]).v:=by
     simp[Array.getElem?_append,k]
    rw[f];exact rp
   .have c:a.getD t .jA=.jA:=by simp[lp s]
    rw[c];trivial
 have v:∀{q x e l},¬pb (y8 0 a) q x e l:=by
  intro q x e l f;rcases Md a 0 q with⟨n,_⟩|⟨_,p⟩
  .omega
  .unfold pb at f;rw[p,Nat.sub_zero]at f;rcases eH q a.length with k|s
   .have u:(a[q]).mW=true:=LY.1 A _ (List.getElem_mem k);have c:a.getD q .jA=a[q]:=by simp[k]
    rw[c]at f;rcases f with f|f<;>rw[f]at u<;>simp[SV.mW]at u
   .have c:a.getD q .jA=.jA:=by simp[lp s]
    rw[c]at f;simp at f
 have H:Bx d (y8 0 a) b:=⟨λ_ _ _ _ j=>absurd j v,λ_ _ _ _ _ _ _ _ _ j=>absurd j v,λ_ _ _ _ j=>absurd j v⟩
 refine mB ?_ (aaV z J N w m hd _ b _ _ w j K H U (rY.cX w))
 intro e s k c
 obtain⟨B,F,u,I,T,W,c⟩:=c.cJ
 have C:∀(c:adQ h r F k.heap R),s.defers=[]/\∃D,(results i s.tmps).run g k=.ok D k/\∃E,Ending.returned D=.returned E/\rY w k/\R E k.heap:=by
  intro c;refine⟨u.nP,?_⟩;obtain⟨l,n,p⟩:=ME z u r _ k I c;have Q:(results i s.tmps).run g k=.ok (if j:(l.map SV.v).toArray.size=1 then(l.map SV.v).toArray[0]else .tuple (l.map SV.v).toArray) k:=by
   rw[Xq,S,aa4];simp only[eC,Sem.run_map];rw[p];rfl
  refine⟨_,Q,_,O,T,?_⟩;cases l with
  |nil=>exact n
  |cons V l=>cases l with
   |nil=>exact n
   |cons Y l=>exact n
 cases e with
 |normal=>exact C c
 |ret=>exact C c
 |exit V=>exact c.elim
 |goto V=>exact c.elim
 |panic m=>exact absurd O (B.1 m)
 |outgrown=>exact absurd O B.2
end
abbrev vi(n:Int):Value:=.int .i64 n
abbrev vb(b:Bool):Value:=.bool b
abbrev vp(b o:Nat):Value:=.pointer (some ⟨b,o,none⟩)
def Me(f:Func):Code:=
 match f.body with
 |some c=>c
 |none=>.skip
section
variable{m a c e:D}{b k f n:Nat}{o:Obj}{v:Value}{l:ae}{s:E}{x:Int}{p:Prop}{P:Program}{d:ap}{K:ak}
@[grind cases] structure J (m m':D):Prop where
 aQ:m.size<=m'.size
 bB:∀b,b<m.size->m'[b]? =m[b]?
theorem J.cX(m:D):J m m:=by constructor<;>grind
def dt:J m m:=J.cX m
theorem J.N{b c:D}(h:J a b)(k:J b c):J a c:=
 by constructor<;>grind [J.aQ,J.bB]
theorem J.push(m:D)(o:Obj):J m (m.push o):=
 by constructor<;>grind
theorem J.cz(h:J a m)(o:Obj):J a (m.push o):=h.N (J.push m o)
theorem J.aW(h:J a m)(c:a.size<=b)(o:Nat)(l:ae):J a (aW m b o l):=
 by constructor<;>grind [bE,J.aQ,cw,J.bB]
theorem J.aS(h:J m c){o:Nat}(a:aS m b o=some v):aS c b o=some v:=by
 grind [bD,J.bB,pI]
theorem J.kv(h:J m c){o:Nat}(e:jw m b o l):jw c b o l:=λi a d=>h.aS (e i a d)
theorem dJ.ext(h:J m c){e:Nat}(a:dJ m b e l):dJ c b e l:=by
 grind [dJ,J.bB,Array.getElem?_eq_some_iff]
@[grind cases] structure fY {α:Type} (m:D) (sz:Nat) (R:ae->α->Prop) (s:E) (l:List α):Prop where
 aT:s.len=l.length
 mr:s.len<=s.cap
 kM:s.len<=9223372036854775807
 kv:∀(k:Nat)(x:α),l[k]? =some x->∃cs,R cs x/\jw m s.bt (s.off+k*sz) cs
def fY.aP{α:Type}{d:Nat}{R a:ae->α->Prop}{l:List α}(h:fY m d R s l)(f:J m c)(e:∀b x,R b x->a b x):fY c d a s l:=
 by constructor<;>grind [fY.aT,fY.mr,fY.kM,fY.kv,J.kv]
def aba(a:ae)(n:Int):Prop:=a=[.i n]
abbrev bg(m:D)(s:E)(l:ab):Prop:=fY m 1 aba s l
theorem bg.br{l:ab}(h:bg m s l)(a:l[k]? =some x):aS m s.bt (s.off+k*1)=some (vi x):=by
 obtain⟨c,rfl,b⟩:=h.kv k x a;exact b 0 (.i x) O
theorem bg.ext(a:J m c){l:ab}(h:bg m s l):bg c s l:=h.aP a λ_ _ h=>h
def px(a:D)(h:a=m.push o:=by rfl):J m a:=h▸(J.cX m).cz o
def pz(a:D)(h:a=m.push o:=by rfl):a.size=m.size+1:=by rw[h];simp
def pu(a:D)(h:a=m.push o:=by rfl):J m a/\a.size=m.size+1:=⟨px a h,pz a h⟩
def py(a:D)(h:a=aW (m.push o) m.size 0 l:=by rfl):J m a:=h▸((J.cX m).cz o).aW bY _ _
def pv(a:D)(h:a=aW (m.push o) m.size 0 l:=by rfl):J m a/\a.size=m.size+1:=⟨py a h,by rw[h,bE];simp⟩
theorem jq{α:Type}{l:List α}(h:k<l.length):∃x,l[k]? =some x:=⟨l[k],by simp[h]⟩
theorem dY{α:Type}(l:List α)(k:Nat)(h:k<l.length:=by omega):∃x,l[k]? =some x:=jq h
theorem gJ(h: -9223372036854775808<=x:=by omega)(k:x<=9223372036854775807:=by omega):eV x=x:=dk h k
def dT:(∀(b:Nat)(k:Prop),NE b b k=k)/\∀(x:SV)(k:Prop),eqS x x k=k:=⟨kU,nQ⟩
def oh{a:Prop}(x:a)(h:a->p:=by omega):p:=h x
def Yx{a b:Prop}(x:a)(y:b)(h:a->b->p:=by omega):p:=h x y
def sx{a:Prop}(h:a=False:=by simp)(x:a):p:=(h▸x:False).elim
theorem bC{α:Type}{l:List α}{x:α}(h:l[k]? =some x):k<l.length:=by grind [List.all]
theorem bW{α:Type}{l:List α}{x:α}(h:l[k]? =some x):l.take (k+1)=l.take k++[x]:=by
 rw[List.take_add_one,h];rfl
theorem eY{α:Type}{l:List α}(h:l.length<=k):l.take k=l:=yz h
def yB(P:Program)(f:Nat)(d:ap)(m:D)(v:Value):Prop:=bJ P f d m λa c=>a=v/\J m c
theorem yB.cg(h:yB P f d m v)(b:∀c,J m c->K v c):bJ P f d m K:=
 h.aP λ_ _⟨a,e⟩=>a▸b _ e
def Pl(h:k<9223372036854775807):eV ((k:Int)+1)=((k+1:Nat):Int):=by rw[dk V V];rfl
theorem E.YL{t:E}:s.v=t.v<->s=t:=by
 refine⟨λh=>?_,λh=>h▸O⟩;cases s<;>cases t<;>simp_all [E.v]
theorem J.fg(h:J m c){l:ad}(d:∀b∈l,b<m.size):gT l m c:=λb a=>h.bB b (d b a)
theorem J.lt(h:J m c)(a:b<m.size):b<c.size:=cC
def J.cK(h:J m c){o:Nat}(a:Vc.aS m b o=some v):Vc.aS c b o=Vc.aS m b o:=by rw[h.aS a,a]
theorem oU(h:k<n)(a:n<=9223372036854775807):eV ((k:Int)+1)=((k+1:Nat):Int):=by rw[dk V V];rfl
theorem Ql(h:k<n):((n:Int) -((k+1:Nat):Int)).toNat<((n:Int) -(k:Int)).toNat:=V
def iC(g:n<=9223372036854775807){b:(Int->D->Prop)->(Int->D->Nat)->Int->D->Prop}(Q:Nat->D->Prop)(d:Q 0 m)
 (h:∀(k:Nat)(a:D)(I:Int->D->Prop)(μ:Int->D->Nat),k<=n->Q k a->
  (k<n->∀c,Q (k+1) c->I (eV ((k:Int)+1)) c/\μ (eV ((k:Int)+1)) c<μ k a)->b I μ k a):
 ∃(I:Int->D->Prop)(μ:Int->D->Nat),I 0 m/\∀i a,I i a->b I μ i a:=by
 refine⟨λi c=>∃k:Nat,i=k/\k<=n/\Q k c,λi _=>(n -i).toNat,⟨0,O,jh _,d⟩,?_⟩
 rintro i a ⟨k,rfl,e,j⟩
 refine h k a _ _ e j λf c l=>?_
 rw[oU f g]
 grind
def gN{σ:Type}(l:n<=9223372036854775807){e:σ}{d:(σ->Int->D->Prop)->(σ->Int->D->Nat)->σ->Int->D->Prop}(Q:Nat->σ->D->Prop)(f:Q 0 e m)
 (h:∀(k:Nat)(s:σ)(a:D)(I:σ->Int->D->Prop)(μ:σ->Int->D->Nat),k<=n->Q k s a->
  (k<n->∀b c,Q (k+1) b c->I b (eV ((k:Int)+1)) c/\μ b (eV ((k:Int)+1)) c<μ s k a)->d I μ s k a):
 ∃(I:σ->Int->D->Prop)(μ:σ->Int->D->Nat),I e 0 m/\∀s i a,I s i a->d I μ s i a:=by
 refine⟨λs i c=>∃k:Nat,i=k/\k<=n/\Q k s c,λ_ i _=>(n -i).toNat,⟨0,O,jh _,f⟩,?_⟩
 rintro s i a ⟨k,rfl,g,o⟩
 refine h k s a _ _ g o λj b c p=>?_
 rw[oU j l]
 grind
def ir(P:Program)(f:Nat)(d:ap)(m:D)(p:Prop):Prop:=bJ P f d m λv c=>∃b:Bool,v=.bool b/\(b=true<->p)/\J m c
def ir.cg(h:ir P f d m p)(g:∀(b:Bool) c,(b=true<->p)->J m c->K (.bool b) c):bJ P f d m K:=
 h.aP λ_ _⟨b,e,a,i⟩=>e▸g b _ a i
def ir.bL{l:ad}(i:ir P f d m p)(g:J e m)(q:∀b∈l,b<e.size)
 (o:∀(b:Bool) c,(b=true<->p)->J m c->J e c->K (.bool b) c):bJ P f d m λv c=>gT l m c/\K v c:=
 i.aP λ_ _⟨b,n,j,a⟩=>⟨a.fg λh k=>g.lt (q h k),n▸o b _ j a (g.N a)⟩
def yB.bL{l:ad}(i:yB P f d m v)(g:J e m)(o:∀b∈l,b<e.size)
 (n:∀c,J m c->J e c->K v c):bJ P f d m λv c=>gT l m c/\K v c:=
 i.aP λ_ _⟨k,a⟩=>⟨a.fg λh j=>g.lt (o h j),k▸n _ a (g.N a)⟩
def bJ.bL{a:ak}{l:ad}(j:bJ P f d m K)(o:J e m)(n:∀b∈l,b<e.size)
 (g:∀v c,K v c->J m c/\a v c):bJ P f d m λv c=>gT l m c/\a v c:=
 j.aP λv c h=>⟨(g v c h).1.fg λi k=>o.lt (n i k),(g v c h).2⟩
def lI{b:Bool}(h:b=true<->p)(d:J m c):∃a:Bool,Value.bool b=.bool a/\(a=true<->p)/\J m c:=⟨b,O,h,d⟩
def gH(h:¬p)(b:J m c):∃a:Bool,Value.bool false=.bool a/\(a=true<->p)/\J m c:=cC
def pX(h:p)(b:J m c):∃a:Bool,Value.bool true=.bool a/\(a=true<->p)/\J m c:=by grind [List.take]
def nb{b:Bool}(a:b=true<->p)(h:(!b)=true):¬p:=cC
def yb{b:Bool}(a:b=true<->p)(h:(!b)=false):p:=a.1 cC
def fb{b:Bool}(a:b=true<->p)(h:b=false):¬p:=cC
def eI{α:Type}{l:List α}{x:α}{p:α->Prop}(a:l[k]? =some x)(h:∀y∈l.take k,p y)(b:p x):∀y∈l.take (k+1),p y:=by
 rw[bW a];grind
def iB{α:Type}{l:List α}{p:α->Prop}(a:l.length<=k)(h:∀y∈l.take k,p y):∀y∈l,p y:=by rw[<-eY a];exact h
theorem ba{α:Type}{l:List α}{x:α}(h:l[k]? =some x):x∈l:=kE h
end
section
variable{m:D}{s:E}{k:Nat}
structure cV where
 qC:Int
 to:Int
 dV:List ab
abbrev af:=List cV
structure Instr where
 op:Int
 bA:Int
 cG:Int
 cR:Int
 aO:ab
 fU:ab
structure dS where
 aY:ab
 cW:ab
 bP:Int
 aU:Int
 cD:List Instr
abbrev aA:=List (dS×E)
abbrev av:=List dS
structure cO where
 bR:af
 cU:av
def nD(m:D)(a:ae)(c:ab):Prop:=∃f,a=[.s f]/\bg m f c
def jO(m:D)(a:ae)(d:cV):Prop:=∃f,a=[.i d.qC,.i d.to,.s f]/\fY m 1 (nD m) f d.dV
def eW(m:D)(b:ae)(x:Instr):Prop:=∃a j,b=[.i x.op,.i x.bA,.i x.cG,.i x.cR,.s a,.s j]/\bg m a x.aO/\bg m j x.fU
def oK(m:D)(b:ae)(p:dS):Prop:=
 ∃a l c,b=[.s a,.s l,.i p.bP,.i p.aU,.s c]/\bg m a p.aY/\bg m l p.cW/\fY m 6 (eW m) c p.cD
abbrev rX(m:D)(s:E)(l:List ab):Prop:=fY m 1 (nD m) s l
abbrev dw(m:D)(s:E)(l:af):Prop:=fY m 3 (jO m) s l
abbrev iz(m:D)(s:E)(l:List Instr):Prop:=fY m 6 (eW m) s l
abbrev ly(m:D)(s:E)(l:av):Prop:=fY m 5 (oK m) s l
@[grind cases] structure iW (m:D) (d p:E) (im:cO):Prop where
 bR:dw m d im.bR
 cU:ly m p im.cU
def nD.ext{m b:D}(g:J m b)(a:ae)(c:ab):nD m a c->nD b a c:=λ⟨f,d,e⟩=>⟨f,d,e.ext g⟩
def rX.ext{m b:D}(a:J m b){s:E}{l:List ab}(h:rX m s l):rX b s l:=h.aP a (nD.ext a)
def jO.ext{m b:D}(g:J m b)(a:ae)(c:cV):jO m a c->jO b a c:=λ⟨f,d,e⟩=>⟨f,d,rX.ext g e⟩
theorem dw.ext{m b:D}(a:J m b){s:E}{l:af}(h:dw m s l):dw b s l:=h.aP a (jO.ext a)
def eW.ext{m d:D}(b:J m d)(a:ae)(c:Instr):eW m a c->eW d a c:=λ⟨e,j,f,g,h⟩=>⟨e,j,f,g.ext b,h.ext b⟩
def iz.ext{m b:D}(a:J m b){s:E}{l:List Instr}(h:iz m s l):iz b s l:=h.aP a (eW.ext a)
def oK.ext{m d:D}(a:J m d)(b:ae)(c:dS):oK m b c->oK d b c:=λ⟨e,l,c,f,g,h,i⟩=>⟨e,l,c,f,g.ext a,h.ext a,iz.ext a i⟩
def ly.ext{m b:D}(a:J m b){s:E}{l:av}(h:ly m s l):ly b s l:=h.aP a (oK.ext a)
def iW.ext{m c:D}(a:J m c){d p:E}{b:cO}(h:iW m d p b):iW c d p b:=⟨dw.ext a h.bR,ly.ext a h.cU⟩
theorem rX.br{l:List ab}(h:rX m s l){x:ab}(b:l[k]? =some x):
 ∃f,bg m f x/\aS m s.bt (s.off+k*1)=some f.v:=by
 obtain⟨d,⟨f,rfl,a⟩,c⟩:=h.kv k x b
 exact⟨f,a,c 0 (.s f) O⟩
theorem dw.br{l:af}(h:dw m s l){x:cV}(c:l[k]? =some x):
 ∃f,rX m f x.dV/\aS m s.bt (s.off+k*3)=some (vi x.qC)/\aS m s.bt (s.off+k*3+1)=some (vi x.to)/\aS m s.bt (s.off+k*3+2)=some f.v:=by
 obtain⟨d,⟨f,rfl,b⟩,a⟩:=h.kv k x c
 exact⟨f,b,a 0 (.i x.qC) O,a 1 (.i x.to) O,a 2 (.s f) O⟩
theorem iz.br{l:List Instr}(h:iz m s l){x:Instr}(e:l[k]? =some x):
 ∃b j,bg m b x.aO/\bg m j x.fU/\aS m s.bt (s.off+k*6)=some (vi x.op)/\aS m s.bt (s.off+k*6+1)=some (vi x.bA)/\aS m s.bt (s.off+k*6+2)=some (vi x.cG)/\
  aS m s.bt (s.off+k*6+3)=some (vi x.cR)/\aS m s.bt (s.off+k*6+4)=some b.v/\aS m s.bt (s.off+k*6+5)=some j.v:=by
 obtain⟨f,⟨b,j,rfl,c,d⟩,a⟩:=h.kv k x e
 exact⟨b,j,c,d,a 0 (.i x.op) O,a 1 (.i x.bA) O,a 2 (.i x.cG) O,a 3 (.i x.cR) O,a 4 (.s b) O,a 5 (.s j) O⟩
theorem ly.br{l:av}(h:ly m s l){x:dS}(i:l[k]? =some x):
 ∃a b c,bg m a x.aY/\bg m b x.cW/\iz m c x.cD/\aS m s.bt (s.off+k*5)=some a.v/\aS m s.bt (s.off+k*5+1)=some b.v/\aS m s.bt (s.off+k*5+2)=some (vi x.bP)/\
  aS m s.bt (s.off+k*5+3)=some (vi x.aU)/\aS m s.bt (s.off+k*5+4)=some c.v:=by
 obtain⟨j,⟨a,b,c,rfl,e,f,g⟩,d⟩:=h.kv k x i
 exact⟨a,b,c,e,f,g,d 0 (.s a) O,d 1 (.s b) O,d 2 (.i x.bP) O,d 3 (.i x.aU) O,d 4 (.s c) O⟩
end
section
variable{f a:D}{d:Nat}{s:E}{l:ae}{g:List ae}
@[grind cases] structure js (m0 m:D) (e sz:Nat) (s:E) (l:ae):Prop where
 aT:l.length=s.len*sz
 br:s=.nil\/∃b c tail,s=.mk b 0 s.len c/\m0.size<=b/\dJ m b e (l++tail)/\(l++tail).length=c*sz/\s.len<=c
theorem js.gF(f a:D)(d b:Nat):js f a d b .nil []:=⟨bO,bz O⟩
theorem js.bI(h:J f a)(d c:Nat)(l:ae)(k:Nat)(b:l.length=k*c):js f (a.push (.cells (dh l) d)) d c (.mk a.size 0 k k) l:=
 ⟨b,bH ⟨a.size,k,[],O,h.aQ,by rw[gA];exact dJ.push _ _ _,sp b,bY⟩⟩
theorem js.congr{f a e:D}{d g:Nat}{s:E}{l:ae}(h:js f a d g s l)(c:e[s.bt]? =a[s.bt]?):js f e d g s l:=by
 refine⟨h.aT,?_⟩;rcases h.br with b|⟨i,j,tail,b,h2,h3,h4,h5⟩
 .exact bz b
 .refine bH ⟨i,j,tail,b,h2,h3.congr ?_,h4,h5⟩;rw[b]at c;exact c
def js.lt{f a:D}{d c:Nat}{s:E}{l:ae}(h:js f a d c s l):s=.nil\/s.bt<a.size:=by
 rcases h.br with b|⟨e,g,tail,b,h2,h3,h4,h5⟩
 .exact bz b
 .rw[b];exact bH h3.lt
theorem js.ext{c:D}{e:Nat}(h:js f a d e s l)(g:J a c):js f c d e s l:=by
 rcases h.lt with b|b
 .subst b;exact⟨h.aT,bz O⟩
 .exact h.congr (g.bB _ b)
theorem js.de{c:D}{e:Nat}(h:js c a d e s l)(j:f.size<=c.size):js f a d e s l:=by
 refine⟨h.aT,?_⟩;rcases h.br with b|⟨g,i,tail,b,h2,h3,h4,h5⟩
 .exact bz b
 .exact bH ⟨g,i,tail,b,fC j h2,h3,h4,h5⟩
theorem js.bt{c:Nat}(h:js f a d c s l):s=.nil\/f.size<=s.bt:=by
 rcases h.br with b|⟨e,g,tail,b,h2,h3,h4,h5⟩
 .exact bz b
 .rw[b];exact bH h2
def jw.Rv{b o:Nat}{r:ae}(h:jw a b o (l++r)):jw a b o l:=λi c d=>h i c cC
def js.kv{f a:D}{d g:Nat}{s:E}{l:ae}(h:js f a d g s l):jw a s.bt s.off l:=by
 rcases h.br with b|⟨i,c,tail,b,h2,h3,h4,h5⟩
 .have:=cp.1 (by rw[h.aT,b];simp);subst this;intro j c e;simp at e
 .rw[b];exact h3.kv.Rv
theorem Cd(l a tail:ae)(h:a.length<=tail.length):jm (l++tail) l.length a=l++a++tail.drop a.length:=by
 apply eA;grind [Ff]
def js.fE{c:ae}{w:Nat}{x:E}{i:ae}{K:E->D->Prop}(k:js f a d c.length s l)(q:J f a)
 (t:i.length=x.len*c.length)(H:jw a x.bt x.off i)(u:(s.len+x.len)*w<=140737488355328)
 (v:∀n p,js f p d c.length n (l++i)->J f p->n.len=s.len+x.len->a.size<=p.size->(∀g,g<a.size->(s≠.nil->g≠s.bt)->p[g]? =a[g]?)->((s=.nil/\n=.nil)\/(s≠.nil/\n.bt=s.bt/\n≠.nil)\/n.bt=a.size)->K n p):
 mf a d c w s x K:=by
 refine⟨i,t,H,λF=>?_,λM=>⟨u,l,k.aT,k.kv,λj z=>?_⟩⟩
 .rcases k.br with h|⟨g,j,tail,h,h2,h3,h4,h5⟩
  .subst h
   have y:x.len=0:=sp F
   have B:=cp.1 (by rw[t,y];simp)
   subst B
   refine⟨λC A=>by simp at A,?_⟩
   exact v .nil _ ⟨by rw[gA];exact k.aT,bz O⟩ (by simpa[aW]using q) (by simp[y]) (D0 (bE _ _ _ _).symm) (λg u _=>by simp[aW]) (bz ⟨O,O⟩)
  .have A:=k.aT
   have L:s.cap=j:=by rw[h];rfl
   rw[h]
   simp only[E.nh,E.BV,E.lU,fD]
   simp only[dC]at h4
   have C:i.length<=tail.length:=by
    have B:(s.len+x.len)*c.length<=j*c.length:=fq _ V;rw[nC]at B;omega
   refine⟨h3.gK (by simp only[dC];omega),?_⟩
   have y:=dJ.aW (m:=a) (b:=g) (e:=d) (r:=i) (o:=s.len*c.length) h3
   rw[<-A,Cd l i tail C]at y
   refine v _ _ ⟨?_,bH ⟨g,j,tail.drop i.length,O,h2,?_,?_,?_⟩⟩ (q.aW h2 _ _) bO (D0 (bE _ _ _ _).symm) (λI _ G=>cw _ _ _ _ ?_) (bH (bz ⟨by rw[h];simp,by rw[h];rfl,bO⟩))
   .simp only[dC,E.lU,nC];omega
   .rw[<-A];exact y
   .simp only[dC,List.length_drop];omega
   .simp only[E.lU];omega
   .have:=G (by rw[h];simp)
    rw[h]at this;exact this
 .refine v _ _ ⟨?_,bH ⟨a.size,j,nv c (j -(s.len+x.len)),O,q.aQ,dJ.push _ _ _,?_,sp z⟩⟩ (q.cz _) bO bO (λg u _=>by rw[vm,aV V]) (bH (bH O))
  .simp only[dC,E.lU,nC,k.aT,t]
  .simp only[dC,vU,k.aT,t]
   rw[Nat.sub_mul,<-nC]
   have:(s.len+x.len)*c.length<=j*c.length:=fq _ z
   omega
theorem bg.jT{l:ab}(h:js f a d 1 s (l.map Ce.i))(n:l.length<=9223372036854775807):bg a s l:=by
 have i:s.len=l.length:=by have:=h.aT;simp at this;omega
 refine⟨i,?_,V,λk x g=>⟨[.i x],O,λj e c=>?_⟩⟩
 .rcases h.br with b|⟨m,e,tail,b,h2,h3,h4,h5⟩
  .rw[b];exact bY
  .rw[b];exact h5
 .have b:j=0:=by have:=bC c;simp at this;omega
  subst b;simp at c;subst c;have:=h.kv k (.i x) (by simp[g]);simpa using this
def j9{f:Nat}:∀{g:List ae}(_:∀a∈g,a.length=f){b:Nat}{a:ae}(_:g[b]? =some a){i:Nat}{c:Ce}(_:a[i]? =some c),g.flatten[b*f+i]? =some c
 |[],_,b,a,h,_,_,_=>by simp at h
 |x::g,d,0,a,h,i,c,e=>by
  grind
 |x::g,d,b+1,a,h,i,c,e=>by
  have l:=d x cQ;rw[tC,dQ cC];have:=j9 (g:=g) (λy k=>d y (aX _ k)) (b:=b) cC e;grind
theorem eD{b:Nat}:∀{g:List ae},(∀a∈g,a.length=b)->g.flatten.length=g.length*b
 |[],_=>bO
 |x::g,a=>by
  rw[tC,dC,eD (λy c=>a y (aX _ c)),a x cQ,dD,nC];omega
@[grind cases] structure fL {α:Type} (sz:Nat) (R:ae->α->Prop) (css:List ae) (l:List α):Prop where
 aT:css.length=l.length
 aQ:∀cs∈css,cs.length=sz
 eR:∀(j:Nat)(cs:ae)(x:α),css[j]? =some cs->l[j]? =some x->R cs x
theorem fL.gF{α:Type}(a:Nat)(R:ae->α->Prop):fL a R [] []:=⟨O,bO,bO⟩
def fL.Ch{α:Type}{a:Nat}{R:ae->α->Prop}{l:List α}(h:fL a R g l){cs:ae}{x:α}(b:cs.length=a)(c:R cs x):fL a R (g++[cs]) (l++[x]):=by
 constructor<;>grind
theorem fL.aP{α:Type}{c:Nat}{R a:ae->α->Prop}{l:List α}(h:fL c R g l)(d:∀b x,R b x->a b x):fL c a g l:=
 by constructor<;>grind
def fY.jT{α:Type}{c:Nat}{R:ae->α->Prop}{l:List α}(h:js f a d c s g.flatten)(e:fL c R g l)(q:0<c)(t:l.length<=9223372036854775807):fY a c R s l:=by
 have p:s.len=l.length:=by
  have b:=h.aT;rw[eD e.aQ]at b;have:=Nat.eq_of_mul_eq_mul_right q b;rw[<-this,e.aT]
 refine⟨p,?_,V,λk x o=>?_⟩
 .rcases h.br with b|⟨j,i,tail,b,h2,h3,h4,h5⟩
  .rw[b];exact bY
  .rw[b];exact h5
 .let⟨j,m⟩:=dY g k cC;refine⟨j,e.eR k j x m o,λr i n=>?_⟩;have:=h.kv (k*c+r) i (j9 e.aQ m n);grind
end
section
variable{S c:ad}{m a d:D}{b o e:Nat}{l:ae}{s:E}
def di(S:ad)(m:D):D:=m.mapIdx λb o=>if b∈S then .cells #[] 0 else o
def Le(M a:D):Prop:=∀b o v,aS M b o=some v->aS a b o=some v
theorem gY{v:Value}:aS (di S m) b o=some v<->b∉S/\aS m b o=some v:=by
 grind [aS,di]
def Le.cX(m:D):Le m m:=λ_ _ _ h=>h
def Le.N{a b c:D}(h:Le a b)(k:Le b c):Le a c:=λx o v d=>k x o v (h x o v d)
def J.le(h:J m a):Le m a:=λ_ _ _ b=>h.aS b
def adJ(S:ad)(m:D):Le (di S m) m:=λ_ _ _ h=>(gY.1 h).2
def fJ:Le (di S m) m:=adJ S m
theorem mH(h:∀b,b<m.size->b∉S->b∉c/\a[b]? =m[b]?):Le (di S m) (di c a):=λb o v d=>by
 grind [gY,pI,bD]
theorem J.di(h:J m a)(d:∀b∈c,b∈S\/m.size<=b):Le (di S m) (di c a):=
 by grind [mH,J.bB]
def J.eX(h:J m a):Le (Vc.di S m) (Vc.di S a):=by grind [J.di]
theorem kW(m:D)(a:∀b∈c,b∈S):Le (di S m) (di c m):=by grind [J.cX,J.di]
theorem Le.kv{M a:D}(h:Le M a)(e:jw M b o l):jw a b o l:=λi c d=>h _ _ _ (e i c d)
theorem fY.le{α:Type}{d:Nat}{R b:ae->α->Prop}{l:List α}(h:fY m d R s l)(f:Le m a)(e:∀c x,R c x->b c x):fY a d b s l:=
 by constructor<;>grind [fY.aT,fY.mr,fY.kM,fY.kv,Le.kv]
def bg.le{m a:D}(b:Le m a){s:E}{l:ab}(h:bg m s l):bg a s l:=by grind [fY.le]
def nD.le{m a:D}(g:Le m a)(b:ae)(c:ab):nD m b c->nD a b c:=λ⟨f,d,e⟩=>⟨f,d,e.le g⟩
def jO.le{m a:D}(d:Le m a)(b:ae)(c:cV):jO m b c->jO a b c:=λ⟨f,e,g⟩=>⟨f,e,fY.le g d (nD.le d)⟩
def dw.le{m a:D}(b:Le m a){s:E}{l:af}(h:dw m s l):dw a s l:=fY.le h b (jO.le b)
theorem TE(a:b∉S)(h:jw m b o l):jw (di S m) b o l:=λi c d=>gY.2 ⟨a,h i c d⟩
theorem fY.Qq{α:Type}{a:Nat}{R:ae->α->Prop}{c:List ae}{l:List α}(t:∀b∈S,b<d.size)(h:js d m e a s c.flatten)(k:fL a R c l)(n:0<a)(j:l.length<=9223372036854775807):fY (di S m) a R s l:=by
 have H:=fY.jT h k n j;refine⟨H.aT,H.mr,H.kM,λo x i=>?_⟩;let⟨p,q,r⟩:=H.kv o x i;rcases h.bt with f|f
 .have g:=H.aT;have:=bC i;rw[f]at g;simp at g;omega
 .grind [TE]
theorem bg.Qq{l:ab}(o:∀b∈S,b<d.size)(h:js d m e 1 s (l.map Ce.i))(g:l.length<=9223372036854775807):bg (di S m) s l:=by
 have H:=bg.jT h g;refine⟨H.aT,H.mr,H.kM,λk x f=>?_⟩;let⟨i,j,n⟩:=H.kv k x f;rcases h.bt with a|a
 .have c:=H.aT;have:=bC f;rw[a]at c;simp at c;omega
 .grind [TE]
end
section
variable{X Y S:ad}{m a b c d:D}{f:ae}{s:E}{k:Nat}
@[grind cases] structure Fz (X:ad) (m m':D):Prop where
 aQ:m.size<=m'.size
 bB:∀b,b<m.size->b∉X->m'[b]? =m[b]?
theorem Fz.cX(X:ad)(m:D):Fz X m m:=by constructor<;>grind
def nR:Fz X m m:=Fz.cX X m
theorem Fz.wE(h:Fz X a b)(k:Fz Y b c)(d:∀y∈Y,y∈X\/a.size<=y):Fz X a c:=
 by constructor<;>grind [Fz.aQ,Fz.bB]
theorem Fz.N(h:Fz X a b)(k:Fz X b c):Fz X a c:=by grind [Fz.wE]
theorem J.fz(h:J m d)(X:ad):Fz X m d:=⟨h.aQ,λb a _=>h.bB b a⟩
theorem Fz.cg(h:Fz X a b)(k:J b c):Fz X a c:=h.N (k.fz X)
def Fz.push{X:ad}{a m:D}(h:Fz X a m)(o:Obj):Fz X a (m.push o):=h.cg (J.push m o)
theorem Fz.ext(h:Fz [] m d):J m d:=by constructor<;>grind [Fz.aQ,Fz.bB]
theorem Fz.IK(h:Fz X m d)(a:∀b∈X,b∈Y\/m.size<=b):Fz Y m d:=by constructor<;>grind [Fz.aQ,Fz.bB]
theorem Fz.aW(h:Fz X a m){b:Nat}(c:b∈X\/a.size<=b)(o:Nat)(l:ae):Fz X a (aW m b o l):=
 ⟨by rw[bE];exact h.aQ,λj f d=>by
  have e:j≠b:=λe=>by subst e;exact c.elim d λc=>V
  rw[cw l m b o e];exact h.bB j f d⟩
theorem Fz.di(h:Fz X m d){a:ad}(e:∀b∈X,b∈S)(c:∀b∈a,b∈S\/m.size<=b):Le (di S m) (di a d):=
 by grind [mH,Fz.bB]
theorem Fz.eX(h:Fz X m d)(a:∀b∈X,b∈S):Le (Vc.di S m) (Vc.di S d):=by grind [Fz.di]
def Fz.fg(h:Fz X m d){l:ad}(c:∀b∈l,b<m.size/\b∉X):gT l m d:=λb a=>h.bB b (c b a).1 (c b a).2
inductive Ex where
 |mk (op cG:Int) (dA:List Ex)
abbrev aJ:=List (dS×Ex)
abbrev ax:=List Ex
def Ex.op:Ex->Int| .mk o _ _=>o
def Ex.cG:Ex->Int| .mk _ n _=>n
def Ex.dA:Ex->ax| .mk _ _ k=>k
structure Rz(β:Type)where
 op:Int
 cG:Int
 cR:Int
 aO:ab
 dA:List β
inductive Bk where
 |mk (bq:List (Rz Bk)) (bP:Int)
abbrev aF:=List Bk
abbrev eQ:=Rz Bk
abbrev au:=List eQ
def Bk.bq:Bk->au| .mk s _=>s
def Bk.bP:Bk->Int| .mk _ r=>r
@[simp] theorem Ex.acv (o n:Int) (k:ax):(Ex.mk o n k).op=o:=rfl
@[simp] theorem Ex.aaA (o n:Int) (k:ax):(Ex.mk o n k).cG=n:=rfl
@[simp] theorem Ex.Yn (o n:Int) (k:ax):(Ex.mk o n k).dA=k:=rfl
@[simp] theorem Bk.mZ (s:au) (r:Int):(Bk.mk s r).bq=s:=rfl
@[simp] theorem Bk.lV (s:au) (r:Int):(Bk.mk s r).bP=r:=rfl
inductive Ef(m:D):ae->Ex->Prop
 |mk (op cG:Int) (dA:ax) (s:E) (css:Nat->ae) (hl:s.len=dA.length) (hc:s.len<=s.cap) (hm:s.len<=9223372036854775807)
  (hr:∀(k:Nat)(x:Ex),dA[k]? =some x->jw m s.bt (s.off+k*3) (css k)) (hk:∀(k:Nat)(x:Ex),dA[k]? =some x->Ef m (css k) x):Ef m [.i op,.i cG,.s s] (.mk op cG dA)
inductive vV(m:D):ae->Bk->Prop
 |mk (bq:List (Rz Bk)) (r:Int) (s:E) (hl:s.len=bq.length) (hc:s.len<=s.cap) (hm:s.len<=9223372036854775807) (aa ks:Nat->E) (kcs:Nat->Nat->ae)
  (hr:∀(k:Nat)(x:Rz Bk),bq[k]? =some x->jw m s.bt (s.off+k*5) [.i x.op,.i x.cG,.i x.cR,.s (aa k),.s (ks k)]/\bg m (aa k) x.aO/\(ks k).len=x.dA.length/\(ks k).len<=(ks k).cap/\(ks k).len<=9223372036854775807)
  (hb:∀(k:Nat)(x:Rz Bk)(j:Nat)(b:Bk),bq[k]? =some x->x.dA[j]? =some b->jw m (ks k).bt ((ks k).off+j*2) (kcs k j))
  (hk:∀(k:Nat)(x:Rz Bk)(j:Nat)(b:Bk),bq[k]? =some x->x.dA[j]? =some b->vV m (kcs k j) b):vV m [.s s,.i r] (.mk bq r)
def km(m:D)(f:ae)(x:eQ):Prop:=∃a k,f=[.i x.op,.i x.cG,.i x.cR,.s a,.s k]/\bg m a x.aO/\fY m 2 (vV m) k x.dA
abbrev jr(m:D)(s:E)(l:ax):Prop:=fY m 3 (Ef m) s l
abbrev iI(m:D)(s:E)(l:au):Prop:=fY m 5 (km m) s l
abbrev rW(m:D)(s:E)(l:aF):Prop:=fY m 2 (vV m) s l
theorem Ef.le(h:Le m d){e:Ex}(a:Ef m f e):Ef d f e:=by
 induction a with
 |mk n cG dA s b g c i a o l=>exact .mk n cG dA s b g c i (λk x j=>h.kv (a k x j)) l
theorem vV.le{m d:D}(h:Le m d){f:ae}{b:Bk}(a:vV m f b):vV d f b:=by
 induction a with
 |mk bq t s o n p e ks r a l u q=>
  exact .mk bq t s o n p e ks r (λk x c=>let⟨g,i,j⟩:=a k x c;⟨h.kv g,i.le h,j⟩) (λk x j b c g=>h.kv (l k x j b c g)) q
def fY.Kw{α:Type}{a:Nat}{R:ae->α->Prop}{l:List α}(h:fY m a R s l):
 ∃b:Nat->ae,∀(k:Nat)(x:α),l[k]? =some x->R (b k) x/\jw m s.bt (s.off+k*a) (b k):=by
 have:∀k:Nat,∃f:ae,∀x:α,l[k]? =some x->R f x/\jw m s.bt (s.off+k*a) f:=λk=>by
  cases e:l[k]? with
  |none=>exact⟨[],λx c=>by simp at c⟩
  |some x=>obtain⟨f,d⟩:=h.kv k x e;exact⟨f,λy c=>by simp at c;exact c▸d⟩
 exact⟨λk=>Classical.choose (this k),λk=>iS (this k)⟩
theorem Ef.cJ{e:Ex}(h:Ef m f e):∃s,f=[.i e.op,.i e.cG,.s s]/\jr m s e.dA:=by
 cases h with
 |mk l cG dA s b g c i j d=>exact⟨s,O,g,c,i,λk x a=>⟨b k,d k x a,j k x a⟩⟩
def Ef.of{b cG:Int}{dA:ax}(h:jr m s dA):Ef m [.i b,.i cG,.s s] (.mk b cG dA):=by
 let⟨d,c⟩:=h.Kw;exact .mk b cG dA s d h.aT h.mr h.kM (λk x a=>(c k x a).2) λk x a=>(c k x a).1
theorem vV.cJ{b:Bk}(h:vV m f b):∃s,f=[.s s,.i b.bP]/\iI m s b.bq:=by
 cases h with
 |mk bq w s r p t d ks v u o q=>
  exact⟨s,O,r,p,t,λk x a=>let⟨e,g,i,l,n⟩:=u k x a;⟨_,⟨d k,ks k,O,g,i,l,n,λj b c=>⟨v k j,q k x j b a c,o k x j b a c⟩⟩,e⟩⟩
def vV.of{r:Int}{bq:au}(h:iI m s bq):vV m [.s s,.i r] (.mk bq r):=by
 let⟨g,n⟩:=h.Kw;have:∀k:Nat,∃(a c:E)(kc:Nat->ae),∀x:eQ,bq[k]? =some x->g k=[.i x.op,.i x.cG,.i x.cR,.s a,.s c]/\bg m a x.aO/\(c.len=x.dA.length/\c.len<=c.cap/\c.len<=9223372036854775807)/\
  ∀(j:Nat)(b:Bk),x.dA[j]? =some b->vV m (kc j) b/\jw m c.bt (c.off+j*2) (kc j):=λk=>by
  cases o:bq[k]? with
  |none=>exact⟨.nil,.nil,λ_=>[],λx d=>by simp at d⟩
  |some x=>
   obtain⟨⟨a,c,i,l,e⟩,_⟩:=n k x o
   let⟨kc,p⟩:=e.Kw
   exact⟨a,c,kc,λy f=>by simp at f;subst f;exact⟨i,l,⟨e.aT,e.mr,e.kM⟩,p⟩⟩
 have H:=λk=>iS (iS (iS (this k)));refine .mk bq r s h.aT h.mr h.kM (λk=>Classical.choose (this k)) (λk=>Classical.choose (iS (this k))) (λk=>Classical.choose (iS (iS (this k)))) (λk x d=>?_) (λk x j b d e=>((H k x d).2.2.2 j b e).2) λk x j b d e=>((H k x d).2.2.2 j b e).1;grind
theorem km.le{m d:D}(h:Le m d){f:ae}{x:eQ}:km m f x->km d f x:=λ⟨a,k,b,c,e⟩=>⟨a,k,b,c.le h,fY.le e h λ_ _=>vV.le h⟩
def jr.le{m d:D}(a:Le m d){s:E}{l:ax}(h:jr m s l):jr d s l:=by grind [fY.le,Ef.le]
def iI.le{m d:D}(a:Le m d){s:E}{l:au}(h:iI m s l):iI d s l:=by grind [fY.le,km.le]
def rW.le{m d:D}(a:Le m d){s:E}{l:aF}(h:rW m s l):rW d s l:=by grind [fY.le,vV.le]
theorem jr.br{l:ax}(h:jr m s l){x:Ex}(b:l[k]? =some x):
 ∃t,jr m t x.dA/\aS m s.bt (s.off+k*3)=some (vi x.op)/\aS m s.bt (s.off+k*3+1)=some (vi x.cG)/\aS m s.bt (s.off+k*3+2)=some t.v:=by
 let⟨f,d,a⟩:=h.kv k x b
 obtain⟨t,rfl,c⟩:=d.cJ
 exact⟨t,c,a 0 _ O,a 1 _ O,a 2 _ O⟩
theorem iI.br{l:au}(h:iI m s l){x:eQ}(e:l[k]? =some x):
 ∃a t,bg m a x.aO/\rW m t x.dA/\aS m s.bt (s.off+k*5)=some (vi x.op)/\aS m s.bt (s.off+k*5+1)=some (vi x.cG)/\aS m s.bt (s.off+k*5+2)=some (vi x.cR)/\aS m s.bt (s.off+k*5+3)=some a.v/\aS m s.bt (s.off+k*5+4)=some t.v:=by
 obtain⟨f,⟨a,t,rfl,c,d⟩,b⟩:=h.kv k x e
 exact⟨a,t,c,d,b 0 _ O,b 1 _ O,b 2 _ O,b 3 _ O,b 4 _ O⟩
theorem rW.br{l:aF}(h:rW m s l){x:Bk}(b:l[k]? =some x):
 ∃t,iI m t x.bq/\aS m s.bt (s.off+k*2)=some t.v/\aS m s.bt (s.off+k*2+1)=some (vi x.bP):=by
 let⟨f,d,a⟩:=h.kv k x b
 obtain⟨t,rfl,c⟩:=d.cJ
 exact⟨t,c,a 0 _ O,a 1 _ O⟩
def Bk.w:Bk->Nat
 | .mk bq _=>1+(bq.map λs=>1+s.aO.length+(s.dA.map Bk.w).sum).sum
decreasing_by
 rename_i s a _ _
 have b:=tj a
 have c:=tj (by assumption:_∈s.dA)
 have d:SizeOf.sizeOf s.dA<SizeOf.sizeOf s:=by cases s;simp;omega
 simp;omega
def Rz.w(s:Rz Bk):Nat:=1+s.aO.length+(s.dA.map Bk.w).sum
def Bk.afn(b:Bk):b.w=1+(b.bq.map Rz.w).sum:=by
 cases b;rw[Bk.w];rfl
def Ex.n:Ex->Nat
 | .mk _ _ dA=>1+(dA.map Ex.n).sum
end
section
variable{S Y S' X:ad}{d a c:D}{b k n i tb:Nat}{s x:E}{h f o:ae}{g:List ae}{K:E->D->Prop}
@[grind cases] structure qF {α:Type} (sz:Nat) (R:D->ae->α->Prop):Prop where
 le:∀{M M':D}{cs:ae}{x:α},Le M M'->R M cs x->R M' cs x
 aT:∀{M:D}{cs:ae}{x:α},R M cs x->cs.length=sz
def yD(_:D)(f:ae)(n:Int):Prop:=aba f n
theorem yD.aP:qF 1 yD:=⟨λ_ h=>h,λh=>by rw[h];rfl⟩
def Ef.aP:qF 3 Ef:=by constructor<;>grind [Ef.le,Ef.cJ]
def vV.aP:qF 2 vV:=by constructor<;>grind [vV.le,vV.cJ]
theorem km.aP:qF 5 km:=⟨λh=>km.le h,λh=>by obtain⟨_,_,rfl,_⟩:=h;rfl⟩
@[grind cases] structure Gr {α:Type} (S:ad) (m0 m:D) (e sz:Nat) (R:D->ae->α->Prop) (s:E) (l:List α):Prop where
 iY:s≠.nil
 bF:∃css,js m0 m e sz s css.flatten/\fL sz (R (di (s.bt::S) m)) css l
theorem Gr.aT{α:Type}{S:ad}{d a:D}{b c:Nat}{R:D->ae->α->Prop}{s:E}{l:List α}(h:Gr S d a b c R s l)(i:0<c):s.len=l.length:=by
 obtain⟨_,g,e,f⟩:=h;have:=e.aT;rw[eD f.aQ]at this;grind [fL.aT,Nat.eq_of_mul_eq_mul_right]
theorem Gr.cF{α:Type}{f:Nat}{R:D->ae->α->Prop}{l:List α}(h:Gr S d a b f R s l):d.size<=s.bt/\s.bt<a.size:=by
 let⟨c,g,e,i⟩:=h;exact⟨e.bt.resolve_left c,e.lt.resolve_left c⟩
theorem Gr.bI{α:Type}(S:ad){d a:D}(h:d.size<=a.size){b c:Nat}{R:D->ae->α->Prop}:Gr S d (a.push (.cells (dh []) b)) b c R (.mk a.size 0 0 0) []:=
 ⟨bO,[],(js.bI (J.cX a) b c [] 0 bO).de h,fL.gF _ _⟩
def Gr.fH{α:Type}{S Y:ad}{d a c:D}{b e:Nat}{R:D->ae->α->Prop}{s:E}{l:List α}(k:qF e R)(h:Gr S d a b e R s l)(n:Fz Y a c)(m:∀f∈Y,f∈S/\f<d.size):Gr S d c b e R s l:=by
 have o:=h.cF;let⟨f,g,i,j⟩:=h;constructor<;>grind [js.congr,Fz.bB,fL.aP,Fz.eX,List.mem_cons_of_mem]
def Gr.P9{α:Type}{h:Nat}{R:D->ae->α->Prop}{l:List α}(o:qF h R)(i:Gr S d a b h R s l)(j:Fz Y a c)(p:∀e∈Y,e∈S)(r:s.bt∉Y):Gr S d c b h R s l:=by
 have t:=i.cF;let⟨k,g,m,n⟩:=i;exact⟨k,g,m.congr (j.bB _ t.2 r),n.aP λf x=>o.le (j.eX λe q=>aX _ (p e q))⟩
theorem Gr.re{α:Type}{h:Nat}{R:D->ae->α->Prop}{l:List α}(p:qF h R)(i:Gr S d a b h R s l)(k:Fz Y a c)(q:∀e∈Y,e∈S)(r:s.bt∉Y)(u:∀e∈S',e∈S\/a.size<=e):Gr S' d c b h R s l:=by
 have t:=i.cF;let⟨m,g,n,o⟩:=i;refine⟨m,g,n.congr (k.bB _ t.2 r),o.aP λf x=>p.le (k.di (λe j=>aX _ (q e j)) λe j=>?_)⟩;grind [List.mem_cons_self,List.mem_cons_of_mem]
theorem Gr.ext{α:Type}{e:Nat}{R:D->ae->α->Prop}{l:List α}(f:qF e R)(h:Gr S d a b e R s l)(g:J a c):Gr S d c b e R s l:=
 h.fH f (g.fz []) bO
theorem Gr.cB{α:Type}{c:Nat}{R:D->ae->α->Prop}{l:List α}(f:qF c R)(h:Gr S d a b c R s l)(g:∀e∈S,e<d.size)(i:0<c)(e:l.length<=9223372036854775807):fY (di S a) c (R (di S a)) s l:=by
 grind [fY.Qq,fL.aP,kW,List.mem_cons_of_mem]
theorem J.Rv(h:k<=a.size):J (a.extract 0 k) a:=by
 constructor<;>grind [Array.getElem?_extract]
theorem vI(h:k<=a.size):(a.extract 0 k).size=k:=fu
def Gr.zV{α:Type}{F:Nat}{R:D->ae->α->Prop}{C E:List α}(G:qF h.length R)(W:0<h.length)
 (y:Gr S d a b h.length R s C)(H:Fz X d a)(u:x.len=g.length)(T:jw a x.bt x.off g.flatten)(n:fL h.length (R (di (s.bt::S) a)) g E)(i:(C.length+E.length)*F<=140737488355328)
 (P:∀r c,Gr S d c b h.length R r (C++E)->Fz X d c->(a.size<=c.size/\(r.bt=s.bt\/a.size<=r.bt))->(∀e,e<a.size->e≠s.bt->c[e]? =a[e]?)->K r c):mf a b h F s x K:=by
 have Q:=y.aT W
 have hy:=y.cF
 let⟨z,w,O,j⟩:=y
 have q:d.size<=a.size:=H.aQ
 refine js.fE (f:=a.extract 0 d.size) (c:=h) (i:=g.flatten) (l:=w.flatten) (O.de (by rw[vI q];exact bY)) (J.Rv q) ?_ T (by rw[Q,u,n.aT];exact i) λr c Y k2 k3 Z k5 B=>?_
 .rw[eD n.aQ,u]
 have A:∀e,e<a.size->e≠s.bt->c[e]? =a[e]? :=λe i k=>k5 e i λ_=>k
 have U:r≠.nil:=by
  rcases B with⟨f,_⟩|⟨_,_,f⟩|f
  .exact absurd f z
  .exact f
  .intro b;rw[b]at f;simp at f;omega
 have L:a.size<=c.size:=Z
 have I:Le (di (s.bt::S) a) (di (r.bt::S) c):=mH λe i k=>by
  simp only[aZ,CL]at k;refine⟨?_,A e i k.1⟩;simp only[aZ,CL];refine⟨?_,k.2⟩;rcases B with⟨f,_⟩|⟨_,f,_⟩|f
  .exact absurd f z
  .rw[f];exact k.1
  .omega
 refine P r c ⟨U,w++g,?_,?_⟩ ⟨fC q L,λe i u=>?_⟩ ⟨L,?_⟩ A
 .rw[vn]
  exact Y.de (by rw[vI q];exact bY)
 .refine⟨by simp[j.aT,n.aT],λm o=>?_,λM m N t v=>?_⟩
  .rcases bT.1 o with o|o
   .exact j.aQ m o
   .exact n.aQ m o
  .rcases eH M w.length with p|p
   .rw[dZ p]at t
    rw[dZ (j.aT▸p)]at v
    exact G.le I (j.eR M m N t v)
   .rw[dQ p]at t
    rw[dQ (by rw[<-j.aT];exact p),<-j.aT]at v
    exact G.le I (n.eR _ m N t v)
 .rw[A e (cr i q) V];exact H.bB e i u
 .rcases B with⟨f,_⟩|⟨_,f,_⟩|f
  .exact absurd f z
  .exact bz f
  .exact bH V
def Gr.nI{α:Type}{o:Nat}{R:D->ae->α->Prop}{n:List α}{m:α}(j:qF h.length R)(A:0<h.length)
 (t:Gr S d a b h.length R s n)(x:Fz X d a)(q:R (di (s.bt::S) a) f m)(k:(n.length+1)*o<=140737488355328)
 (y:∀r c,Gr S d c b h.length R r (n++[m])->Fz X d c->(a.size<=c.size/\(r.bt=s.bt\/a.size<=r.bt))->(∀g,g<a.size->g≠s.bt->c[g]? =a[g]?)->K r c):mf (a.push (.cells (dh f) b)) b h o s (.mk a.size 0 1 1) K:=by
 have i:=J.push a (.cells (dh f) b)
 refine Gr.zV (g:=[f]) (E:=[m]) j A (t.ext j i) (x.cg i) O ?_ ?_ k λr c u v p w=>y r c u v ⟨fC i.aQ p.1,p.2.imp id (fC i.aQ)⟩ λg k z=>(w g (cr k i.aQ) z).trans (i.bB g k)
 .have:=(dJ.push a (e:=b) (l:=f)).kv
  simpa using this
 .have:=fL.Ch (fL.gF h.length (R (di (s.bt::S) (a.push (.cells (dh f) b))))) (j.aT q) (j.le i.eX q)
  simpa using this
def fY.acw{α:Type}{b:Nat}{R:ae->α->Prop}{l:List α}(D:∀f x,R f x->f.length=b)(q:fY a b R s l):
 ∃g,s.len=g.length/\jw a s.bt s.off g.flatten/\fL b R g l:=by
 let⟨c,y⟩:=q.Kw
 have w:∀(d:Nat)(f:ae),((List.range l.length).map c)[d]? =some f->d<l.length/\f=c d:=λd f e=>by
  grind [Option.map_eq_some_iff,List.getElem?_eq_some_iff]
 have k:∀f∈(List.range l.length).map c,f.length=b:=λf v=>by
  let⟨d,e⟩:=db.1 v;obtain⟨u,rfl⟩:=w d f e;let⟨x,p⟩:=jq u;grind
 refine⟨(List.range l.length).map c,by simp[q.aT],λi t o=>?_,bO,k,λd f x e p=>?_⟩
 .rcases GF b with m|m
  .have h:=bC o
   rw[eD k,m]at h;simp at h
  have h:=bC o
  rw[eD k]at h
  simp at h
  have e:i/b<l.length:=Nat.div_lt_of_lt_mul cC
  let⟨x,p⟩:=jq e
  have z:i=i/b*b+i%b:=by grind [Nat.mul_comm,Nat.div_add_mod]
  have E:=Nat.mod_lt i m
  have C:(c (i/b)).length=b:=cC
  let⟨A,r⟩:=dY (c (i/b)) (i%b)
  have n:=j9 (g:=(List.range l.length).map c) k (b:=i/b) (a:=c (i/b)) (by simp[e]) r
  rw[<-z,o]at n
  simp at n;subst n
  have B:=(y _ x p).2 _ t r
  grind [Nat.add_assoc]
 .grind
def Gr.lZ{α:Type}{j:Nat}{R:D->ae->α->Prop}{l i:List α}(k:qF h.length R)(v:0<h.length)
 (f:Gr S d a b h.length R s l)(t:Fz X d a)(p:fY (di (s.bt::S) a) h.length (R (di (s.bt::S) a)) x i)(q:(l.length+i.length)*j<=140737488355328)
 (u:∀r c,Gr S d c b h.length R r (l++i)->Fz X d c->(a.size<=c.size/\(r.bt=s.bt\/a.size<=r.bt))->(∀e,e<a.size->e≠s.bt->c[e]? =a[e]?)->K r c):mf a b h j s x K:=by
 let⟨g,m,n,o⟩:=p.acw λ_ _ f=>k.aT f
 exact Gr.zV k v f t m (fJ.kv n) o q u
def Gr.jY{α:Type}{e:Nat}{R:D->ae->α->Prop}{l:List α}(j:qF e R)(i:d.size<=a.size)(k:f=g.flatten)(m:n=g.length)(h:fL e (R (di S a)) g l):
 Gr S d (a.push (.cells (dh f) b)) b e R (.mk a.size 0 n n) l:=by
 subst k m
 refine⟨bO,g,(js.bI (J.cX a) b e g.flatten g.length (eD h.aQ)).de i,h.aP λp x=>j.le ?_⟩
 exact(J.push a _).di λo c=>by
  rcases aZ.1 c with c|c
  .exact bH (by simp[c])
  .exact bz c
def Gr.sa{α:Type}{c:Nat}{R:D->ae->α->Prop}{l:List α}(n:qF c R)(h:Gr S d a b c R s l)(o:s.bt∉S)(r:0<c)(q:l.length<=9223372036854775807):fY (di S a) c (R (di S a)) s l:=by
 obtain⟨_,g,e,i⟩:=h;have H:=fY.jT e (i.aP λf x=>n.le (kW a λm j=>aX s.bt j)) r q;exact⟨H.aT,H.mr,H.kM,λk x p=>let⟨f,j,m⟩:=H.kv k x p;⟨f,j,TE o m⟩⟩
def Gr.ne{α:Type}{c:Nat}{R:D->ae->α->Prop}{l:List α}(h:Gr S d a b c R s l)(e:dJ a i tb o)(f:tb≠b):s.bt≠i:=by
 grind [js.br,E.nh,dJ]
theorem Gr.Qm{α β:Type}{q:D}{r c t:Nat}{R:D->ae->α->Prop}{f:D->ae->β->Prop}{e:E}{o:List α}{p:List β}(j:Gr S d a b r R s o)(k:Gr S' q a c t f e p)(n:c≠b):s.bt≠e.bt:=by
 let⟨l,g,m,z⟩:=k;let⟨u,v,tail,h,w,i,x,y⟩:=m.br.resolve_left l;have:=j.ne i n;rw[h];exact this
def Gr.bU{α:Type}{L:ad}{j w:Nat}{R:D->ae->α->Prop}{t:List α}{v:α}{K:D->Prop}(B:qF h.length R)(W:0<h.length)
 (z:Gr S d a b h.length R s t)(Q:Fz X d a)(P:R (di (s.bt::S) a) f v)(k:(t.length+1)*w<=140737488355328)
 (p:dJ a i tb o)(Z:j<o.length)(G:tb≠b)(C:d.size<=i/\i∈S)(A:∀e∈L,e<a.size/\e≠i/\e≠s.bt)
 (T:∀r c,Gr S d c b h.length R r (t++[v])->dJ c i tb (jm o j [.s r])->Fz X d c->a.size<=c.size->(∀e,e<a.size->e≠s.bt->e≠i->c[e]? =a[e]?)->K c):
 aS (a.push (.cells (dh f) b)) i j=aS a i j/\
 mf (a.push (.cells (dh f) b)) b h w s (.mk a.size 0 1 1) λr c=>gT L (a.push (.cells (dh f) b)) c/\gK c i j 1/\(gT L c (aW c i j [.s r])/\K (aW c i j [.s r])):=by
 have E:=p.lt
 have H:=J.push a (.cells (dh f) b)
 refine⟨bD (H.bB i E) j,Gr.nI B W z Q P k λr c y I Y u=>?_⟩
 have q:dJ c i tb o:=p.congr (u i E (uK (z.ne p G)))
 have U:=y.ne q G
 have n:∀e,e≠i->(aW c i j [.s r])[e]? =c[e]? :=λe k=>cw _ _ _ _ k
 refine⟨λe k=>?_,q.gK V,λe k=>n e (A e k).2.1,T r _ ?_ (dJ.aW (m:=c) q) (I.aW (bH C.1) _ _) (by rw[bE];exact Y.1) λe l N O=>(n e O).trans (u e l N)⟩
 .have l:=A e k
  rw[u e l.1 l.2.2,H.bB e l.1]
 .let⟨M,g,g1,g2⟩:=y
  refine⟨M,g,g1.congr (n _ U),g2.aP λf x=>B.le ?_⟩
  exact mH λe k F=>⟨F,n e λb=>F (by rw[b];exact aX _ C.2)⟩
theorem bg.jY(b:Nat){l:ab}(e:∀c∈S,c<a.size)(c:f=l.map Ce.i)(d:n=l.length)(g:l.length<=9223372036854775807):bg (di S (a.push (.cells (dh f) b))) (.mk a.size 0 n n) l:=by
 subst c d;have h:=js.bI (J.cX a) b 1 (l.map Ce.i) l.length bO;grind [bg.Qq]
end
section
variable{x y:Operand}{k:SV->Prop}{l h:ae}{f:Int->Prop}{r:aB}{a:Int}{g:Array (Nat×Operand)}{e:ar}{Q:Exit->Fr->D->Prop}{c:Code}
section
variable{P:Program}{T:TT}{G:ad}{n:Nat}{A:Uv}{m q:D}{p u:Fr}{b o j i t:Nat}{s:Sh}{d:Option Nat}{v:Value}
def nc(n:Nat):Int:=n
def nce{n:Nat}:nc n=n:=rfl
def acd:ZY T p .len [t] [x] k=match jo T t,ev p x with
 |some ⟨.slice _,_,_⟩,.c (.s s)=>k (.c (.i (nc s.len)))
 |_,_=>False:=rfl
def ace{l:ad}:ZY T p .max l [x,y] k=match ev p x,ev p y with
 | .c (.i a),.c (.i b)=>k (.c (.i (if b>a then b else a)))
 |_,_=>False:=rfl
def acf{l:ad}:ZY T p .min l [x,y] k=match ev p x,ev p y with
 | .c (.i a),.c (.i b)=>k (.c (.i (if b<a then b else a)))
 |_,_=>False:=rfl
def Ys(m:D)(k:D->Prop):TM m k=(let q:=m;k q):=rfl
def pa{α:Type}(x:α)(f:α->Prop):Prop:=f x
def Y6(s:Sh)(f:s.ty->Prop):Prop:=∃x,f x
def alS(s:Sh)(f:s.ty->Prop):Prop:=∀x,f x
def exI:Y6 .I f=∃x,pa x f:=rfl
def exU{k:IntKind}:Y6 (.U k) f=∃x,pa x f:=rfl
def exB{f:Bool->Prop}:Y6 .T f=∃x,pa x f:=rfl
def aer{f:E->Prop}:Y6 .S f=∃x,pa x f:=rfl
def exP{f:Nat×Nat->Prop}:Y6 .P f=∃x,pa x f:=rfl
def exF{f:Fn×Array Value×Array Value->Prop}:Y6 .F f=∃x,pa x f:=rfl
def exM{f:Nat->Prop}:Y6 .M f=∃x,pa x f:=rfl
def alI:alS .I f=∀x,f x:=rfl
def alU{k:IntKind}:alS (.U k) f=∀x,f x:=rfl
def alB{f:Bool->Prop}:alS .T f=∀x,f x:=rfl
def aeb{f:E->Prop}:alS .S f=∀x,f x:=rfl
def alP{f:Nat×Nat->Prop}:alS .P f=∀x,f x:=rfl
def alF{f:Fn×Array Value×Array Value->Prop}:alS .F f=∀x,f x:=rfl
def exQ{f:Option (Nat×Nat)->Prop}:Y6 .Q f=∃x,pa x f:=rfl
def alQ{f:Option (Nat×Nat)->Prop}:alS .Q f=∀x,f x:=rfl
def alM{f:Nat->Prop}:alS .M f=∀x,f x:=rfl
def cU8{x:Int}:nN (.int .u8 x)=some (.u .u8 x):=rfl
def z0:nv h 0=[]:=rfl
def z1:nv h (n+1)=h++nv h n:=rfl
def tb{a b:Nat}:Nat.testBit a b=(1&&&(a>>>b)!=0):=rfl
def ab7{e:Edge}{a:aga}:oQ (e::a)=bif Region.binds .any e then 2^e.on|||oQ a else oQ a:=rfl
def b1:Region.binds .any ⟨i,.data⟩=true:=rfl
def b2:Region.binds .any ⟨i,.chain⟩=true:=rfl
def b3:Region.binds .any ⟨i,.guard⟩=true:=rfl
def b4:Region.binds .any ⟨i,.phase⟩=true:=rfl
def b5{x:Departure}:Region.binds .any ⟨i,.gcOnly x⟩=false:=rfl
def b6{x:Departure}:Region.binds .any ⟨i,.textOnly x⟩=false:=rfl
def Ym(c:Ce)(k:ae->Prop)(l:ae):Prop:=k (c::l)
def abt(k:SV->Prop)(l:ae):Prop:=k (.agg l)
def kld(m:D)(b o j:Nat)(s:Sh)(r:aB)(k:ae->Prop)(x:s.ty):Prop:=
 aS m b (bif j==0 then o else o+j)=some (s.mk x).v/\ldC m b o (j+1) r (Ym (s.mk x) k)
def aem{k:ae->Prop}:ldC m b o j (s::r) k=Y6 s (kld m b o j s r k):=by
 cases j<;>rfl
def klc(m:D)(b o:Nat)(s:Sh)(k:SV->Prop)(x:s.ty):Prop:=aS m b o=some (s.mk x).v/\k (.c (s.mk x))
def aaa{t:Nat}:Vm T m t b o k=match jo T t with
 |some ⟨.struct _,a,_⟩=>ldC m b o 0 a (abt k)
 |some ⟨.cell,[s],_⟩=>Y6 s (klc m b o s k)
 |some ⟨.slice _,[_],_⟩=>∃x:E,aS m b o=some x.v/\k (.c (.s x))
 |_=>False:=rfl
def ile{b:Int}:Int.le a b=(a<=b):=rfl
def khi(s:E)(z:Nat)(l:Int)(k:SV->Prop)(h:Int):Prop:=Int.le 0 l/\Int.le l h/\Int.le h (nc s.cap)/\k (.c (.s (s.cut l.toNat h.toNat z)))
def klo(p:Fr)(a:Option Operand)(s:E)(z:Nat)(k:SV->Prop)(l:Int):Prop:=RP p a (nc s.len) (khi s z l k)
def aek{f:Nat}{mk:Nat->SV}:KC T t f o mk k=match jo T t with
 |some ⟨.struct c,_,_⟩=>match Mx c f with
  |some (a,u)=>match jo T u with
   |some b=>bif b.zi||Nat.beq b.sh.length 0 then False else bif a==0 then k (mk o)else k (mk (o+a))
   |none=>False
  |none=>False
 |_=>False:=by
 have h:∀a,(bif a==0 then k (mk o)else k (mk (o+a)))=k (mk (o+a)):=cC
 simp only[h];rfl
def acb{s:E}{n:Int}:adK T t s n k=match jo T t with
 |some ⟨.slice e,_,_⟩=>match jo T e with
  |some a=>bif a.zi then False else Int.le 0 n/\n<nc s.len/\k (.c (.p s.bt (s.off+n.toNat*a.sh.length)))
  |none=>False
 |_=>False:=rfl
def Yg{s:E}{b a:Option Operand}:Xv T p t s b a k=match jo T t with
 |some ⟨.slice e,_,_⟩=>match jo T e with
  |some c=>bif c.zi then False else RP p b 0 (klo p a s c.sh.length k)
  |none=>False
 |_=>False:=rfl
def Yd:rd T p m k (.build t g)=match jo T t with
 |some ⟨.struct a,b,_⟩=>bif zW T a then Kv T p a (b.map Sh.zero) g.toList (abt k)else False
 |_=>False:=rfl
def kxc(s:Sh)(r:aB)(k:ae->Prop)(x:s.ty):Prop:=exC r (Ym (s.mk x) k)
def ab9{k:ae->Prop}:exC (s::r) k=Y6 s (kxc s r k):=rfl
def kav(a:AV)(k:aH->Prop)(l:aH):Prop:=k (a::l)
def kxt(T:TT)(r:ad)(k:aH->Prop)(l:ae):Prop:=Y7 T r (kav (.agg l) k)
def kxs(T:TT)(s:Sh)(r:ad)(k:aH->Prop)(x:s.ty):Prop:=Y7 T r (kav (.c (s.mk x)) k)
def aca{r:ad}{k:aH->Prop}:Y7 T (t::r) k=match jo T t with
 |some ⟨.struct _,a,_⟩=>exC a (kxt T r k)
 |some ⟨.cell,[s],_⟩=>Y6 s (kxs T s r k)
 |some ⟨.slice _,[_],_⟩=>∃x:E,Y7 T r (kav (.c (.s x)) k)
 |_=>False:=rfl
def krt(v:Value)(k:SV->Prop)(l:aH):Prop:=v=.tuple (l.map AV.v).toArray/\k (.tup l)
def krs(v:Value)(k:SV->Prop)(l:ae):Prop:=v=.agg (l.map Ce.v).toArray/\k (.agg l)
def krc(v:Value)(s:Sh)(k:SV->Prop)(x:s.ty):Prop:=v=(s.mk x).v/\k (.c (s.mk x))
def ack:Vw T t v k=match jo T t with
 |some ⟨.tuple [],_,_⟩=>k .jA
 |some ⟨.tuple a,_,_⟩=>Y7 T a (krt v k)
 |some ⟨.struct _,a,_⟩=>exC a (krs v k)
 |some ⟨.cell,[s],_⟩=>Y6 s (krc v s k)
 |some ⟨.slice _,[_],_⟩=>∃x:E,v=x.v/\k (.c (.s x))
 |_=>False:=rfl
def abu(k:Fr->SV->D->Prop)(p:Fr)(m:D)(x:SV):Prop:=k p x m
def inG(G:ad)(g:Nat):Prop:=G.elem g=true
def aex{G:ad}{g:Nat}:inG G g=(G.elem g=true):=rfl
def nz(b:Int):Prop:=b≠0
def nze{b:Int}:nz b=(b≠0):=rfl
def ach{b:Int}:wg .quo a b k=(nz b/\k (.c (.i (eV (a.tdiv b))))):=rfl
def acj{b:Int}:wg .rem a b k=(nz b/\k (.c (.i (a.tmod b)))):=rfl
def Z7{c:Nat}{f:Operand}{a:aE}{k:Fr->SV->D->Prop}:Z1 P T G n p m c f a k=match aaf p (a.map (ev p))with
 |none=>False
 |some u=>match ev p f with
  | .c (.fn (.func g) first b)=>bif G.elem g&&a.all (λx=>(ev p x).mW)then
   bJ P g (first.toList++(a.map λx=>(ev p x).v)++b.toList) m λv q=>Fc (Rw n u []) m q (Vw T c v (abu k u q))
   else False
  | .c (.fv b)=>bif a.all (λx=>(ev p x).mW)then
   ∃g,b.1=.func g/\inG G g/\bJ P g (b.2.1.toList++(a.map λx=>(ev p x).v)++b.2.2.toList) m λv q=>Fc (Rw n u []) m q (Vw T c v (abu k u q))
   else False
  |_=>False:=rfl
def p3(m:D)(k:Fr->SV->D->Prop)(p:Fr)(x:SV):Prop:=k p x m
def p2(m:D)(k:SV->D->Prop)(x:SV):Prop:=k x m
def aac{k:Fr->SV->D->Prop}:Zd n p none m t l k=TM (m.push (.cells (dh l) t)) λq=>p3 q k p (.c (.p m.size 0)):=rfl
def aad{j:Nat}{k:Fr->SV->D->Prop}:Zd n p (some j) m t l k=match ku p (n+j)with
 | .Er _ _ _=>False
 |_=>TM (m.push (.cells (dh l) t)) λq=>p3 q k ((n+j,.box m.size t l)::p) (.c (.bp (n+j) m.size 0)):=rfl
def aep{x:SV}{k:Fr->SV->D->Prop}:Uj n p m x l k=match x with
 | .c (.p b o)=>gK m b o l.length/\TM (aW m b o l) λq=>Fc (Rw n p []) m q (k p .un q)
 | .c (.bp d b o)=>match ku p d with
  | .box a e c=>bif Nat.ble (o+l.length) c.length then NE a b (TM (aW m b o l) λq=>p3 q k ((d,.box a e (jm c o l))::p) .un)else False
  | .Er _ _ _=>False
  |_=>gK m b o l.length/\TM (aW m b o l) λq=>Fc (Rw n p []) m q (k p .un q)
 |_=>False:=rfl
def aeo{b:Nat}{k:Fr->SV->D->Prop}:wr P T G n p m d b k (.makeSlice t x y)=match jo T t,ev p x,ev p y with
 |some ⟨.slice e,_,_⟩,.c (.i l),.c (.i c)=>match jo T e with
  |some a=>bif a.zi then False else Int.le 0 l/\Int.le l c/\Int.le (nc a.bytes*c) 281474976710656/\Int.le c 9223372036854775807/\
   TM (m.push (.cells (dh (nv (a.sh.map Sh.zero) c.toNat)) e)) λq=>p3 q k p (.c (.s (.mk m.size 0 l.toNat c.toNat)))
  |none=>False
 |_,_,_=>False:=rfl
def aen{a:Nat}{k:Fr->SV->D->Prop}:wr P T G n p m d a k (.makeMap t none)=TM (m.push (.map #[] 0)) λq=>p3 q k p (.c (.mp m.size)):=rfl
def ab8{z:Nat}{s x:E}{k:SV->D->Prop}:adE m z s x k=∃a:ae,a.length=Nat.min x.len s.len*z/\jw m x.bt x.off a/\gK m s.bt s.off a.length/\
 TM (aW m s.bt s.off a) λq=>p2 q k (.c (.i (nc (Nat.min x.len s.len)))):=rfl
def kbs(p:Fr)(m:D)(e a:Nat)(k:Fr->SV->D->Prop)(l:ae):Prop:=match Kz p l with
 |some u=>TM (m.push (.cells (dh l) e)) λq=>p3 q k u (.c (.s (.mk m.size 0 a a)))
 |none=>False
def aej{c a:Nat}{k:Fr->SV->D->Prop}:wr P T G n p m d c k (.buildSlice t a g)=match jo T t with
 |some ⟨.slice e,_,_⟩=>match jo T e with
  |some b=>bif b.zi||!(Nat.ble (a*b.sh.length) 16777216)then False else
   BW T p b.sh.length (nv (b.sh.map Sh.zero) a) g.toList (kbs p m e a k)
  |none=>False
 |_=>False:=rfl
def kcp(n:Nat)(p:Fr)(m:D)(k:Fr->SV->D->Prop)(x:SV)(q:D):Prop:=Fc (Rw n p []) m q (k p x q)
def Z8{b:Nat}{u:Nat}{c:ad}{k:Fr->SV->D->Prop}:wr P T G n p m d b k (.call ⟨.builtin .copy,⟨[x,y]⟩,⟨u::c⟩⟩)=match jo T u,ev p x,ev p y with
 |some ⟨.slice e,_,_⟩,.c (.s s),.c (.s z)=>match jo T e with
  |some a=>bif a.zi then False else adE m a.sh.length s z (kcp n p m k)
  |none=>False
 |_,_,_=>False:=rfl
def kw(P:Program)(T:TT)(G:ad)(n:Nat)(e:ar)(d:Option Nat)(mN:ar)(k:Fr->D->Prop)(p:Fr)(x:SV)(m:D):Prop:=wR P T G n e mN (yF p d x) m k
def kr(P:Program)(T:TT)(G:ad)(n:Nat)(e:ar)(d:Option Nat)(mN:ar)(k:Fr->D->Prop)(p:Fr)(m:D)(x:SV):Prop:=wR P T G n e mN (yF p d x) m k
def ky(P:Program)(T:TT)(G:ad)(n:Nat)(e:ar)(o:Oper)(mN:ar)(k:Fr->D->Prop)(m:D)(p:Fr):Prop:=
 bif P6 o.op then wr P T G n p m o.dst o.type (kw P T G n e o.dst mN k) o.op else rd T p m (kr P T G n e o.dst mN k p m) o.op
def kn(P:Program)(T:TT)(G:ad)(n:Nat)(e:ar)(d:Option Nat)(mN:ar)(k:Fr->D->Prop)(m:D)(p:Fr):Prop:=wR P T G n e mN (yF p d .un) m k
def acg{o:Oper}{mN:ar}{k:Fr->D->Prop}:wR P T G n e (o::mN) p m k=
 bif wK n o.dst then gd e p o.guard (ky P T G n e o mN k m) (kn P T G n e o.dst mN k m)else False:=rfl
abbrev LL:=List (Nat×ao)
def dr1(P:Program)(T:TT)(G:ad)(n:Nat)(e:ar)(c a:ad)(b done:Nat)(o:Oper)(i:Nat)(m:D)(L:LL)(k:Fr->D->Prop)(p:Fr)(x:SV):Prop:=
 td P T G n e c a b (done|||2^i) (yF p o.dst x) m ((i,ZE T p o.op)::L) k
def dry(P:Program)(T:TT)(G:ad)(n:Nat)(e:ar)(c a:ad)(b done:Nat)(o:Oper)(i:Nat)(m:D)(L:LL)(k:Fr->D->Prop)(p:Fr):Prop:=
 rd T p m (dr1 P T G n e c a b done o i m L k p) o.op
def drn(P:Program)(T:TT)(G:ad)(n:Nat)(e:ar)(c a:ad)(b done:Nat)(o:Oper)(i:Nat)(m:D)(L:LL)(k:Fr->D->Prop)(p:Fr):Prop:=
 td P T G n e c a b (done|||2^i) (yF p o.dst .un) m L k
def dr2(P:Program)(T:TT)(G:ad)(n:Nat)(e:ar)(c a:ad)(b done:Nat)(o:Oper)(i:Nat)(m:D)(L:LL)(k:Fr->D->Prop)(p:Fr)(x:SV)(q:D):Prop:=
 II (yL a i) m q L (td P T G n e c a b (done|||2^i) (yF p o.dst x) q L k)
def dwy(P:Program)(T:TT)(G:ad)(n:Nat)(e:ar)(c a:ad)(b done:Nat)(o:Oper)(i:Nat)(m:D)(L:LL)(k:Fr->D->Prop)(p:Fr):Prop:=
 wr P T G n p m o.dst o.type (dr2 P T G n e c a b done o i m L k) o.op
def dra(P:Program)(T:TT)(G:ad)(n:Nat)(e:ar)(c a:ad)(b done:Nat)(m:D)(L:LL)(k:Fr->D->Prop)(p:Fr)(i:Nat):Prop:=match Mx e i with
 |some o=>bif wK n o.dst then gd e p o.guard (dwy P T G n e c a b done o i m L k) (drn P T G n e c a b done o i m L k)else False
 |none=>False
def Z9{a b:ad}{c done:Nat}{L:LL}{k:Fr->D->Prop}:td P T G n e a b (c+1) done p m L k=match BA done 0 e a with
 |some i=>match Mx e i with
  |some o=>bif wK n o.dst then gd e p o.guard (dry P T G n e a b c done o i m L k) (drn P T G n e a b c done o i m L k)else False
  |none=>False
 |none=>match uj done 0 e a with
  |[]=>k p m
  |d=>Th d (dra P T G n e a b c done m L k p):=rfl
def Z5{f:Nat->Prop}:Th [i] f=f i:=rfl
def Z6{r:ad}{f:Nat->Prop}:Th (i::j::r) f=(f i/\Th (j::r) f):=rfl
def kq(Q:Exit->Fr->D->Prop)(p:Fr)(m:D):Prop:=Q .normal p m
def aci{e:Array Oper}{a:Bool}:vc P T G n A (.region i e a) p m Q=
 bif a then td P T G n e.toList (pmG e.toList) (ZZ [] e.toList) e.toList.length 0 p m [] (kq Q)
 else wR P T G n e.toList e.toList p m (kq Q):=rfl
def kal(t:Nat)(s:Sh)(r:aw)(I:s.ty->LZ r)(p:Fr)(k:Fr->(D->Prop)->Prop)(x:s.ty):Prop:=UJ r (I x) ((t,.c (s.mk x))::p) k
def ab5{r:aw}{I:s.ty->LZ r}{k:Fr->(D->Prop)->Prop}:UJ ((t,s)::r) I p k=alS s (kal t s r I p k):=rfl
def kam(t:Nat)(s:Sh)(r:aw)(I:s.ty->LZ r)(μ:s.ty->Tc r)(p:Fr)(k:Fr->(D->Prop)->(D->Nat)->Prop)(x:s.ty):Prop:=UK r (I x) (μ x) ((t,.c (s.mk x))::p) k
def ab6{r:aw}{I:s.ty->LZ r}{μ:s.ty->Tc r}{k:Fr->(D->Prop)->(D->Nat)->Prop}:UK ((t,s)::r) I μ p k=alS s (kam t s r I μ p k):=rfl
def ks(P:Program)(T:TT)(G:ad)(n:Nat)(A:Uv)(b:Code)(Q:Exit->Fr->D->Prop):Exit->Fr->D->Prop
 | .normal,u,q=>vc P T G n A b u q Q
 |e,u,q=>Q e u q
def kc(A:Uv)(b:Code)(p:Fr)(l:aw)(K:LZ l)(Q:Exit->Fr->D->Prop):Exit->Fr->D->Prop
 | .normal,u,q=>eqK p u (eM A b) (Mc l K u q)
 |e,u,q=>Q e u q
def ki(P:Program)(T:TT)(G:ad)(n:Nat)(A:Uv)(b:Code)(Q:Exit->Fr->D->Prop)(u:Fr)(a:D->Prop):Prop:=∀q,a q->vc P T G n A b u q Q
def acm{a b:Code}:vc P T G n A (.seq a b) p m Q=match lkH A.abo b with
 |none=>vc P T G n A a p m (ks P T G n A b Q)
 |some l=>bif ur (tH a) l then∃K:LZ l,vc P T G n A a p m (kc A b p l K Q)/\
  UJ l K (rR (tH a) (y9 n (eM A b) p)) (ki P T G n A b Q)else False:=by
 unfold ks kc ki;rfl
def kb(i:Nat)(Q:Exit->Fr->D->Prop):Exit->Fr->D->Prop
 | .exit j,u,q=>bif Nat.beq j i then Q .normal u q else Q (.exit j) u q
 |e,u,q=>Q e u q
def Yc:vc P T G n A (.block i c) p m Q=vc P T G n A c p m (kb i Q):=by
 unfold kb;rfl
def ke(A:Uv)(c:Code)(p:Fr)(l:aw)(I:LZ l)(μ:Tc l)(N:Nat)(Q:Exit->Fr->D->Prop):Exit->Fr->D->Prop
 | .normal,a,b=>eqK p a (eM A c) (Tj l I μ a b N)
 |e,a,b=>Q e a b
def kl(P:Program)(T:TT)(G:ad)(n:Nat)(A:Uv)(c:Code)(p:Fr)(l:aw)(I:LZ l)(μ:Tc l)(Q:Exit->Fr->D->Prop)(u:Fr)(a:D->Prop)(μ':D->Nat):Prop:=
 ∀q,a q->vc P T G n A c u q (ke A c p l I μ (μ' q) Q)
def aab:vc P T G n A (.loop c) p m Q=match lkH A.aas c with
 |none=>False
 |some l=>bif ur (tH c) l then∃(I:LZ l)(μ:Tc l),Mc l I p m/\
  UK l I μ (rR (tH c) (y9 n (eM A c) p)) (kl P T G n A c p l I μ Q)else False:=by
 unfold kl ke;rfl
def kR(m:D)(R:ak)(l:aC):Prop:=match l with
 |[x]=>R x.v m
 |l=>R (.tuple (l.map SV.v).toArray) m
def kx(x:SV)(k:aC->Prop)(l:aC):Prop:=k (x::l)
def kz(T:TT)(p:Fr)(m:D)(r:ay)(k:aC->Prop)(x:SV):Prop:=bif x.mW then K8 T p m r (kx x k)else False
def Ye{r:ay}{k:aC->Prop}:K8 T p m (.tmp t::r) k=bif (ku p t).mW then K8 T p m r (kx (ku p t) k)else False:=rfl
def Yf{a:Nat}{r:ay}{k:aC->Prop}:K8 T p m (.cell a t::r) k=rd T p m (kz T p m r k) (.load t (.tmp a)):=rfl
def kf(T:TT)(a:ay)(R:ak):Exit->Fr->D->Prop
 | .normal,p,m=>K8 T p m a (kR m R)
 | .ret,p,m=>K8 T p m a (kR m R)
 |_,_,_=>False
def ael{b:ay}{a:aC}{R:ak}:Zw P T G A n b c a m R=vc P T G n A c (y8 0 a) m (kf T b R):=by
 unfold kf kR;rfl
end
def Tg(_:Prop):Type:=Prop
def Tg.p{q:Prop}(t:Tg q):Prop:=t
def Tg.lf(q:Prop):Tg q:=q
def Tg.pm{a b:Prop}{h:Tg a=Tg b}:Tg.p (Eq.mpr h (Tg.lf b))=b:=rfl
def rg1:List.range 1=[0]:=rfl
def rg2:List.range 2=[0,1]:=rfl
def rg3:List.range 3=[0,1,2]:=rfl
def rg4:List.range 4=[0,1,2,3]:=rfl
def rg5:List.range 5=[0,1,2,3,4]:=rfl
def rg6:List.range 6=[0,1,2,3,4,5]:=rfl
def rg7:List.range 7=[0,1,2,3,4,5,6]:=rfl
def Tg.pm2{a b c:Prop}{h:Tg a=Tg b}{d:Tg b=Tg c}:Tg.p (Eq.mpr h (Eq.mpr d (Tg.lf c)))=c:=rfl
def Wi(_ _:Prop):Type:=Unit
def mkT{a X:Prop}(_:Wi a X)(t:Tg a)(_:t.p=X):True:=trivial
end
end Go.Vc
namespace Go.Proofs.YtbbbdejieenniaaGreat
open Go.Vc
section
noncomputable abbrev dP:=Tryz.prog
def TBL:TT:=[(0,⟨.tuple [],[],0⟩),
 (3,⟨.cell,[.I],8⟩),
 (4,⟨.cell,[.T],1⟩),
 (5,⟨.cell,[(.U .u8)],1⟩),
 (22,⟨.slice 5,[.S],24⟩),
 (23,⟨.slice 100,[.S],24⟩),
 (24,⟨.slice 71,[.S],24⟩),
 (26,⟨.struct [(0,23),(1,24)],[.S,.S],48⟩),
 (27,⟨.tuple [26,3],[],0⟩),
 (29,⟨.slice 3,[.S],24⟩),
 (31,⟨.struct [(0,3),(1,3),(2,3),(3,29)],[.I,.I,.I,.S],48⟩),
 (32,⟨.tuple [31,4],[],0⟩),
 (36,⟨.tuple [26,4],[],0⟩),
 (40,⟨.struct [(0,3),(1,3),(2,3),(3,3),(4,3),(5,3),(6,3),(7,3)],[.I,.I,.I,.I,.I,.I,.I,.I],64⟩),
 (41,⟨.tuple [40,4],[],0⟩),
 (44,⟨.slice 57,[.S],24⟩),
 (45,⟨.slice 52,[.S],24⟩),
 (47,⟨.struct [(0,3),(1,3),(2,3),(3,3),(4,29),(5,44),(6,45)],[.I,.I,.I,.I,.S,.S,.S],104⟩),
 (48,⟨.tuple [47,4],[],0⟩),
 (52,⟨.struct [(0,3),(1,3),(2,3),(3,29),(4,29),(5,29)],[.I,.I,.I,.S,.S,.S],96⟩),
 (57,⟨.struct [(0,3),(1,3),(2,29)],[.I,.I,.S],40⟩),
 (61,⟨.struct [(0,26),(2,3),(3,47)],[.S,.S,.I,.I,.I,.I,.I,.S,.S,.S],160⟩),
 (65,⟨.slice 80,[.S],24⟩),
 (66,⟨.tuple [65,4],[],0⟩),
 (69,⟨.slice 73,[.S],24⟩),
 (71,⟨.struct [(0,29),(1,29),(2,3),(3,3),(4,69)],[.S,.S,.I,.I,.S],88⟩),
 (73,⟨.struct [(0,3),(1,3),(2,3),(3,3),(4,29),(5,29)],[.I,.I,.I,.I,.S,.S],80⟩),
 (80,⟨.cell,[.Q],8⟩),
 (82,⟨.slice 86,[.S],24⟩),
 (84,⟨.struct [(0,82),(1,29)],[.S,.S],48⟩),
 (86,⟨.struct [(0,3),(1,3),(2,4),(3,3),(4,3),(5,3)],[.I,.I,.T,.I,.I,.I],48⟩),
 (88,⟨.cell,[.P],8⟩),
 (92,⟨.slice 144,[.S],24⟩),
 (94,⟨.struct [(0,23),(1,92)],[.S,.S],48⟩),
 (95,⟨.tuple [94,4],[],0⟩),
 (98,⟨.slice 136,[.S],24⟩),
 (100,⟨.struct [(0,3),(1,3),(2,98)],[.I,.I,.S],40⟩),
 (102,⟨.cell,[.P],8⟩),
 (103,⟨.cell,[.P],8⟩),
 (107,⟨.slice 164,[.S],24⟩),
 (109,⟨.struct [(0,23),(1,107)],[.S,.S],48⟩),
 (113,⟨.cell,[.P],8⟩),
 (115,⟨.struct [(0,26),(2,47)],[.S,.S,.I,.I,.I,.I,.S,.S,.S],152⟩),
 (118,⟨.struct [(0,94),(2,71),(7,65)],[.S,.S,.S,.S,.I,.I,.S,.S],160⟩),
 (121,⟨.cell,[.F],8⟩),
 (124,⟨.cell,[.P],8⟩),
 (126,⟨.cell,[.P],8⟩),
 (128,⟨.struct [(0,3),(1,3),(2,3),(3,3),(4,3),(5,3),(6,3),(7,3)],[.I,.I,.I,.I,.I,.I,.I,.I],64⟩),
 (129,⟨.tuple [3,3],[],0⟩),
 (136,⟨.struct [(0,29)],[.S],24⟩),
 (139,⟨.struct [(0,22),(1,3)],[.S,.I],32⟩),
 (144,⟨.struct [(0,29),(1,29),(2,3)],[.S,.S,.I],56⟩),
 (149,⟨.tuple [29,29],[],0⟩),
 (155,⟨.slice 57,[.S],24⟩),
 (160,⟨.slice 162,[.S],24⟩),
 (162,⟨.struct [(0,3),(1,3),(2,160)],[.I,.I,.S],40⟩),
 (164,⟨.struct [(0,29),(1,3),(2,162)],[.S,.I,.I,.I,.S],72⟩),
 (167,⟨.cell,[.P],8⟩),
 (178,⟨.tuple [29,4],[],0⟩),
 (183,⟨.slice 216,[.S],24⟩),
 (185,⟨.struct [(0,23),(1,183)],[.S,.S],48⟩),
 (191,⟨.tuple [3,4],[],0⟩),
 (193,⟨.cell,[.F],8⟩),
 (195,⟨.cell,[.P],8⟩),
 (212,⟨.slice 239,[.S],24⟩),
 (214,⟨.struct [(0,212),(1,3)],[.S,.I],32⟩),
 (216,⟨.struct [(0,29),(1,29),(2,3),(3,214)],[.S,.S,.I,.S,.I],88⟩),
 (217,⟨.cell,[.P],8⟩),
 (219,⟨.struct [(0,69)],[.S],24⟩),
 (228,⟨.tuple [3,136],[],0⟩),
 (230,⟨.map 3 3,[.M],8⟩),
 (237,⟨.slice 214,[.S],24⟩),
 (239,⟨.struct [(0,3),(1,3),(2,3),(3,29),(4,237)],[.I,.I,.I,.S,.S],72⟩),
 (242,⟨.cell,[.P],8⟩),
 (243,⟨.tuple [242,4],[],0⟩),
 (246,⟨.struct [(0,29),(1,29),(2,29),(3,29),(4,29),(5,29),(6,29)],[.S,.S,.S,.S,.S,.S,.S],168⟩),
 (254,⟨.tuple [100,4],[],0⟩),
 (258,⟨.cell,[.F],8⟩),
 (277,⟨.slice 29,[.S],24⟩),
 (293,⟨.cell,[.P],8⟩),
 (295,⟨.struct [(0,212),(1,3)],[.S,.I],32⟩)]
abbrev V9:Nat:=22
abbrev ft:Nat:=214
abbrev CI:Nat:=57
abbrev ns:Nat:=136
abbrev kN:Nat:=100
abbrev dB:Nat:=162
abbrev gS:Nat:=52
abbrev jb:Nat:=164
abbrev mj:Nat:=26
abbrev ee:Nat:=73
abbrev qX:Nat:=185
abbrev lE:Nat:=71
abbrev nL:Nat:=109
abbrev mP:Nat:=216
abbrev Aj:Nat:=47
abbrev sC:Nat:=40
abbrev jF:Nat:=239
abbrev ik:Nat:=155
abbrev Ak:Nat:=84
abbrev dq:Nat:=61
abbrev rC:Nat:=86
abbrev uA:Nat:=144
abbrev pD:Nat:=94
abbrev jd:Nat:=118
abbrev bG:Nat:=3
abbrev CJ:Nat:=29
abbrev nM:Nat:=80
abbrev Bp:Nat:=128
abbrev wF:Nat:=219
abbrev Gx:Nat:=246
abbrev rD:Nat:=295
abbrev dG:Nat:=115
abbrev uB:Nat:=139
abbrev aaS:Nat:=5
def Rl:yA dP TBL:=by
 unfold yA;kernel_rfl
def GL:ad:=List.range' 3 344
def gok:GOK dP GL:=by
 unfold GOK;kernel_rfl
def mix:dP.follows .mixedOrders=true:=by kernel_rfl
def nbq(a b:Nat):Nat.beq a b=(a==b):=by rw[Ol];simp
def nbl(a b:Nat):Nat.ble a b=(a -b==0):=by rw[Ol];simp;omega
def nbt(a b:Nat):Nat.blt a b=(a+1 -b==0):=by rw[Ol];simp[Nat.blt];omega
def gel(g:Nat):List.elem g GL=(3 -g==0&&(g -346==0)):=by rw[Ol];simp[GL];omega
section
variable{α β:Type}{a:α}{b:β}
def atl(l:List α):(Array.mk l).toList=l:=rfl
end
section
variable(a b c d e f)
def o1:(Oper.mk a b c d e f).dst=a:=rfl
def o2:(Oper.mk a b c d e f).op=b:=rfl
def o3:(Oper.mk a b c d e f).type=c:=rfl
def o5:(Oper.mk a b c d e f).after=e:=rfl
def o6:(Oper.mk a b c d e f).guard=f:=rfl
end
section
variable(a b c)
def a2:(Uv.mk a b c).aas=a:=rfl
def a3:(Uv.mk a b c).abo=b:=rfl
def a4:(Uv.mk a b c).fH=c:=rfl
def t1:(TI.mk a b c).EQ=a:=rfl
def t2:(TI.mk a b c).sh=b:=rfl
def t3:(TI.mk a b c).bytes=c:=rfl
def g1:(Edge.mk a b).on=a:=rfl
def g2:(Edge.mk a b).ground=b:=rfl
end
def A0:Uv:=⟨[],[],[]⟩
def cI(x:Int):SV:=.c (.i x)
def cS(x:E):SV:=.c (.s x)
def cP(x:ai):SV:=.c (.p x.1 x.2)
instance:Coe Int SV:=⟨cI⟩
instance:Coe E SV:=⟨cS⟩
instance:Coe (Nat×Nat) SV:=⟨cP⟩
instance:Coe Int Ce:=⟨.i⟩
instance:Coe E Ce:=⟨.s⟩
def oX(n:Nat){x:TI}(h:jo TBL n=some x:=by cbv):jo TBL n=some x:=h
def tg0:=oX 0
def tg3:=oX 3
def tg4:=oX 4
def tg5:=oX 5
def aeO:=oX 22
def aeP:=oX 23
def aeQ:=oX 24
def aeR:=oX 26
def aeS:=oX 27
def aeT:=oX 29
def aeU:=oX 31
def aeV:=oX 32
def aeW:=oX 36
def aeX:=oX 40
def aeY:=oX 41
def aeZ:=oX 44
def ae0:=oX 45
def ae1:=oX 47
def ae2:=oX 48
def ae3:=oX 52
def ae4:=oX 57
def ae5:=oX 61
def ae6:=oX 65
def ae7:=oX 66
def ae8:=oX 69
def ae9:=oX 71
def afa:=oX 73
def afb:=oX 80
def afc:=oX 82
def afd:=oX 84
def afe:=oX 86
def aff:=oX 88
def afg:=oX 92
def afh:=oX 94
def afi:=oX 95
def afj:=oX 98
def acx:=oX 100
def acy:=oX 102
def acz:=oX 103
def acA:=oX 107
def acB:=oX 109
def acC:=oX 113
def acD:=oX 115
def acE:=oX 118
def acF:=oX 121
def acG:=oX 124
def acH:=oX 126
def acI:=oX 128
def acJ:=oX 129
def acK:=oX 136
def acL:=oX 139
def acM:=oX 144
def acN:=oX 149
def acO:=oX 155
def acP:=oX 160
def acQ:=oX 162
def acR:=oX 164
def acS:=oX 167
def acT:=oX 178
def acU:=oX 183
def acV:=oX 185
def acW:=oX 191
def acX:=oX 193
def acY:=oX 195
def acZ:=oX 212
def ac0:=oX 214
def ac1:=oX 216
def ac2:=oX 217
def ac3:=oX 219
def ac4:=oX 228
def ac5:=oX 230
def ac6:=oX 237
def ac7:=oX 239
def ac8:=oX 242
def ac9:=oX 243
def ada:=oX 246
def adb:=oX 254
def ade:=oX 258
def adf:=oX 277
def adg:=oX 293
def adh:=oX 295
def eS(m:D)(R:ak)(A:Uv)(a:aC){f:FuncId}{b:Go.Func}{X:Prop}{c:Code}{n:Nat}{e:ay}{g:ap}(k:dP.funcs[f]? =some b)
 (d:(b.body,b.ntmps,b.results)=(some c,n,Array.mk e):=by cbv)
 (i:a.all SV.mW=true:=by kernel_rfl)(l:Nat.ble a.length n=true:=by kernel_rfl)(hd:uS c=true:=by kernel_rfl)
 (o:a.map SV.v=g:=by dsimp only[List.map,cI,cS,cP,SV.v,Ce.v])
 (w:Wi (Zw dP TBL GL A n e c a m R) X->True:=by intro w;obtain - :=mkT w (by sym -abstractProof=>simp[gel,A0.eq_1,cI.eq_1,cS.eq_1,cP.eq_1,tg0,tg3,tg4,tg5,aeO,aeP,aeQ,aeR,aeS,aeT,aeU,aeV,aeW,aeX,aeY,aeZ,ae0,ae1,ae2,ae3,ae4,ae5,ae6,ae7,ae8,ae9,afa,afb,afc,afd,afe,aff,afg,afh,afi,afj,acx,acy,acz,acA,acB,acC,acD,acE,acF,acG,acH,acI,acJ,acK,acL,acM,acN,acO,acP,acQ,acR,acS,acT,acU,acV,acW,acX,acY,acZ,ac0,ac1,ac2,ac3,ac4,ac5,ac6,ac7,ac8,ac9,ada,adb,ade,adf,adg,adh,nbq,nbl,nbt,atl,o1,o2,o3,o5,o6,a2,a3,a4,t1,t2,t3,g1,g2,eP,jg,eN,iy,Ta,List.all_nil,dD,kH,List.elem_cons,Bool.true_and,Bool.false_and,abX,abV,Bool.true_or,abW,aa1,Bool.and_true,sF,Option.map_none,np,wG,Wh,List.flatMap_nil,List.isEmpty_cons,List.isEmpty_nil,List.any_cons,Wg,mF,Si,y8.eq_1,y8.eq_2,vc.eq_1,vc.eq_4,vc.eq_6,vc.eq_7,vc.eq_8,zn.eq_def,orT.eq_def,orB.eq_def,vw.eq_1,vw.eq_2,Qx.eq_def,eqK.eq_1,eqK.eq_2,y9.eq_1,Ip.eq_1,Ip.eq_2,eM.eq_1,ur.eq_1,ur.eq_2,tH.eq_def,rR.eq_1,rR.eq_2,UK.eq_1,UJ.eq_1,Tj.eq_1,Tj.eq_2,Mc.eq_1,Mc.eq_2,W6.eq_def,lkH.eq_1,Iu.eq_def,lk.eq_1,lk.eq_2,td.eq_1,II.eq_1,II.eq_2,QK.eq_1,QK.eq_2,uj.eq_def,BA.eq_def,nT.eq_1,sG.eq_1,sG.eq_2,oQ.eq_1,yL.eq_1,yL.eq_2,yL.eq_3,wR.eq_1,Ev.eq_1,Ev.eq_2,gd.eq_1,gd.eq_2,P1.eq_1,wK.eq_1,wK.eq_2,P6.eq_def,wr.eq_1,wr.eq_2,wr.eq_4,wr.eq_6,wr.eq_8,wr.eq_9,wr.eq_10,wr.eq_11,BW.eq_1,BW.eq_2,Y7.eq_1,exC.eq_1,Rw.eq_def,Fc.eq_def,rd.eq_1,rd.eq_2,rd.eq_3,rd.eq_4,rd.eq_5,rd.eq_6,rd.eq_7,rd.eq_8,rd.eq_9,rd.eq_10,rd.eq_11,rd.eq_12,rd.eq_13,rd.eq_15,ZE.eq_def,acd,ace,acf,Sw.eq_1,LR.eq_1,LR.eq_2,Tz.eq_1,RP.eq_1,RP.eq_2,zW.eq_1,zW.eq_2,Kv.eq_1,Kv.eq_2,qP.eq_1,qP.eq_2,qP.eq_3,qP.eq_4,qP.eq_5,SV.cells.eq_def,unO.eq_def,aby.eq_def,abg.eq_def,wg.eq_1,wg.eq_2,wg.eq_3,wg.eq_6,wg.eq_7,wg.eq_8,wg.eq_9,wg.eq_10,wg.eq_11,wg.eq_12,ach,acj,ldC.eq_1,Mx.eq_1,Mx.eq_2,Mx.eq_3,oL.eq_def,SV.mW.eq_def,TI.zi.eq_1,TI.agg.eq_1,Sh.zero.eq_1,Sh.zero.eq_2,Sh.zero.eq_3,Sh.zero.eq_4,Sh.zero.eq_5,Sh.zero.eq_6,Sh.zero.eq_7,ev.eq_1,ev.eq_2,ev.eq_3,ev.eq_4,Ky.eq_def,tY.eq_1,tY.eq_2,nN.eq_1,nN.eq_3,nN.eq_4,nN.eq_5,nN.eq_6,nN.eq_7,yF.eq_1,yF.eq_2,SV.nb.eq_def,ku.eq_1,ku.eq_2,AV.sv.eq_1,AV.sv.eq_2,SV.v.eq_1,SV.v.eq_2,SV.v.eq_3,SV.v.eq_4,SV.v.eq_5,SV.v.eq_6,SV.v.eq_7,SV.v.eq_8,SV.v.eq_9,AV.v.eq_1,AV.v.eq_2,Ce.v.eq_1,Ce.v.eq_2,Ce.v.eq_3,Ce.v.eq_4,Ce.v.eq_5,Ce.v.eq_6,Ce.v.eq_7,Ce.v.eq_8,Ce.v.eq_9,Ce.v.eq_10,Ce.v.eq_11,Ce.v.eq_12,Ce.v.eq_13,BR.eq_1,BR.eq_2,aaf.eq_1,Kz.eq_def,jm.eq_1,jm.eq_2,LZ.eq_1,LZ.eq_2,Tc.eq_1,Tc.eq_2,Sh.ty.eq_1,Sh.ty.eq_2,Sh.ty.eq_3,Sh.ty.eq_4,Sh.ty.eq_5,Sh.ty.eq_6,Sh.ty.eq_7,Sh.mk.eq_1,Sh.mk.eq_2,Sh.mk.eq_3,Sh.mk.eq_4,Sh.mk.eq_5,Sh.mk.eq_6,Sh.mk.eq_7,Me.eq_1,SV.ces.eq_def,AV.ces.eq_1,AV.ces.eq_2,K8.eq_1,pmG.eq_1,pmG.eq_2,ZZ.eq_1,ZZ.eq_2,kld.eq_1,klc.eq_1,kxc.eq_1,kxs.eq_1,krc.eq_1,kal.eq_1,kam.eq_1,pa.eq_1,p3.eq_1,p2.eq_1,Ym.eq_1,abt.eq_1,khi.eq_1,klo.eq_1,kav.eq_1,kxt.eq_1,krt.eq_1,krs.eq_1,abu.eq_1,kbs.eq_1,kcp.eq_1,kw.eq_1,kr.eq_1,ky.eq_1,kn.eq_1,dr1.eq_1,dry.eq_1,drn.eq_1,dr2.eq_1,dwy.eq_1,dra.eq_1,kq.eq_1,ks.eq_def,kc.eq_def,ki.eq_1,kb.eq_def,ke.eq_def,kl.eq_1,kR.eq_def,kx.eq_1,kz.eq_1,kf.eq_def,Th.eq_1,aem,aaa,Yg,Yd,ab9,aca,ack,Z7,aej,Z8,acg,Z9,Z5,Z6,aci,acm,Yc,aab,Ye,Yf,ael,aek,ab5,ab6,exI,exU,exB,aer,exP,exF,exM,alI,alU,alB,aeb,alP,alF,alM,cU8,z0,z1,tb,ab7,b1,b2,b3,b4,b5,b6,aac,aad,aep,aeo,aen,ab8,acb,rg1,rg2,rg3,rg4,rg5,rg6,rg7,uJ,abz.eq_def,exQ,alQ,Sh.zero.eq_8,Sh.ty.eq_8,Sh.mk.eq_8];exact Tg.lf _) (by refine Tg.pm.trans ?_;dsimp -zeta+instances only[↓Ys,ile,↓aex,nze,nce,LZ,Tc,Sh.ty,Int.cast_ofNat_Int]);trivial)
 (j:X=Zw dP TBL GL A n e c a m R:=by kernel_rfl)
 :X->bJ dP f g m R:=λh=>by
 subst o
 exact vk Rl gok mix k (jR Prod.fst d) (jR (λx=>x.2.1) d) (jR (λx=>x.2.2) d) i (oV l) hd (j▸h)
def af0(m:D)(R:ak)(A:Uv)(a:aC){f:FuncId}{b:Go.Func}{X:Prop}{c:Code}{n:Nat}{e:ay}{g:ap}(k:dP.funcs[f]? =some b)
 (d:(b.body,b.ntmps,b.results)=(some c,n,Array.mk e):=by cbv)
 (i:a.all SV.mW=true:=by kernel_rfl)(l:Nat.ble a.length n=true:=by kernel_rfl)(hd:uS c=true:=by kernel_rfl)
 (o:a.map SV.v=g:=by dsimp only[List.map,cI,cS,cP,SV.v,Ce.v])
 (w:Wi (Zw dP TBL GL A n e c a m R) X->True:=by intro w;obtain - :=mkT w (by sym -abstractProof=>simp[gel,A0.eq_1,cI.eq_1,cS.eq_1,cP.eq_1,tg0,tg3,tg4,tg5,aeO,aeP,aeQ,aeR,aeS,aeT,aeU,aeV,aeW,aeX,aeY,aeZ,ae0,ae1,ae2,ae3,ae4,ae5,ae6,ae7,ae8,ae9,afa,afb,afc,afd,afe,aff,afg,afh,afi,afj,acx,acy,acz,acA,acB,acC,acD,acE,acF,acG,acH,acI,acJ,acK,acL,acM,acN,acO,acP,acQ,acR,acS,acT,acU,acV,acW,acX,acY,acZ,ac0,ac1,ac2,ac3,ac4,ac5,ac6,ac7,ac8,ac9,ada,adb,ade,adf,adg,adh,nbq,nbl,nbt,atl,o1,o2,o3,o5,o6,a2,a3,a4,t1,t2,t3,g1,g2,eP,jg,eN,iy,Ta,List.all_nil,dD,kH,List.elem_cons,Bool.true_and,Bool.false_and,abX,abV,Bool.true_or,abW,aa1,Bool.and_true,sF,Option.map_none,np,wG,Wh,List.flatMap_nil,List.isEmpty_cons,List.isEmpty_nil,List.any_cons,Wg,mF,Si,y8.eq_1,y8.eq_2,vc.eq_1,vc.eq_4,vc.eq_6,vc.eq_7,vc.eq_8,zn.eq_def,orT.eq_def,orB.eq_def,vw.eq_1,vw.eq_2,Qx.eq_def,eqK.eq_1,eqK.eq_2,y9.eq_1,Ip.eq_1,Ip.eq_2,eM.eq_1,ur.eq_1,ur.eq_2,tH.eq_def,rR.eq_1,rR.eq_2,UK.eq_1,UJ.eq_1,Tj.eq_1,Tj.eq_2,Mc.eq_1,Mc.eq_2,W6.eq_def,lkH.eq_1,Iu.eq_def,lk.eq_1,lk.eq_2,td.eq_1,II.eq_1,II.eq_2,uj.eq_def,BA.eq_def,nT.eq_1,sG.eq_1,sG.eq_2,oQ.eq_1,yL.eq_1,yL.eq_2,yL.eq_3,wR.eq_1,Ev.eq_1,Ev.eq_2,gd.eq_1,gd.eq_2,P1.eq_1,wK.eq_1,wK.eq_2,P6.eq_def,wr.eq_1,wr.eq_2,wr.eq_4,wr.eq_6,wr.eq_8,wr.eq_9,wr.eq_10,wr.eq_11,BW.eq_1,BW.eq_2,Y7.eq_1,exC.eq_1,Rw.eq_def,Fc.eq_def,rd.eq_1,rd.eq_2,rd.eq_3,rd.eq_4,rd.eq_5,rd.eq_6,rd.eq_7,rd.eq_8,rd.eq_9,rd.eq_10,rd.eq_11,rd.eq_12,rd.eq_13,rd.eq_15,ZE.eq_def,acd,ace,acf,Sw.eq_1,LR.eq_1,LR.eq_2,Tz.eq_1,RP.eq_1,RP.eq_2,zW.eq_1,zW.eq_2,Kv.eq_1,Kv.eq_2,qP.eq_1,qP.eq_2,qP.eq_3,qP.eq_4,qP.eq_5,SV.cells.eq_def,unO.eq_def,aby.eq_def,abg.eq_def,wg.eq_1,wg.eq_2,wg.eq_3,wg.eq_6,wg.eq_7,wg.eq_8,wg.eq_9,wg.eq_10,wg.eq_11,wg.eq_12,ach,acj,ldC.eq_1,Mx.eq_1,Mx.eq_2,Mx.eq_3,oL.eq_def,SV.mW.eq_def,TI.zi.eq_1,TI.agg.eq_1,Sh.zero.eq_1,Sh.zero.eq_2,Sh.zero.eq_3,Sh.zero.eq_4,Sh.zero.eq_5,Sh.zero.eq_6,Sh.zero.eq_7,ev.eq_1,ev.eq_2,ev.eq_3,ev.eq_4,Ky.eq_def,tY.eq_1,tY.eq_2,nN.eq_1,nN.eq_3,nN.eq_4,nN.eq_5,nN.eq_6,nN.eq_7,yF.eq_1,yF.eq_2,SV.nb.eq_def,ku.eq_1,ku.eq_2,AV.sv.eq_1,AV.sv.eq_2,SV.v.eq_1,SV.v.eq_2,SV.v.eq_3,SV.v.eq_4,SV.v.eq_5,SV.v.eq_6,SV.v.eq_7,SV.v.eq_8,SV.v.eq_9,AV.v.eq_1,AV.v.eq_2,Ce.v.eq_1,Ce.v.eq_2,Ce.v.eq_3,Ce.v.eq_4,Ce.v.eq_5,Ce.v.eq_6,Ce.v.eq_7,Ce.v.eq_8,Ce.v.eq_9,Ce.v.eq_10,Ce.v.eq_11,Ce.v.eq_12,Ce.v.eq_13,BR.eq_1,BR.eq_2,aaf.eq_1,Kz.eq_def,jm.eq_1,jm.eq_2,LZ.eq_1,LZ.eq_2,Tc.eq_1,Tc.eq_2,Sh.ty.eq_1,Sh.ty.eq_2,Sh.ty.eq_3,Sh.ty.eq_4,Sh.ty.eq_5,Sh.ty.eq_6,Sh.ty.eq_7,Sh.mk.eq_1,Sh.mk.eq_2,Sh.mk.eq_3,Sh.mk.eq_4,Sh.mk.eq_5,Sh.mk.eq_6,Sh.mk.eq_7,Me.eq_1,SV.ces.eq_def,AV.ces.eq_1,AV.ces.eq_2,K8.eq_1,pmG.eq_1,pmG.eq_2,ZZ.eq_1,ZZ.eq_2,kld.eq_1,klc.eq_1,kxc.eq_1,kxs.eq_1,krc.eq_1,kal.eq_1,kam.eq_1,pa.eq_1,p3.eq_1,p2.eq_1,Ym.eq_1,abt.eq_1,khi.eq_1,klo.eq_1,kav.eq_1,kxt.eq_1,krt.eq_1,krs.eq_1,abu.eq_1,kbs.eq_1,kcp.eq_1,kw.eq_1,kr.eq_1,ky.eq_1,kn.eq_1,dr1.eq_1,dry.eq_1,drn.eq_1,dr2.eq_1,dwy.eq_1,dra.eq_1,kq.eq_1,ks.eq_def,kc.eq_def,ki.eq_1,kb.eq_def,ke.eq_def,kl.eq_1,kR.eq_def,kx.eq_1,kz.eq_1,kf.eq_def,Th.eq_1,aem,aaa,Yg,Yd,ab9,aca,ack,Z7,aej,Z8,acg,Z9,Z5,Z6,aci,acm,Yc,aab,Ye,Yf,ael,aek,ab5,ab6,exI,exU,exB,aer,exP,exF,exM,alI,alU,alB,aeb,alP,alF,alM,cU8,z0,z1,tb,ab7,b1,b2,b3,b4,b5,b6,aac,aad,aep,aeo,aen,ab8,acb,abz.eq_def,exQ,alQ,Sh.zero.eq_8,Sh.ty.eq_8,Sh.mk.eq_8];simp[eP,jg,uJ,QK.eq_1,QK.eq_2,rg1,rg2,rg3,rg4,rg5,rg6,rg7];exact Tg.lf _) (by refine Tg.pm2.trans ?_;dsimp -zeta+instances only[↓Ys,ile,↓aex,nze,nce,LZ,Tc,Sh.ty,Int.cast_ofNat_Int]);trivial)
 (j:X=Zw dP TBL GL A n e c a m R:=by kernel_rfl)
 :X->bJ dP f g m R:=λh=>by
 subst o
 exact vk Rl gok mix k (jR Prod.fst d) (jR (λx=>x.2.1) d) (jR (λx=>x.2.2) d) i (oV l) hd (j▸h)
end
section
open Tryz
variable{m:D}{R:ak}
variable{a b p d e f g h r u v w x y z B:E}{i j k l q o s t C F G H I J K L:Int}
def He(a:E):=eS m R ⟨[(4,[(12,.I)])],[],[(4,[25])]⟩ [.agg [a,b]] func11
def EF(a:E):=eS m R ⟨[(5,[(18,.I)]),(8,[(25,.I)])],[],[(5,[59,57,56]),(8,[61,59,57,56])]⟩ [.agg [a,b]] func12
def Ci(a:E):=eS m R A0 [a] func13
def I8(a:E):=eS m R ⟨[(6,[])],[(4,[(6,.P)]),(11,[(10,.T)])],[(4,[105,103]),(6,[105,103]),(11,[110,109,105,103])]⟩ [.agg [a,b],i] func14
def Jt(a:E):=eS m R A0 [.agg [a,b],i] func15
def yN(a:E):=eS m R A0 [a] func23
def Dd(a:E):=eS m R ⟨[(5,[(20,.I)]),(13,[(66,.I)])],[(12,[])],[(5,[82,80]),(12,[85,82,80]),(13,[85,82,80])]⟩ [.agg [a,b]] func24
def Hg(a:E):=eS m R ⟨[(3,[(3,.I),(8,.I)])],[],[]⟩ [a] func25
def Dm(a:E):=eS m R A0 [.agg [a,b],i] func26
def AA(p:ai):=eS m R ⟨[],[(5,[(4,.T)])],[(5,[91])]⟩ [p] func27
def DQ(a:E):=eS m R ⟨[(4,[(3,.I)])],[],[(4,[30])]⟩ [.agg [a,b]] func28
def JK(i:Int):=eS m R A0 [i,j,k] func29
def KR(a:E):=eS m R ⟨[(5,[(50,.I)]),(10,[(71,.I)]),(19,[(115,.I)])],[(3,[(8,.P)]),(4,[(9,.P)])],[(3,[138,134]),(4,[138,134]),(5,[138,134]),(10,[138,134]),(19,[138,134])]⟩ [.agg [a,b],i] func33
def BG(a:E):=eS m R ⟨[(3,[(15,.I)]),(7,[(34,.I)])],[],[(3,[66,65]),(7,[69,66,65])]⟩ [.agg [a,b]] func34
def Df(a:E):=eS m R ⟨[(1,[(1,.I),(2,.I)])],[],[]⟩ [a,i,j] func35
def EE(c:ai):=eS m R ⟨[(4,[(31,.I)])],[],[(4,[49])]⟩ [c,.agg [i,j,k,l,a,b,p]] func36
def BJ(s:ai)(a:Int)(lg:Bool):=eS m R A0 [s,a,.c (.t lg)] func37
def J2(a:E):=eS m R ⟨[(3,[])],[],[(3,[73,71])]⟩ [.agg [a,b],i] func38
def De(a:E):=eS m R ⟨[(4,[(14,.I)]),(9,[(56,.I)]),(15,[(76,.I)])],[(8,[])],[(8,[110]),(9,[110]),(15,[110])]⟩ [a] func42
def KK(a:E):=eS m R ⟨[(6,[(6,.S),(28,.I)])],[],[]⟩ [a,i] func43
def FU(a:E):=eS m R A0 [a] func44
def Hp(p:ai):=eS m R A0 [p] func45
def Ia(p:ai):=eS m R A0 [p] func46
def EJ(a:E):=eS m R ⟨[(5,[(18,.I)])],[],[(5,[43,42])]⟩ [.agg [a,b]] func47
def uc(a:E):=eS m R ⟨[(6,[(88,.I)])],[(5,[])],[(5,[147,146,145,144]),(6,[147,146,145,144])]⟩ [.agg [a,b],.agg [p,d,i,j,e],k,.agg [l,q,o,s,f,g]] func48
def Hi(a:E):=eS m R A0 [.agg [a,b],i,j] func49
def BN(p q:ai):=eS m R ⟨[(4,[(28,.I)]),(14,[(65,.I)])],[(13,[])],[(4,[212,211]),(13,[212,211]),(14,[212,211])]⟩ [p,q,.agg [i,j,k,l,a,b]] func50
def Dk(p q:ai):=eS m R ⟨[(3,[(24,.I)])],[],[(3,[353])]⟩ [p,q,.agg [i,j,k,l,a,b]] func51
def Gp(a:E):=eS m R ⟨[(4,[(3,.I)])],[],[(4,[65])]⟩ [.agg [a,b]] func52
def Cz(a:E):=eS m R ⟨[(3,[(4,.I)])],[],[(3,[37,36])]⟩ [.agg [a,b]] func53
def Gn(a:E):=eS m R ⟨[(5,[(6,.I)])],[],[(5,[62,61])]⟩ [.agg [a,b],.agg [p,d,i,j,e]] func54
def rP(a:E):=eS m R A0 [a] func55
def DP(a:E):=eS m R A0 [.agg [a,b],i] func56
def xR(m:D)(R:ak):Prop:=
 let a:D:=m.push (.cells (dh [.i (0:Int),.i (0:Int),.t false,.i (0:Int),.i (0:Int),.i (0:Int)]) 86)
 NE m.size m.size (
 let b:D:=aW a m.size 0 [.i (-1:Int),.i (0:Int),.t false,.i (-1:Int),.i (-1:Int),.i (-1:Int)]
 NE m.size m.size (
 R (.agg #[vi (-1:Int),vi (0:Int),vb false,vi (-1:Int),vi (-1:Int),vi (-1:Int)]) b))
def Dn(m:D)(R:ak)(a:xR m R):bJ dP 58 [] m R:=
 vk (o:=⟨[],[],[]⟩) (d:=2) (r:=[.cell 0 86]) (a:=[]) Rl gok mix Tryz.func58 (m:=Me Tryz.f58) (by kernel_rfl) (by kernel_rfl) (by kernel_rfl) (by kernel_rfl) bO (by kernel_rfl) (Eq.mp (by kernel_rfl) a)
def vL(a:E):=eS m R A0 [a,i] func59
def uI(p:ai):=eS m R ⟨[(7,[(41,.I)])],[(2,[(5,.Q),(6,.P)])],[]⟩ [p,i] func60
def Dg(a:E):=eS m R ⟨[(3,[(12,.I)]),(7,[(27,.I)])],[],[(7,[51])]⟩ [a] func61
def ye(a:E):=eS m R A0 [a] func62
def p7(a:E):=eS m R A0 [a] func63
def EL(a:E):=eS m R ⟨[(3,[(3,.I),(8,.I)])],[],[]⟩ [a] func64
def zZ(p q:ai):=eS m R A0 [p,q] func65
def Bc(p:ai):=eS m R A0 [p] func66
def Aa(p q:ai):=eS m R A0 [p,q,i,j] func67
def KN(a:E):=eS m R A0 [a,i] func71
def Hf(a:E):=eS m R ⟨[(2,[(9,.I)])],[],[]⟩ [a,b] func72
def FF(p:ai):=eS m R A0 [p] func73
def Cw(p:ai):=eS m R A0 [p,i] func74
def Fl(p:ai):=eS m R ⟨[(3,[(6,.I)])],[],[(3,[57,56,55])]⟩ [p,.agg [a,b]] func75
def DN(p:ai):=eS m R A0 [p,.agg [a,b],i] func76
def DL(p:ai):=eS m R A0 [p,a] func77
def EM(a:E):=eS m R ⟨[(4,[(39,.I)]),(9,[(64,.I)])],[],[(9,[108])]⟩ [a,b] func78
def AG(i:Int):=eS m R A0 [i] func79
def sS(p q:ai):=eS m R A0 [i,p,q] func80
def tJ(s:E)(f:Fn×Array Value×Array Value):=eS m R A0 [s,.c (.fv f)] func81
def sU(p:ai):=eS m R A0 [i,p] func82
def va(b c:E)(d e f g:Int)(h i:E)(a:Fn×Array Value×Array Value):=eS m R A0 [.agg [b,c],.agg [d,e,f,g,h,i],.c (.fv a)] func83
def wj(a:E):=eS m R A0 [.agg [a,b],.agg [i,j,k,l,p,d]] func84
def wZ(p:ai):=eS m R ⟨[(15,[(4,.S),(5,.S),(31,.I)])],[],[(15,[62])]⟩ [p,.agg [i,j,k,l,a,b]] func85
def yG(p:ai):=eS m R A0 [p,i] func86
def zO(p:ai):=eS m R A0 [i,p] func87
def Ja(a:E):=eS m R A0 [a] func88
def xe(p q:ai):=eS m R A0 [p,q,.agg [i,j,k,l,a,b]] func89
def vE(p q:ai):=eS m R ⟨[(14,[(10,.S),(74,.I)])],[],[(14,[125,121])]⟩ [p,q,.agg [i,j,k,l,a,b]] func90
def xO(p q:ai):=eS m R A0 [p,q,.agg [i,j,k,l,a,b]] func91
def ED(p:ai):=eS m R A0 [p,i,j,k] func92
def wi(p q:ai):=eS m R A0 [p,q,.agg [i,j,k,l,a,b]] func93
def zK(p:ai):=eS m R A0 [p,i,a] func94
def BE(p:ai):=eS m R ⟨[(3,[(13,.I)])],[],[]⟩ [p,a] func95
def EH(p:ai):=eS m R ⟨[(1,[(4,.S)])],[],[]⟩ [p,i] func96
def Az(p q:ai):=eS m R ⟨[(5,[(39,.I)])],[],[(5,[58])]⟩ [p,q,.agg [i,j,k,l,a,b]] func97
def AF(i:Int):=eS m R A0 [i] func98
def yg(a:E):=eS m R ⟨[(2,[(8,.I)])],[],[]⟩ [a,i] func99
def Ay(c:ai):=eS m R ⟨[(9,[(63,.I)])],[(7,[(9,.I)])],[(7,[111]),(9,[114,111])]⟩ [c,i,a,.agg [j,k,l,q,b,p]] func100
def zL(a:ai)(w:Int)(fH:Bool):=eS m R ⟨[(13,[(69,.I)])],[(5,[])],[]⟩ [a,w,.c (.t fH)] func101
def xc(p:ai):=eS m R A0 [p,i] func102
def DU(a:E):=eS m R ⟨[(4,[(3,.I)])],[],[]⟩ [a] func103
def Hm(a:E):=eS m R ⟨[(2,[(5,.I)])],[],[]⟩ [a,b] func104
def Gm(a:E):=eS m R ⟨[(2,[(5,.I)])],[],[]⟩ [a,b] func105
def DS(a:E):=eS m R ⟨[(4,[(9,.I)])],[(10,[])],[(4,[241,238,237]),(10,[241,238,237])]⟩ [.agg [a,b],.agg [p,d,i,j,e],k] func106
def JI(a:E):=eS m R A0 [.agg [a,b],i,j,p,d] func107
def BL(p:ai):=eS m R A0 [p] func108
def vG(p q:ai):=eS m R ⟨[(6,[(49,.I)])],[(10,[])],[(6,[80]),(10,[80])]⟩ [p,q,.agg [i,j,k,l,a,b]] func109
def yI(p q:ai):=eS m R A0 [p,q,.agg [i,j,k,l,a,b]] func110
def BH(i:Int):=eS m R A0 [.agg [i,j,k,l,a,b],q] func111
def yH(p q:ai):=eS m R A0 [p,q,i] func112
def qQ(a:E):=eS m R A0 [a] func113
def rO(a:E):=eS m R A0 [a] func114
def Lp(i:Int):=eS m R A0 [i] func115
def HQ(i:Int):=eS m R ⟨[(3,[(6,.I)])],[],[(3,[42])]⟩ [.agg [i,j,k,a,b,p],d] func116
def J4(a:E):=eS m R ⟨[(4,[(5,.S),(6,.I)])],[(3,[(30,.T)])],[(3,[70,69]),(4,[70,69])]⟩ [.agg [a,b],.agg [i,j,k,l,p,d]] func117
def yS(c:ai):=eS m R ⟨[],[(3,[])],[(3,[226,225])]⟩ [c,.agg [i,j,k,a,b,p],.agg [l,q,o,s,d,e],f] func118
def ym(c:ai):=eS m R A0 [c,.agg [i,j,k,a,b,p],.agg [l,q,o,s,d,e]] func119
def FR(a:E):=eS m R ⟨[(3,[(3,.I),(4,.I)])],[],[]⟩ [a] func120
def Ac(a:E):=eS m R ⟨[(3,[(5,.I),(6,.I)])],[],[]⟩ [a,i] func121
def JH(a:E):=eS m R ⟨[(3,[(4,.I)])],[],[(3,[75,74])]⟩ [.agg [a,b]] func128
def AR(p:ai):=eS m R ⟨[],[(4,[]),(6,[]),(9,[]),(11,[])],[(4,[37]),(6,[37]),(9,[37]),(11,[37])]⟩ [p] func129
def Gi(a:E):=eS m R ⟨[(3,[(4,.I)])],[],[(3,[45,44])]⟩ [.agg [a,b]] func130
def Fu(a:E):=eS m R ⟨[(3,[(4,.I)]),(8,[(6,.S),(7,.I)])],[],[(3,[62,61]),(8,[65,62,61])]⟩ [.agg [a,b]] func131
def Fk(p:ai):=eS m R A0 [p,.agg [i,j,k,l,a,b]] func132
def xw(p:ai):=eS m R A0 [p,a] func133
def Ho(p:ai):=eS m R A0 [p] func134
def DO(p:ai):=eS m R A0 [p,.agg [i,j,k,l,a,b]] func135
def ve(s:E)(f:Fn×Array Value×Array Value):=eS m R ⟨[(2,[(8,.I)])],[],[]⟩ [s,.c (.fv f)] func136
def Hh(a:E):=eS m R A0 [a,i] func137
def KO(a:E):=eS m R A0 [a,i] func138
def EG(i:Int):=eS m R A0 [i] func139
def se(e:ai)(i:Int)(n:Int)(c:E)(m:D)(R:ak):Prop:=
 let k:D:=m.push (.cells (dh [.i i,.i n,.s c]) 57)
 NE m.size m.size (
 ((i==(1:Int))=true->
 R (vb true) k)/\
 ((i==(1:Int))=false->
 let v:D:=k.push (.map #[] 0)
 NE m.size m.size (
 ∃(o:Int->D->Prop)(μ0:Int->D->Nat),
 o (0:Int) v/\
 (∀(b:Int)(f:D),o b f->
 ((decide (b<(c.len:Int)))=true->
 (0:Int)<=b/\b<(c.len:Int)/\
 ∃t:Int,aS f c.bt (c.off+Int.toNat b*1)=some (vi t)/\
 ∃u:E,aS f e.1 (e.2+3+5)=some (E.v u)/\
 bJ dP 138 [E.v u,vi t] f λw g=>
 gT [m.size] f g/\
 ∃d:Int,∃q:Bool,w=.tuple #[vi d,vb q]/\
 (q=true->
 ∃l,Iz g k.size l/\
 ∃s,Iz g k.size s/\
 ∀a:D,Iz a k.size (Oz s d (eV ((zU l d)+(1:Int))))->a.size=g.size->(∀j,j≠k.size->a[j]? =g[j]?)->
 gT [m.size] g a/\
 ∃h:E,aS a e.1 (e.2+3+5)=some (E.v h)/\
 (0:Int)<=d/\d<(h.len:Int)/\
 ∃r:Int,aS a h.bt (h.off+Int.toNat d*3)=some (vi r)/\
 ∃p,Iz a k.size p/\
 aS a h.bt (h.off+Int.toNat d*3)=aS a h.bt (h.off+Int.toNat d*3)/\
 aS a e.1 (e.2+3+5)=aS a e.1 (e.2+3+5)/\
 ((decide ((eV (r+(zU p d)))>(999999:Int)))=true->
 R (vb false) a)/\
 ((decide ((eV (r+(zU p d)))>(999999:Int)))=false->
 eqS (SV.box m.size 57 [.i i,.i n,.s c]) (SV.box m.size 57 [.i i,.i n,.s c]) (
 o (eV (b+(1:Int))) a/\μ0 (eV (b+(1:Int))) a<μ0 b f)))/\
 (q=false->
 eqS (SV.box m.size 57 [.i i,.i n,.s c]) (SV.box m.size 57 [.i i,.i n,.s c]) (
 o (eV (b+(1:Int))) g/\μ0 (eV (b+(1:Int))) g<μ0 b f)))/\
 ((decide (b<(c.len:Int)))=false->
 R (vb true) f)))))
def xf(a:ai)(b:Int)(d:Int)(e:E)(m:D)(R:ak)(f:se a b d e m R):bJ dP 140 [vp a.1 a.2,.agg #[vi b,vi d,E.v e]] m R:=
 vk (o:=⟨[(5,[(17,.I)])],[],[(5,[54])]⟩) (d:=51) (r:=[.tmp 4]) (a:=[.c (.p a.1 a.2),.agg [.i b,.i d,.s e]]) Rl gok mix Tryz.func140 (m:=Me Tryz.f140) (by kernel_rfl) (by kernel_rfl) (by kernel_rfl) (by kernel_rfl) bO (by kernel_rfl) (Eq.mp (by kernel_rfl) f)
def yf(a:E):=eS m R ⟨[(4,[(13,.I)])],[],[]⟩ [a,b] func141
def Dl(a:E):=eS m R ⟨[(3,[(3,.S),(8,.I)])],[],[]⟩ [a] func142
def Ov(i:Int):=eS m R A0 [i,j,k] func143
def Dh(p:ai):=eS m R A0 [p,i,a] func144
def EI(p:ai):=eS m R ⟨[(1,[(2,.I)])],[],[]⟩ [p] func145
def Gk(a:E):=eS m R ⟨[(6,[(6,.I)]),(12,[(7,.I)])],[],[(6,[105]),(12,[105])]⟩ [a,i] func146
def O3(i:Int):=eS m R A0 [i] func147
def JC(a:E):=eS m R ⟨[(2,[(5,.I)])],[],[]⟩ [a,i] func148
def vM(a:E):=eS m R A0 [a,i] func149
def HR(a:E):=eS m R A0 [.agg [a,b],i,j,k] func150
def zo(a:E):=eS m R ⟨[(5,[(5,.S),(6,.I)])],[],[]⟩ [a,i] func151
def DT(a:E):=eS m R ⟨[(4,[(9,.I)])],[],[]⟩ [a,i,j,k] func152
def Nn(i:Int):=eS m R A0 [i] func153
def og(a:E):=eS m R A0 [a] func154
def BK(p:ai):=eS m R ⟨[(1,[(1,.I)])],[],[]⟩ [p,i] func155
def Dj(p:ai):=eS m R A0 [p,i] func156
def zQ(p q:ai):=eS m R ⟨[(7,[(10,.S),(62,.I)]),(17,[(110,.I)])],[(5,[])],[(5,[156,153]),(7,[156,153]),(17,[156,153])]⟩ [p,q,.agg [i,j,k,l,a,b]] func157
def EK(p:ai):=eS m R ⟨[(6,[(47,.I)])],[],[]⟩ [p,i,j,k] func158
def zP(p q:ai):=eS m R A0 [p,q,.agg [i,j,k,l,a,b]] func159
def AI(p q:ai):=eS m R ⟨[(3,[(24,.I)]),(21,[(12,.S),(101,.I)]),(30,[(147,.I)])],[(17,[(10,.I),(11,.T)]),(29,[(12,.S)])],[(3,[166]),(17,[166]),(21,[166]),(29,[166]),(30,[166])]⟩ [p,q,.agg [i,j,k,l,a,b]] func160
def Di(p q:ai):=eS m R ⟨[(4,[(23,.I)])],[(11,[]),(13,[]),(15,[])],[(11,[121]),(13,[121]),(15,[121])]⟩ [p,q] func161
def FJ(i:Int):=eS m R A0 [i] func162
def wO(i:Int):=eS m R A0 [i] func163
def JP(a:E):=eS m R A0 [.agg [a,b],.agg [i,j,k,l,p,d],q] func164
def Bf(a:E):=eS m R ⟨[(2,[(3,.I)])],[],[]⟩ [a] func165
def Dx(i:Int):=eS m R ⟨[(2,[(5,.I)])],[],[(2,[26,25])]⟩ [.agg [i,j,k,a,b,p],.agg [l,q,o,s,d,e]] func166
def xt(c:ai):=eS m R A0 [c,.agg [i,j,k,a,b,p],.agg [l,q,o,s,d,e]] func167
def xl(c:ai):=eS m R ⟨[(2,[(7,.I)])],[],[(2,[51,50])]⟩ [c,.agg [i,j,k,a,b,p],.agg [l,q,o,s,d,e]] func168
def Jx(a:E):=eS m R ⟨[(2,[(3,.I)])],[],[]⟩ [a] func169
def xr(p:ai):=eS m R A0 [p,i] func170
def Lq(a:E):=eS m R A0 [a,i] func171
def yR(p:ai):=eS m R A0 [p,i] func172
def yl(c:ai):=eS m R A0 [c,.agg [i,j,k,a,b,p],.agg [l,q,o,s,d,e]] func173
def ON(a:E):=eS m R ⟨[(2,[(5,.I)])],[],[]⟩ [a,i] func174
def yU(p:ai):=eS m R A0 [p,i,j] func175
def O0(i:Int):=eS m R A0 [i,j,k] func176
def wB(c:ai):=eS m R ⟨[],[(5,[(8,.I)])],[(5,[75,74])]⟩ [c,.agg [i,j,k,a,b,p],.agg [l,q,o,s,d,e],t] func177
def Hv(a:E):=eS m R ⟨[(3,[(3,.I),(4,.I)])],[],[]⟩ [a] func178
def Af(c:ai):=eS m R ⟨[],[(10,[(6,.I),(7,.S)])],[(10,[128,127])]⟩ [c,.agg [i,j,k,a,b,p],.agg [l,q,o,s,d,e]] func179
def Ag(c:ai):=eS m R A0 [c,.agg [i,j,k,a,b,p],l] func180
def Ah(p:ai):=eS m R ⟨[(1,[(4,.I)])],[],[]⟩ [p,a] func181
def tA(p:ai):=eS m R A0 [p,i] func182
def FA(a:E):=eS m R ⟨[(2,[(5,.S)])],[],[]⟩ [a,b] func183
def xu(c:ai):=eS m R ⟨[(4,[(8,.I)])],[],[(4,[111,110])]⟩ [c,.agg [i,j,k,a,b,p],.agg [l,q,o,s,d,e]] func184
def yT(p:ai):=eS m R A0 [p,i,j] func185
def HB(a:E):=eS m R ⟨[(3,[(5,.I),(6,.I)])],[],[]⟩ [a,i] func186
def Ft(a:E):=eS m R ⟨[(3,[(3,.S),(4,.I)]),(7,[(5,.S),(6,.I)])],[],[]⟩ [a] func188
def Cv(i:Int):=eS m R ⟨[(3,[(5,.S),(6,.I)])],[],[]⟩ [i,j] func189
def Ab(c:ai):=eS m R ⟨[(2,[(3,.S),(4,.S),(10,.I)])],[(17,[])],[(2,[104,103]),(17,[108,104,103])]⟩ [c,.agg [a,b],.agg [p,i],d,e] func190
def Co(p:ai):=eS m R A0 [p,.agg [i,j,k,l,a,b]] func191
def Ly(a:E):=eS m R ⟨[(3,[(5,.I),(6,.I)]),(7,[(5,.I),(7,.I)])],[],[]⟩ [a,i] func192
def Cm(p:ai):=eS m R A0 [p] func193
def OK(p:ai):=eS m R ⟨[(9,[(10,.S),(11,.I)])],[],[(9,[108,106,105])]⟩ [p,.agg [a,b]] func194
def Fo(a:E):=eS m R ⟨[(3,[(4,.I)])],[],[(3,[38,37])]⟩ [.agg [a,b]] func195
def CA(a:E):=eS m R ⟨[(3,[(4,.I)])],[],[(3,[40,39])]⟩ [.agg [a,b]] func196
def LA(a:E):=eS m R ⟨[(3,[(4,.I)])],[],[(3,[40,39])]⟩ [.agg [a,b]] func197
def Ie(a:E):=eS m R ⟨[(3,[(3,.S),(4,.I)])],[],[]⟩ [a] func198
def vP(i:Int):=eS m R A0 [.agg [i,j,k,l,a,b]] func199
def FE(p:ai):=eS m R A0 [p] func200
def QS(a:E):=eS m R A0 [a] func201
def Mm(a:E):=eS m R ⟨[(2,[(1,.I),(10,.I)])],[],[(2,[43])]⟩ [a,i] func202
def pw(s:E)(f:Fn×Array Value×Array Value):=eS m R ⟨[(2,[(8,.I)])],[],[]⟩ [s,.c (.fv f)] func203
def Ax(i:Int):=eS m R A0 [.agg [i,j,a]] func204
def JF(i:Int):=eS m R A0 [i] func205
def ud(a:E):=eS m R A0 [.agg [a,b],i,j,p] func206
def xS(p c:ai):=eS m R ⟨[],[(2,[(16,.T)]),(7,[])],[(2,[72]),(7,[72])]⟩ [p,c,.agg [i,j,k,l,a,b],q] func207
def wC(p:ai):=eS m R ⟨[(2,[(5,.I)]),(6,[(6,.I),(7,.I)])],[],[]⟩ [p,a] func208
def DK(a:E):=eS m R ⟨[(3,[(3,.S),(4,.I)])],[],[]⟩ [a] func209
def HW(a:E):=eS m R ⟨[(4,[(5,.I)])],[],[]⟩ [a,b] func210
def Kc(i:Int):=eS m R ⟨[(3,[(5,.S),(6,.I)])],[],[(3,[28])]⟩ [.agg [i,j,k,a,b,p],d] func211
def MK(i:Int):=eS m R A0 [i] func212
def FD(a:E):=eS m R ⟨[(2,[(3,.I)])],[],[]⟩ [a] func213
def Nf(a:E):=eS m R A0 [a,i,j,b] func214
def zr(a:E):=eS m R A0 [a,b] func215
def yV(p:ai):=eS m R A0 [p,i] func216
def O9(a:E):=eS m R ⟨[(2,[(3,.I)])],[],[]⟩ [a] func217
def vR(c:ai):=eS m R ⟨[(3,[(7,.S),(8,.I)])],[],[(3,[42])]⟩ [c,.agg [i,j,k,l,a,b],p] func218
def yP(c:ai):=eS m R ⟨[(17,[(16,.S),(17,.S),(18,.I)]),(22,[(20,.I)]),(33,[(23,.I)])],[],[(17,[215,214]),(22,[215,214]),(33,[215,214])]⟩ [c,.agg [a,b],.agg [i,j,k,p,d],e,f] func220
def HG(a:E):=eS m R ⟨[(3,[(5,.S),(6,.I)])],[],[]⟩ [a,i] func221
def Gb(p:ai):=eS m R A0 [p] func222
def JE(a:E):=eS m R ⟨[(3,[(4,.I)])],[],[(3,[38,37])]⟩ [.agg [a,b]] func223
def OR(a:E):=eS m R ⟨[(3,[(4,.I)])],[],[(3,[41,40])]⟩ [.agg [a,b]] func224
def Cq(a:E):=eS m R ⟨[(5,[(9,.I)])],[],[(5,[67])]⟩ [.agg [a,b],i,j] func225
def A2(p:ai):=eS m R ⟨[(1,[(1,.I)])],[],[]⟩ [p,i] func226
def JV(a:E):=eS m R A0 [.agg [a,i],j,.agg [k,l,q,b,p]] func227
def Hz(i:Int):=eS m R A0 [i,j] func228
def CF(a:E):=eS m R A0 [.agg [a,b],i,.agg [p,j]] func229
def Ig(a:E):=eS m R A0 [.agg [a,b,i,p,j],.agg [d,k]] func230
def Ck(a:E):=eS m R ⟨[(4,[(3,.S),(4,.S),(5,.I)]),(13,[(7,.S),(8,.I)])],[],[(4,[74,73]),(13,[78,74,73])]⟩ [.agg [a,i]] func231
def Bh(a:E):=eS m R ⟨[(3,[(2,.I),(8,.I)]),(9,[(10,.S),(12,.I)])],[],[(3,[113,111,110]),(9,[116,113,111,110])]⟩ [.agg [a,b],.agg [p,i],j] func232
def DM(a:E):=eS m R ⟨[(3,[(8,.I)]),(8,[(10,.S),(11,.I)])],[],[(3,[67,65,64]),(8,[70,67,65,64])]⟩ [.agg [a,b],.agg [p,i],d] func233
def Gd(a:E):=eS m R ⟨[(1,[(1,.I),(2,.I)])],[],[]⟩ [a,i,j] func234
def Jb(a:E):=eS m R A0 [a,i] func235
def Jc(a:E):=eS m R ⟨[(2,[(11,.I)])],[],[]⟩ [a,i,j] func236
def mX(s:E)(f:Fn×Array Value×Array Value):=eS m R A0 [s,.c (.fv f)] func237
end
end Go.Proofs.YtbbbdejieenniaaGreat
