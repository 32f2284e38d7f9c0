/- Part of a proof. -/
import Derived.KernelRfl
import Derived.Laws.Append
import Derived.Laws.Cells
import Derived.Laws.Entries
import Derived.Laws.IdiomCopy
import Derived.Orders
import Derived.OrdersHeld
import Derived.Still
import Derived.Tactics
import Derived.Test.YtghjegjkpepmpaaGreatProg
set_option linter.all false
set_option maxHeartbeats 8000000
set_option maxRecDepth 100000
namespace Go.Vc
def ad:=@Nat.le_refl
def ae:=@if_neg
def ah:=@List.mem_cons_of_mem
def aj:=@beq_eq_false_iff_ne
def ao:=@if_pos
def ar:=@decide_eq_true_eq
def az:=@List.getElem?_append_left
def aG:=@beq_iff_eq
def aK:=@List.getElem?_append_right
def aP:=@Nat.lt_of_lt_of_le
def aW:=@List.mem_cons
def aX:=@Nat.lt_or_ge
def aZ:=@List.mem_cons_self
def be:=@List.length_cons
def bh:=@List.length_append
def bt:=@Nat.eq_of_beq_eq_true
def bu:=@Bool.or_eq_false_iff
def bJ:=@Nat.le_trans
def bL:=@List.mem_append_left
def bN:=@Bool.and_eq_true
def bO:=@decide_eq_false_iff_not
def bT:=@Bool.or_eq_true
def bW:=@Nat.zero_add
def cx:=@List.getElem?_set_ne
def cF:=@List.mem_or_eq_of_mem_set
def cN:=@List.getElem?_map
def cO:=@List.map_cons
def cT:=@List.getElem?_eq_none
def de:=@Int.le_refl
def df:=@List.cons_append
def dm:=@Nat.mul_le_mul_right
def dq:=@Nat.add_assoc
def dv:=@List.take_append_drop
def dB:=@List.getElem?_set_self
def dE:=@Classical.byContradiction
def dF:=@List.mem_of_mem_take
def dK:=@List.getElem?_take_of_lt
def dQ:=@Nat.zero_le
def dT:=@Classical.em
def eg:=@List.append_nil
def eu:=@List.length_map
def ez:=@List.length_set
def eG:=@List.mem_append_right
def eH:=@List.nil_append
def eT:=@Nat.mul_one
def eY:=@List.length_nil
def eZ:=@Nat.not_lt_zero
def fy:=@List.dropLast_concat_getLast
def fA:=@List.map_append
def fB:=@List.take_length
def fF:=@List.append_assoc
def fG:=@List.map_nil
def fP:=@Classical.choose_spec
def fV:=@List.getD_eq_getElem?_getD
def gH:=@List.getLast?_eq_some_getLast
def gJ:=@List.mem_of_getElem?
def gQ:=@List.length_take
def gT:=@Nat.add_mul
def ic:=@List.ext_getElem?
def iB:=@List.getElem?_cons_succ
def iJ:=@List.set_cons_zero
def iU:=@bne_eq_false_iff_eq
def iX:=@Bool.not_eq_true'
def ju:=@Nat.min_eq_left
def jz:=@Bool.false_eq_true
def jA:=@List.set_cons_succ
def jL:=@List.flatten_cons
def jM:=@List.getElem?_set
def jN:=@Nat.add_zero
def jO:=@Option.map_eq_some_iff
def jP:=@cond_true
def jS:=@Option.some.inj
def jY:=@Array.getElem?_setIfInBounds_ne
def km:=@List.not_mem_nil
def ku:=@Nat.eq_zero_or_pos
def kT:=@Ne.symm
def kU:=@gt_iff_lt
def lT:=@List.getElem?_take
def lU:=@List.mem_singleton
def lV:=@Array.getElem?_modify
def lW:=@List.getElem?_toArray
def lX:=@Nat.le_of_ble_eq_true
def mL:=@List.flatMap_cons
def mU:=@cond_false
def na:=@Array.getElem?_push
def ng:=@List.length_reverse
def nD:=@List.map_toArray
def nE:=@congrArg
def nJ:=@List.take_append_of_le_length
def nQ:=@List.take_of_length_le
def nR:=@Nat.lt_of_le_of_lt
def oC:=@Option.map_some
def oK:=@ge_iff_le
def oY:=@List.sizeOf_lt_of_mem
def pB:=@Nat.le_succ_of_le
def qy:=@Int.tdiv_eq_ediv_of_nonneg
def qA:=@bne_iff_ne
def qB:=@Nat.succ_mul
def qE:=@List.drop_eq_getElem_cons
def qX:=@List.flatten_append
def qY:=@List.length_take_le
def qZ:=@List.replicate_succ
def rX:=@List.set_eq_of_length_le
def rY:=@if_false
def sa:=@Bool.eq_iff_iff
def sH:=@List.getElem?_drop
def sO:=@List.getElem?_cons_zero
def um:=@Int.toNat_natCast
def uo:=@List.findIdx_lt_length_of_exists
def uq:=@List.map_set
def ur:=@Nat.le_of_eq
def vO:=@Option.getD_some
def vP:=@not_or
def xe:=@List.mem_of_mem_drop
def zD:=@Array.getD_eq_getD_getElem?
def Ca:=@Array.ext_getElem?
def Cb:=@or_false
def DY:=@List.size_toArray
def DZ:=@Option.some.injEq
def HH:=@Nat.add_sub_cancel_left
def HI:=@Nat.le_of_not_lt
def Jp:=@Array.getElem?_eq_none
def Jq:=@Int.lt_or_le
def Jr:=@List.drop_of_length_le
def MK:=@Bool.not_false
def ML:=@List.drop_zero
def MM:=@List.set_append_left
def MN:=@List.take_take
def MO:=@Nat.mul_le_mul
def MQ:=@if_true
def NA:=@List.getElem?_range
def NB:=@List.replicate_zero
def NC:=@List.take_succ_cons
def ND:=@Nat.testBit_two_pow
def Oo:=@Bool.not_true
def Oq:=@Bool.true_and
def Ot:=@List.all_cons
def Ou:=@List.map_take
def Ov:=@Prod.mk.injEq
def Pw:=@List.set_eq_take_append_cons_drop
def QH:=@Iff.rfl
def QI:=@List.any_nil
def QJ:=@List.reverse_cons
def QK:=@Nat.le_of_lt
def QL:=@Nat.sub_self
def QM:=@Nat.zero_mul
def Tk:=@List.range_succ
def Tn:=@dif_pos
def UM:=@List.mapM_cons
def UO:=@Nat.eq_of_mul_eq_mul_right
def UP:=@Nat.testBit_or
def UW:=@Array.mapM_eq_mapM_toList
def UX:=@List.exists_mem_of_ne_nil
def VI:=@Array.getElem?_replicate
def VJ:=@Bool.false_or
def VK:=@Bool.or_false
def VL:=@List.eq_of_mem_replicate
def XE:=@List.map_map
def XG:=@List.mem_map
def XH:=@List.set_set
def XI:=@Nat.sub_zero
def XW:=@Array.getElem?_mapIdx
def XY:=@Array.getElem?_toList
def XZ:=@List.set_append_right
def X0:=@Nat.ble_eq_true_of_le
def Zv:=@Int.add_mul
def ZJ:=@Array.length_toList
def ZK:=@Array.toList_zipIdx
def ZL:=@List.drop_succ_cons
def aaj:=@Array.foldl_toList
def aak:=@Bool.not_eq_false'
theorem dit{p A B:Prop}{i:Decidable p}(f:p->A)(g:¬p->B):(decide p=true->A)/\(decide p=false->B):=⟨λh=>f (of_decide_eq_true h),λh=>g (of_decide_eq_false h)⟩
theorem V{p:Prop}(h:p:=by omega):p:=h
theorem aN{p:Prop}(h:p:=by simp):p:=h
theorem bn{p:Prop}(h:p:=by decide):p:=h
theorem bG{p:Prop}(h:p:=by simp;omega):p:=h
end Go.Vc
section
namespace Go.Vc
variable{n:Nat}{a:Act}
abbrev E:=Array Obj
def af(m:E)(b o:Nat):Option Value:=
 match m[b]? with
 |some (.cells c _ _)=>c[o]?
 |_=>none
def vY(m:E)(b o:Nat):Bool:=
 match m[b]? with
 |some (.cells _ _ (c,a))=>c<=o&&o<a
 |_=>false
def rL(m:E)(b o:Nat)(v:Value):E:=
 m.modify b λ
  | .cells c e f=>.cells (c.setIfInBounds o v) e f
  |x=>x
def zU(w:World)(b o:Nat):w.cell? ⟨b,o,none⟩=af w.heap b o:=by
 simp only[World.cell?,af];cases h:w.heap[b]? with
 |none=>rfl
 |some x=>cases x<;>simp
def Ra(w:World)(b o:Nat):w.frozen? ⟨b,o,none⟩=vY w.heap b o:=by
 simp only[World.frozen?,vY];cases h:w.heap[b]? with
 |none=>rfl
 |some x=>cases x<;>simp
def Pa(w:World)(b o:Nat)(v:Value):(w.setCell ⟨b,o,none⟩ v).heap=rL w.heap b o v:=by
 simp only[World.setCell,rL];congr 1
structure pK(w w':World):Prop where
 os:w'.os=w.os
 tape:w'.tape=w.tape
 output:w'.output=w.output
def pK.aA(w:World):pK w w:=⟨rfl,rfl,rfl⟩
def pK.trans{a b c:World}(h:pK a b)(k:pK b c):pK a c:=⟨k.os.trans h.os,k.tape.trans h.tape,k.output.trans h.output⟩
def aO(P:Program)(f:FuncId)(b:List Value)(m:E)(K:Value->E->Prop):Prop:=
 ∀w:World,w.heap=m->Calls P f b.toArray w λe a=>∃v,e=.returned v/\pK w a/\K v a.heap
def aO.mono{P:Program}{f:FuncId}{b:List Value}{m:E}{K a:Value->E->Prop}(h:aO P f b m K)
 (e:∀v c,K v c->a v c):aO P f b m a:=
 λw i=>(h w i).mono λ_ _⟨v,d,g,c⟩=>⟨v,d,g,e _ _ c⟩
inductive O where
 |nil
 |mk (b o len cap:Nat)
 |zX (b o sp:Nat)
def O.v:O->Value
 | .nil=>.slice none 0 0
 | .mk b o l c=>.slice (some ⟨b,o,none⟩) l c
 | .zX b o a=>.slice (some ⟨b,o,some a⟩) 0 0
def O.len:O->Nat
 | .nil=>0
 | .mk _ _ l _=>l
 | .zX _ _ _=>0
def O.cap:O->Nat
 | .nil=>0
 | .mk _ _ _ c=>c
 | .zX _ _ _=>0
def O.D:O->Nat
 | .nil=>0
 | .mk b _ _ _=>b
 | .zX b _ _=>b
def O.off:O->Nat
 | .nil=>0
 | .mk _ o _ _=>o
 | .zX _ o _=>o
@[simp] theorem O.Sf (b o sp:Nat):(O.zX b o sp).len=0:=rfl
@[simp] theorem O.Vf (b o sp:Nat):(O.zX b o sp).cap=0:=rfl
@[simp] theorem O.OZ:O.nil.len=0:=rfl
@[simp] theorem O.Vg:O.nil.cap=0:=rfl
@[simp] theorem O.ZB:O.nil.D=0:=rfl
@[simp] theorem O.ZF:O.nil.off=0:=rfl
@[simp] theorem O.gL (b o l c:Nat):(O.mk b o l c).len=l:=rfl
@[simp] theorem O.OI (b o l c:Nat):(O.mk b o l c).cap=c:=rfl
@[simp] theorem O.jJ (b o l c:Nat):(O.mk b o l c).D=b:=rfl
@[simp] theorem O.nt (b o l c:Nat):(O.mk b o l c).off=o:=rfl
def O.Gq:O->Bool
 | .nil=>true
 | .mk _ _ _ _=>false
 | .zX _ _ _=>false
@[simp] theorem O.XS:O.nil.Gq=true:=rfl
@[simp] theorem O.XR (b o sp:Nat):(O.zX b o sp).Gq=false:=rfl
@[simp] theorem O.YM (b o l c:Nat):(O.mk b o l c).Gq=false:=rfl
def O.cA:O->Option Addr
 | .nil=>none
 | .mk b o _ _=>some ⟨b,o,none⟩
 | .zX b o a=>some ⟨b,o,some a⟩
def O.XD(s:O):s.v=.slice s.cA s.len s.cap:=by cases s<;>rfl
inductive Ce where
 |i (n:Int)
 |u (k:IntKind) (n:Int)
 |t (x:Bool)
 |s (x:O)
 |p (b o:Nat)
 |pn
 |fn (f:Fn) (first captured:Array Value)
 |fv (q:Fn×Array Value×Array Value)
 |nf
 |str (x:ByteArray)
 |mp (b:Nat)
 |mn
 |bp (k b o:Nat)
def Ce.v:Ce->Value
 | .i n=>.int .i64 n
 | .u k n=>.int k n
 | .t x=>.bool x
 | .s x=>x.v
 | .p b o=>.pointer (some ⟨b,o,none⟩)
 | .pn=>.pointer none
 | .fn f a c=>.func f a c
 | .fv q=>.func q.1 q.2.1 q.2.2
 | .nf=>.nilFunc
 | .str x=>.string x
 | .mp b=>.map (some b)
 | .mn=>.map none
 | .bp _ b o=>.pointer (some ⟨b,o,none⟩)
inductive AV where
 |c (x:Ce)
 |agg (l:List Ce)
def AV.v:AV->Value
 | .c x=>x.v
 | .agg l=>.agg (l.map Ce.v).toArray
inductive SV where
 |c (x:Ce)
 |tt
 |ff
 |agg (l:List Ce)
 |XC (l:List AV)
 |un
 |fW
 |box (b e:Nat) (l:List Ce)
 |zR (b e:Nat) (l:List Ce)
def SV.v:SV->Value
 | .c x=>x.v
 | .tt=>.bool true
 | .ff=>.bool false
 | .agg l=>.agg (l.map Ce.v).toArray
 | .XC l=>.tuple (l.map AV.v).toArray
 | .un=>undef
 | .fW=>undef
 | .box _ _ _=>undef
 | .zR _ _ _=>undef
def SV.Is:SV->Value->Prop
 | .fW,_=>True
 | .box _ _ _,_=>True
 | .zR _ _ _,_=>True
 |s,v=>v=s.v
def AV.sv:AV->SV
 | .c x=>.c x
 | .agg l=>.agg l
def AV.aah(x:AV):x.sv.v=x.v:=by cases x<;>rfl
abbrev Fr:=List (Nat×SV)
def iD:Fr->Nat->SV
 |[],_=>.fW
 |(u,x)::r,t=>bif Nat.beq u t then x else iD r t
def SV.nb:SV->SV
 | .box _ _ _=>.fW
 | .zR _ _ _=>.fW
 |x=>x
def uw(a:Fr)(d:Option Nat)(x:SV):Fr:=
 match d with
 |some d=>(d,x.nb)::a
 |none=>a
def SV.Ur{x:SV}{v:Value}(h:x.Is v):x.nb.Is v:=by
 cases x<;>first|exact h|trivial
def Ce.lY(x:Ce):x.v.cells=#[x.v]:=by
 cases x with
 |s y=>cases y<;>rfl
 |_=>rfl
def kZ:Value->Option Ce
 | .int .i64 n=>some (.i n)
 | .int k n=>some (.u k n)
 | .bool x=>some (.t x)
 | .slice none 0 0=>some (.s .nil)
 | .pointer none=>some .pn
 | .nilFunc=>some .nf
 | .string x=>some (.str x)
 |_=>none
def NR{x:Value}{c:Ce}(h:kZ x=some c):c.v=x:=by
 unfold kZ at h;split at h<;>simp at h<;>subst h<;>rfl
def pQ:List Value->Option (List Ce)
 |[]=>some []
 |v::b=>match kZ v,pQ b with
  |some c,some a=>some (c::a)
  |_,_=>none
def KZ:∀{b:List Value}{a:List Ce},pQ b=some a->a.map Ce.v=b
 |[],_,h=>by simp[pQ]at h;subst h;rfl
 |v::b,a,h=>by
  simp only[pQ]at h;split at h
  .rename_i e f c d;simp at h;subst h;simp[NR c,KZ d]
  .simp at h
def FV:Value->SV
 | .bool true=>.tt
 | .bool false=>.ff
 | .agg a=>match pQ a.toList with
  |some l=>.agg l
  |none=>.fW
 | .tuple a=>bif a.toList.isEmpty then .un else .fW
 |v=>match kZ v with
  |some c=>.c c
  |none=>.fW
def QZ(x:Value):(FV x).Is x:=by
 unfold FV;split
 .rfl
 .rfl
 .rename_i a;split
  .rename_i l b;show Value.agg a=.agg (l.map Ce.v).toArray;rw[KZ b]
  .trivial
 .rename_i a;cases h:a.toList.isEmpty
  .trivial
  .show Value.tuple a=undef;have:a=#[]:=by simpa using h
   rw[this];rfl
 .split
  .rename_i c a;exact(NR a).symm
  .trivial
def ev(a:Fr):Operand->SV
 | .tmp t=>(iD a t).nb
 | .const v=>FV v
 | .global g=>.c (.p g 0)
 | .func f=>.c (.fn (.func f) #[] #[])
structure kv(n:Nat)(fr:Fr)(a:Act):Prop where
 size:a.tmps.size=n
 defers:a.defers=[]
 aF:∀t,(iD fr t).Is (a.tmps.getD t undef)
def kv.ev{b:Fr}(h:kv n b a)(x:Operand):(ev b x).Is (a.eval x):=by
 cases x with
 |tmp t=>exact SV.Ur (h.aF t)
 |const v=>exact QZ v
 |global g=>rfl
 |func f=>rfl
def kv.put{n:Nat}{b:Fr}{a:Act}(h:kv n b a){d:Option Nat}{x:SV}{v:Value}(g:x.Is v)(hd:∀t,d=some t->t<n):
 kv n (uw b d x) (a.put d v):=by
 cases d with
 |none=>exact h
 |some d=>
  refine⟨by simpa[Act.put]using h.size,h.defers,λt=>?_⟩
  have f:d<a.tmps.size:=by rw[h.size];exact hd d rfl
  simp only[uw,iD,Act.put]
  by_cases e:d=t
  .subst e
   simp only[Nat.beq_refl,jP]
   simpa[f]using SV.Ur g
  .have:Nat.beq d t=false:=by
    cases c:Nat.beq d t
    .rfl
    .exact absurd (bt c) e
   simp only[this,mU]
   have:=h.aF t
   simpa[jY e]using this
def kv.cons{b:Fr}(h:kv n b a)(t:Nat){x:SV}(c:∀v,x.Is v):kv n ((t,x)::b) a:=by
 refine⟨h.size,h.defers,λu=>?_⟩;simp only[iD];cases d:Nat.beq t u
 .exact h.aF u
 .exact c _
def kv.fW{b:Fr}(h:kv n b a)(t:Nat):kv n ((t,.fW)::b) a:=by
 refine⟨h.size,h.defers,λu=>?_⟩;simp only[iD];cases c:Nat.beq t u
 .exact h.aF u
 .trivial
end Go.Vc
end
section
namespace Go.Vc
variable{P:Program}{t b e:Nat}
inductive Sh where
 |I
 |U (k:IntKind)
 |T
 |S
 |P
 |F
 |M
 deriving DecidableEq
abbrev Sh.ty:Sh->Type
 | .I=>Int
 | .U _=>Int
 | .T=>Bool
 | .S=>O
 | .P=>Nat×Nat
 | .F=>Fn×Array Value×Array Value
 | .M=>Nat
abbrev Sh.mk:(s:Sh)->s.ty->Ce
 | .I,n=>.i n
 | .U k,n=>.u k n
 | .T,x=>.t x
 | .S,x=>.s x
 | .P,q=>.p q.1 q.2
 | .F,v=>.fv v
 | .M,b=>.mp b
def Sh.zero:Sh->Ce
 | .I=>.i 0
 | .U k=>.u k 0
 | .T=>.t false
 | .S=>.s .nil
 | .P=>.pn
 | .F=>.nf
 | .M=>.mn
inductive TK where
 |cell
 |slice (elem:Nat)
 |struct (offs:List (Nat×Nat))
 |tuple (ts:List Nat)
 |map (key elem:Nat)
structure TI where
 Ih:TK
 sh:List Sh
 bytes:Nat
abbrev TT:=List (Nat×TI)
def fN:TT->Nat->Option TI
 |[],_=>none
 |(u,x)::r,t=>bif Nat.beq u t then some x else fN r t
def Pc:Sh->Value->Bool
 | .I,.int .i64 0=>true
 | .U k,.int a 0=>decide (k=a)
 | .T,.bool false=>true
 | .S,.slice none 0 0=>true
 | .P,.pointer none=>true
 | .F,.nilFunc=>true
 | .M,.map none=>true
 |_,_=>false
def Pd{s:Sh}{v:Value}(h:Pc s v=true):v=s.zero.v:=by
 unfold Pc at h;split at h<;>first|rfl|(simp at h;subst h;rfl)|simp at h
def FC:List Value->List Sh->Bool
 |[],[]=>true
 |v::b,s::a=>Pc s v&&FC b a
 |_,_=>false
def BZ:∀{b:List Value}{a:List Sh},FC b a=true->b=a.map λs=>s.zero.v
 |[],[],_=>rfl
 |v::b,s::a,h=>by
  simp only[FC,bN]at h;simp[Pd h.1,BZ h.2]
 |[],_::_,h=>by simp[FC]at h
 |_::_,[],h=>by simp[FC]at h
def NY:List Field->List (Nat×Nat)->Bool
 |[],[]=>true
 |f::a,(o,t)::r=>Nat.beq f.offset o&&Nat.beq f.type t&&NY a r
 |_,_=>false
def LJ:∀{a:List Field}{b:List (Nat×Nat)},NY a b=true->a.map (λf=>(f.offset,f.type))=b
 |[],[],_=>rfl
 |f::a,(o,t)::r,h=>by
  simp only[NY,bN]at h;simp[bt h.1.1,bt h.1.2,LJ h.2]
 |[],_::_,h=>by simp[NY]at h
 |_::_,[],h=>by simp[NY]at h
def Au:TypeDesc->List Sh->Bool
 | .bool,[.T]=>true
 | .int .i64,[.I]=>true
 | .int k,[.U k']=>decide (k=k')
 | .pointer _,[.P]=>true
 | .func ..,[.F]=>true
 |_,_=>false
def Ck(i:TypeInfo)(a:TI)(b:Bool):Bool:=
 Nat.beq i.size a.sh.length&&Nat.beq i.bytes a.bytes&&
 (match i.zero with
  |some (.agg c)=>b&&FC c.toList a.sh
  |some z=>!b&&FC [z] a.sh
  |none=>false)
def YZ(t:Nat):Nat:=t+1000000
def Vi(P:Program)(t:Nat):Bool:=
 match P.underlying t with
 |some (.struct a)=>a.toList.all (λf=>f.name != "_")&&!P.stoodInHeld t&&!P.eqGuardType P.depth t
 |_=>false
def yG(P:Program)(t:Nat)(a:TI):Bool:=
 match a.Ih with
 | .tuple _=>if t<1000000 then true else Vi P (t -1000000)
 | .slice e=>match P.info? t,P.underlying t with
  |some i,some (.slice b)=>Nat.beq e b&&Ck i a false
  |_,_=>false
 | .struct d=>match P.info? t,P.underlying t with
  |some i,some (.struct c)=>NY c.toList d&&Ck i a true
  |_,_=>false
 | .map k e=>match P.info? t,P.underlying t with
  |some i,some (.map c b)=>Nat.beq k c&&Nat.beq e b&&Ck i a false
  |_,_=>false
 | .cell=>match P.info? t,P.underlying t with
  |some i,some d=>Au d a.sh&&Ck i a false
  |_,_=>false
def uK(P:Program)(T:TT):Prop:=T.all (λx=>yG P x.1 x.2)=true
def Qx:∀{T:TT}{t:Nat}{b:TI},fN T t=some b->(t,b)∈T
 |[],_,_,h=>by simp[fN]at h
 |(u,x)::r,t,b,h=>by
  simp only[fN]at h;cases a:Nat.beq u t
  .rw[a]at h;exact ah _ (Qx h)
  .rw[a]at h;have:=bt a;simp at h;subst h;subst this;exact aZ
def uK.yG{T:TT}(h:uK P T){a:TI}(b:fN T t=some a):yG P t a=true:=
 List.all_eq_true.1 h _ (Qx b)
def uK.cmp{T:TT}(h:uK P T){l:List Nat}{c:List Sh}(a:fN T (YZ t)=some ⟨.tuple l,c,b⟩):Vi P t=true:=by
 have:=h.yG a;simp only[Go.Vc.yG]at this;rw[ae (by unfold YZ;omega),show YZ t -1000000=t by unfold YZ;omega]at this;exact this
structure KJ(P:Program)(t:Nat)(ti:TI)(agg:Bool):Prop where
 aao:∃i,P.info? t=some i/\i.size=ti.sh.length/\i.bytes=ti.bytes/\
  ∃z,i.zero=some z/\z.cells.toList=(ti.sh.map λs=>s.zero.v)/\(agg=false->∀cs,z≠.agg cs)
def sX{g:TI}{i:TypeInfo}{c:Bool}(j:P.info? t=some i)(h:Ck i g c=true):KJ P t g c:=by
 simp only[Ck,bN]at h;refine⟨i,j,bt h.1.1,bt h.1.2,?_⟩;have a:=h.2;split at a
 .rename_i d b;simp only[bN]at a;exact⟨_,b,by simpa[Value.cells]using BZ a.2,λf=>by rw[f]at a;simp at a⟩
 .rename_i z f b;simp only[bN]at a;refine⟨_,b,?_,λ_ d e=>f d (by rw[e])⟩;have:=BZ a.2;rw[<-this];cases z<;>first|rfl|exact(f _ rfl).elim
 .simp at a
def kG{a:List Sh}(h:yG P t ⟨.slice e,a,b⟩=true):P.underlying t=some (.slice e)/\KJ P t ⟨.slice e,a,b⟩ false:=by
 simp only[yG]at h;split at h
 .rename_i i f c d;simp only[bN]at h;have:=bt h.1;subst this;exact⟨d,sX c h.2⟩
 .simp at h
def Cv{k:Nat}{a:List Sh}(h:yG P t ⟨.map k e,a,b⟩=true):P.underlying t=some (.map k e)/\KJ P t ⟨.map k e,a,b⟩ false:=by
 simp only[yG]at h;split at h
 .rename_i j l i f g;simp only[bN]at h;have c:=bt h.1.1;have d:=bt h.1.2;subst c;subst d;exact⟨g,sX f h.2⟩
 .simp at h
def nA{c:List (Nat×Nat)}{d:List Sh}(h:yG P t ⟨.struct c,d,b⟩=true):
 (∃a,P.underlying t=some (.struct a)/\a.toList.map (λf=>(f.offset,f.type))=c)/\KJ P t ⟨.struct c,d,b⟩ true:=by
 simp only[yG]at h
 split at h
 .rename_i i a e f
  simp only[bN]at h
  exact⟨⟨a,f,LJ h.1⟩,sX e h.2⟩
 .simp at h
def oB{a:List Sh}(h:yG P t ⟨.cell,a,b⟩=true):
 (∃d,P.underlying t=some d/\Au d a=true)/\KJ P t ⟨.cell,a,b⟩ false:=by
 simp only[yG]at h
 split at h
 .rename_i i d c e
  simp only[bN]at h
  exact⟨⟨d,e,h.1⟩,sX c h.2⟩
 .simp at h
def TI.agg(a:TI):Bool:=match a.Ih with| .struct _=>true|_=>false
def TI.uS(a:TI):Bool:=match a.Ih with| .tuple _=>true|_=>false
def kN{T:TT}(f:uK P T){d:TI}(g:fN T t=some d)(j:d.uS=false)(w:World):
 (sizeOf t).run P w=.ok d.sh.length w:=by
 have h:=f.yG g
 obtain⟨Ih,k,b⟩:=d
 have:∃i,P.info? t=some i/\i.size=k.length:=by
  cases Ih with
  |cell=>obtain⟨_,⟨i,a,c,_⟩⟩:=oB h;exact⟨i,a,c⟩
  |slice e=>obtain⟨_,⟨i,a,c,_⟩⟩:=kG h;exact⟨i,a,c⟩
  |map l e=>obtain⟨_,⟨i,a,c,_⟩⟩:=Cv h;exact⟨i,a,c⟩
  |struct o=>obtain⟨_,⟨i,a,c,_⟩⟩:=nA h;exact⟨i,a,c⟩
  |tuple l=>simp[TI.uS]at j
 obtain⟨i,a,c⟩:=this
 simp[sizeOf,typeInfo,a,c]
def GF{T:TT}(g:uK P T){f:TI}(j:fN T t=some f)(k:f.uS=false):
 ∃i,i.bytes=f.bytes/\i.size=f.sh.length/\(∀w,(typeInfo t).run P w=.ok i w)/\P.info? t=some i:=by
 have h:=g.yG j
 obtain⟨Ih,l,b⟩:=f
 have:∃i,P.info? t=some i/\i.size=l.length/\i.bytes=b:=by
  cases Ih with
  |cell=>obtain⟨_,⟨i,a,c,d,_⟩⟩:=oB h;exact⟨i,a,c,d⟩
  |slice e=>obtain⟨_,⟨i,a,c,d,_⟩⟩:=kG h;exact⟨i,a,c,d⟩
  |map m e=>obtain⟨_,⟨i,a,c,d,_⟩⟩:=Cv h;exact⟨i,a,c,d⟩
  |struct o=>obtain⟨_,⟨i,a,c,d,_⟩⟩:=nA h;exact⟨i,a,c,d⟩
  |tuple m=>simp[TI.uS]at k
 obtain⟨i,a,c,d⟩:=this
 exact⟨i,d,c,λw=>by simp[typeInfo,a],a⟩
def wC{T:TT}(m:uK P T){k:TI}(n:fN T t=some k)(o:k.uS=false):
 ∃z,z.cells.toList=k.sh.map (λs=>s.zero.v)/\(∀w,(zeroValue t).run P w=.ok z w)/\(k.agg=false->∀a,z≠.agg a):=by
 have h:=m.yG n
 obtain⟨Ih,l,b⟩:=k
 have:∃i,P.info? t=some i/\∃z,i.zero=some z/\z.cells.toList=(l.map λs=>s.zero.v)/\((TI.mk Ih l b).agg=false->∀a,z≠.agg a):=by
  cases Ih with
  |cell=>obtain⟨_,⟨i,a,g,j,z,c,d,f⟩⟩:=oB h;exact⟨i,a,z,c,d,λ_=>f rfl⟩
  |slice e=>obtain⟨_,⟨i,a,g,j,z,c,d,f⟩⟩:=kG h;exact⟨i,a,z,c,d,λ_=>f rfl⟩
  |map p e=>obtain⟨_,⟨i,a,g,j,z,c,d,f⟩⟩:=Cv h;exact⟨i,a,z,c,d,λ_=>f rfl⟩
  |struct p=>obtain⟨_,⟨i,a,g,j,z,c,d,f⟩⟩:=nA h;exact⟨i,a,z,c,d,λh=>by simp[TI.agg]at h⟩
  |tuple d=>simp[TI.uS]at o
 obtain⟨i,a,z,g,j,c⟩:=this
 exact⟨z,j,λw=>by simp[zeroValue,typeInfo,a,g],c⟩
def Iw{T:TT}(d:uK P T){a:TI}(f:fN T t=some a)(g:a.uS=false)(w:World):
 (isAgg t).run P w=.ok a.agg w:=by
 have h:=d.yG f
 obtain⟨Ih,j,b⟩:=a
 cases Ih with
 |cell=>
  obtain⟨⟨i,hd,c⟩,_⟩:=oB h
  unfold Au at c
  split at c<;>first|(simp at c;done)|simp[isAgg,run_underlying hd,TI.agg]
 |slice e=>obtain⟨hd,_⟩:=kG h;simp[isAgg,run_underlying hd,TI.agg]
 |map k e=>obtain⟨hd,_⟩:=Cv h;simp[isAgg,run_underlying hd,TI.agg]
 |struct o=>obtain⟨⟨c,hd,_⟩,_⟩:=nA h;simp[isAgg,run_underlying hd,TI.agg]
 |tuple c=>simp[TI.uS]at g
end Go.Vc
end
section
namespace Go.Vc
def lM:SV->Option Bool
 | .tt=>some true
 | .ff=>some false
 | .c (.t x)=>some x
 |_=>none
def SV.jQ:SV->Bool
 | .fW=>false
 | .box _ _ _=>false
 | .zR _ _ _=>false
 |_=>true
def cG(n:Int):Int:=IntKind.i64.wrap n
def Il{α:Type}:List α->Nat->Option α
 |[],_=>none
 |x::_,0=>some x
 |_::r,n+1=>Il r n
def pW{α:Type}:∀(l:List α)(n:Nat),Il l n=l[n]?
 |[],_=>by simp[Il]
 |x::_,0=>by simp[Il]
 |_::r,n+1=>by simp[Il,pW r n]
def We(m:E)(b o:Nat):Nat->List Sh->(List Ce->Prop)->Prop
 |_,[],k=>k []
 |j,s::r,k=>∃x:s.ty,af m b (o+j)=some (s.mk x).v/\We m b o (j+1) r λl=>k (s.mk x::l)
def VG(a b:Int):Int:=cG ((a%18446744073709551616).toNat^^^(b%18446744073709551616).toNat:Nat)
def sj(c:BinOp)(a b:Int)(k:SV->Prop):Prop:=
 match c with
 | .add=>k (.c (.i (cG (a+b))))
 | .sub=>k (.c (.i (cG (a -b))))
 | .mul=>k (.c (.i (cG (a*b))))
 | .quo=>b≠0/\k (.c (.i (cG (a.tdiv b))))
 | .rem=>b≠0/\k (.c (.i (a.tmod b)))
 | .xor=>k (.c (.i (VG a b)))
 | .eql=>k (.c (.t (a==b)))
 | .neq=>k (.c (.t (a !=b)))
 | .lss=>k (.c (.t (decide (a<b))))
 | .leq=>k (.c (.t (decide (a<=b))))
 | .gtr=>k (.c (.t (decide (a>b))))
 | .geq=>k (.c (.t (decide (a>=b))))
 |_=>False
def Va(c:BinOp)(a b:Bool)(k:SV->Prop):Prop:=
 match c with
 | .eql=>k (.c (.t (a==b)))
 | .neq=>k (.c (.t (!(a==b))))
 |_=>False
def Vr(a:BinOp)(s:O)(k:SV->Prop):Prop:=
 match a with
 | .eql=>k (.c (.t s.Gq))
 | .neq=>k (.c (.t (!s.Gq)))
 |_=>False
def ZI(a:UnOp)(x:SV)(k:SV->Prop):Prop:=
 match a,x with
 | .not,.tt=>k .ff
 | .not,.ff=>k .tt
 | .not,.c (.t b)=>k (.c (.t (!b)))
 | .neg,.c (.i n)=>k (.c (.i (cG (0 -n))))
 |_,_=>False
def O.cut(x:O)(a d e:Nat):O:=
 match x with
 | .nil=>.nil
 | .mk b o _ c=>.mk b (if c=a then o else o+a*e) (d -a) (c -a)
 | .zX b o c=>.zX b o c
def SV.cells:SV->Option (List Ce)
 | .c x=>some [x]
 | .tt=>some [.t true]
 | .ff=>some [.t false]
 | .agg l=>some l
 |_=>none
def mE(l:List Ce)(b:Nat)(a:List Ce):List Ce:=
 match b,l with
 |0,l=>match a,l with
  |[],l=>l
  |n::a,_::l=>n::mE l 0 a
  |_::_,[]=>[]
 |b+1,x::l=>x::mE l b a
 |_+1,[]=>[]
termination_by structural l
def FR(T:TT)(c:Fr)(e:List (Nat×Nat)):List Ce->List (Nat×Operand)->(List Ce->Prop)->Prop
 |a,[],k=>k a
 |a,(i,x)::r,k=>
  match Il e i,(ev c x).cells with
  |some (d,t),some b=>
   match fN T t with
   |some f=>bif !f.uS&&Nat.beq b.length f.sh.length&&Nat.ble (d+b.length) a.length then FR T c e (mE a d b) r k else False
   |none=>False
  |_,_=>False
def vA(T:TT):List (Nat×Nat)->Bool
 |[]=>true
 |(_,t)::r=>(match fN T t with|some a=>!a.uS|none=>false)&&vA T r
def Nh(a:Fr)(x:Option Operand)(d:Int)(k:Int->Prop):Prop:=
 match x with
 |none=>k d
 |some x=>match ev a x with
  | .c (.i n)=>k n
  |_=>False
def Xq(T:TT)(t:Nat)(s:O)(n:Int)(k:SV->Prop):Prop:=
 match fN T t with
 |some ⟨.slice e,_,_⟩=>match fN T e with
  |some a=>bif a.uS then False else 0<=n/\n<(s.len:Int)/\k (.c (.p s.D (s.off+n.toNat*a.sh.length)))
  |none=>False
 |_=>False
def Qb(T:TT)(m:E)(t b o:Nat)(k:SV->Prop):Prop:=
 match fN T t with
 |some ⟨.struct _,a,_⟩=>We m b o 0 a λl=>k (.agg l)
 |some ⟨.cell,[s],_⟩=>∃x:s.ty,af m b o=some (s.mk x).v/\k (.c (s.mk x))
 |some ⟨.slice _,[_],_⟩=>∃x:O,af m b o=some x.v/\k (.c (.s x))
 |_=>False
def Ry(T:TT)(a:Fr)(t:Nat)(s:O)(d c:Option Operand)(k:SV->Prop):Prop:=
 match fN T t with
 |some ⟨.slice e,_,_⟩=>match fN T e with
  |some b=>bif b.uS then False else
   Nh a d 0 λl=>Nh a c (s.len:Int) λh=>0<=l/\l<=h/\h<=(s.cap:Int)/\k (.c (.s (s.cut l.toNat h.toNat b.sh.length)))
  |none=>False
 |_=>False
def OR(T:TT)(t f:Nat)(l:List Ce)(k:SV->Prop):Prop:=
 match fN T t with
 |some ⟨.struct c,_,_⟩=>match Il c f with
  |some (b,u)=>match fN T u with
   |some a=>bif a.uS then False else bif a.agg then k (.agg ((l.drop b).take a.sh.length))else(match Il l b with|some x=>k (.c x)|none=>False)
   |none=>False
  |none=>False
 |_=>False
def FY(T:TT)(t f o:Nat)(mk:Nat->SV)(k:SV->Prop):Prop:=
 match fN T t with
 |some ⟨.struct c,_,_⟩=>match Il c f with
  |some (b,u)=>match fN T u with
   |some a=>bif a.uS||Nat.beq a.sh.length 0 then False else k (mk (o+b))
   |none=>False
  |none=>False
 |_=>False
def nI(a b:Nat)(k:Prop):Prop:=a=b/\k
def aD(b:Nat)(k:Prop):nI b b k=k:=by simp[nI]
def Hy:List Ce->Nat->Nat->Option (List Ce)
 |_,_,0=>some []
 |l,o,n+1=>match Il l o,Hy l (o+1) n with
  |some c,some r=>some (c::r)
  |_,_=>none
def NP(T:TT)(t:Nat)(a:List Ce)(o:Nat)(k:SV->Prop):Prop:=
 match fN T t with
 |some ⟨.struct _,b,_⟩=>match Hy a o b.length with
  |some l=>k (.agg l)
  |none=>False
 |some ⟨.cell,[_],_⟩=>match Il a o with
  |some c=>k (.c c)
  |none=>False
 |some ⟨.slice _,[_],_⟩=>match Il a o with
  |some c=>k (.c c)
  |none=>False
 |some ⟨.map _ _,[_],_⟩=>match Il a o with
  |some c=>k (.c c)
  |none=>False
 |_=>False
def TM(T:TT)(c:Fr)(d:Builtin)(e:List Nat)(f:List Operand)(k:SV->Prop):Prop:=
 match d,e,f with
 | .len,[t],[x]=>match fN T t,ev c x with
  |some ⟨.slice _,_,_⟩,.c (.s s)=>k (.c (.i (s.len:Int)))
  |_,_=>False
 | .max,_,[x,y]=>match ev c x,ev c y with
  | .c (.i a),.c (.i b)=>k (.c (.i (if b>a then b else a)))
  |_,_=>False
 | .min,_,[x,y]=>match ev c x,ev c y with
  | .c (.i a),.c (.i b)=>k (.c (.i (if b<a then b else a)))
  |_,_=>False
 |_,_,_=>False
def XQ(T:TT):Nat->List (Nat×Nat)->List Ce->List Ce->Option Bool
 |_,[],[],[]=>some true
 |i,(o,u)::c,.i a::l,.i b::r=>bif Nat.beq o i then match fN T u,XQ T (i+1) c l r with
  |some ⟨.cell,[.I],_⟩,some z=>some (a==b&&z)
  |_,_=>none else none
 |_,_,_,_=>none
def eqA(T:TT)(t:Nat)(l r:List Ce)(k:SV->Prop):Prop:=
 match fN T (YZ t),fN T t with
 |some ⟨.tuple _,_,_⟩,some ⟨.struct a,_,_⟩=>match XQ T 0 a l r with
  |some z=>k (.c (.t z))
  |none=>False
 |_,_=>False
def rd(T:TT)(a:Fr)(m:E)(k:SV->Prop):Op->Prop
 | .move x| .assign x=>k (ev a x)
 | .pick d c b=>match ev a d with
  | .tt=>k (ev a c)
  | .ff=>k (ev a b)
  | .c (.t x)=>match lM (ev a c),lM (ev a b)with
   |some y,some z=>k (.c (.t (bif x then y else z)))
   |_,_=>False
  |_=>False
 | .nilCheck x=>match ev a x with
  | .c (.p b o)=>k (.c (.p b o))
  | .c (.bp q b o)=>k (.c (.bp q b o))
  | .c (.fn (.func f) c d)=>k (.c (.fn (.func f) c d))
  | .c (.fv q)=>∃g,q.1=.func g/\k (.c (.fv q))
  |_=>False
 | .binOp d t x y _=>match ev a x,ev a y with
  | .c (.i c),.c (.i b)=>sj d c b k
  | .c (.s s),.c (.s .nil)=>match fN T t with
   |some ⟨.slice _,_,_⟩=>Vr d s k
   |_=>False
  | .agg l,.agg r=>match d with
   | .eql=>eqA T t l r k
   |_=>False
  |sx,e=>match fN T t,lM sx,lM e with
   |some ⟨.cell,[.T],_⟩,some c,some b=>Va d c b k
   |_,_,_=>False
 | .unOp d _ x=>ZI d (ev a x) k
 | .convert s t x=>match fN T s,fN T t,ev a x with
  |some ⟨.cell,[_],_⟩,some ⟨.cell,[.I],_⟩,.c (.u _ n)=>k (.c (.i (cG n)))
  |_,_,_=>False
 | .fieldAddr t x f=>match ev a x with
  | .c (.p b o)=>FY T t f o (λo=>.c (.p b o)) k
  | .c (.bp q b o)=>FY T t f o (λo=>.c (.bp q b o)) k
  |_=>False
 | .field t x f=>match ev a x with
  | .agg l=>OR T t f l k
  |_=>False
 | .indexAddr t x i=>match ev a x,ev a i with
  | .c (.s s),.c (.i n)=>Xq T t s n k
  |_,_=>False
 | .load t x=>match ev a x with
  | .c (.p b o)=>Qb T m t b o k
  | .c (.bp q b o)=>match iD a q with
   | .box c _ d=>nI c b (NP T t d o k)
   | .zR c _ d=>nI c b (NP T t d o k)
   |_=>Qb T m t b o k
  |_=>False
 | .extract x i=>match ev a x with
  | .XC l=>match Il l i with
   |some y=>k y.sv
   |none=>False
  |_=>False
 | .slice t x c b none=>match ev a x with
  | .c (.s s)=>Ry T a t s c b k
  |_=>False
 | .build t c=>match fN T t with
  |some ⟨.struct b,d,_⟩=>bif vA T b then FR T a b (d.map Sh.zero) c.toList λl=>k (.agg l)else False
  |_=>False
 | .call ⟨.builtin c,b,d⟩=>TM T a c d.toList b.toList k
 |_=>False
def lZ(a:Fr)(q b e:Nat)(l:List Ce):Prop:=iD a q=.box b e l\/iD a q=.zR b e l
structure Bx(n:Nat)(fr:Fr)(m:E):Prop where
 D:∀q b e l,lZ fr q b e l->m[b]? =some (.cells (l.map Ce.v).toArray e)
 OL:∀q q' b e l b' e' l',q≠q'->lZ fr q b e l->lZ fr q' b' e' l'->b≠b'
 key:∀q b e l,lZ fr q b e l->n<=q
def Tm(T:TT)(c:Fr):Op->List (Nat×Nat)
 | .load t x=>match ev c x,fN T t with
  | .c (.p b o),some a=>(List.range a.sh.length).map λj=>(b,o+j)
  | .c (.bp _ b o),some a=>(List.range a.sh.length).map λj=>(b,o+j)
  |_,_=>[]
 |_=>[]
end Go.Vc
end
section
namespace Go.Vc
variable{s:SV}{b:Bool}
def SV.Is.eq{v:Value}(h:s.Is v)(a:s.jQ=true):v=s.v:=by
 cases s<;>first|exact h|simp[SV.jQ]at a
def nY(s:SV):s.Is s.v:=by cases s<;>first|rfl|trivial
def kv.eq{n:Nat}{b:Fr}{a:Act}(h:kv n b a){x:Operand}{s:SV}(c:Vc.ev b x=s)(d:s.jQ=true):a.eval x=s.v:=by
 have:=h.ev x;rw[c]at this;exact this.eq d
def xh(h:lM s=some b):s.jQ=true/\s.v=.bool b:=by
 unfold lM at h;split at h<;>simp_all [SV.jQ,SV.v,Ce.v]
def kv.ZD{n:Nat}{c:Fr}{a:Act}(h:kv n c a){x:Operand}(d:lM (Vc.ev c x)=some b):a.eval x=.bool b:=by
 rw[h.eq rfl (xh d).1,(xh d).2]
def vX(b o n:Nat):(⟨b,o,none⟩:Addr).add n=⟨b,o+n,none⟩:=by
 unfold Addr.add;split
 .rename_i h;subst h;rfl
 .rfl
def Cp:∀(l:List Ce)(a:Nat)(b:List Ce)(i:Nat),a+b.length<=l.length->
 (mE l a b)[i]? =if a<=i/\i<a+b.length then b[i -a]? else l[i]?
 |[],0,[],i,_=>by simp[mE]
 |[],0,_::_,_,h=>by simp at h
 |[],_+1,_,_,h=>by simp at h
 |x::l,0,[],i,_=>by simp[mE]
 |x::l,0,n::b,i,h=>by
  simp only[mE];cases i with
  |zero=>simp
  |succ i=>
   have:=Cp l 0 b i (by simp at h;omega);simp only[iB,this];simp
 |x::l,a+1,b,i,h=>by
  simp only[mE];cases i with
  |zero=>simp
  |succ i=>
   have:=Cp l a b i (by simp at h;omega);simp only[iB,this];have e:(i+1 -(a+1))=i -a:=V;simp only[e];congr 1;simp;omega
def NU(c:List Value):∀(k a:Nat)(b:Array Value)(i:Nat),
 ((c.zipIdx k).foldl (λ(d:Array Value)(p:Value×Nat)=>d.setIfInBounds (a+p.2) p.1) b)[i]? =
  if a+k<=i/\i<a+k+c.length/\i<b.size then c[i -(a+k)]? else b[i]? :=by
 induction c with
 |nil=>intro k a b i;simp;intro h;omega
 |cons v c g=>
  intro k a b i
  simp only[List.zipIdx_cons,List.foldl_cons,g,Array.size_setIfInBounds,be]
  by_cases d:i=a+k
  .subst d
   by_cases e:a+k<b.size
   .simp[e];try omega
   .simp[e];try omega
  .have:¬(a+k=i):=λf=>d f.symm
   rw[jY this]
   by_cases e:a+k<=i/\i<a+k+(c.length+1)/\i<b.size
   .rw[ao e,ao V]
    have:i -(a+k)=(i -(a+(k+1)))+1:=V
    rw[this,iB]
   .rw[ae e,ae V]
def pP{l:List Ce}(h:s.cells=some l):s.jQ=true/\s.v.cells=(l.map Ce.v).toArray:=by
 cases s with
 |c x=>simp[SV.cells]at h;subst h;exact⟨rfl,by simp[SV.v,Ce.lY]⟩
 |tt=>simp[SV.cells]at h;subst h;exact⟨rfl,rfl⟩
 |ff=>simp[SV.cells]at h;subst h;exact⟨rfl,rfl⟩
 |agg a=>simp[SV.cells]at h;subst h;exact⟨rfl,rfl⟩
 |XC _=>simp[SV.cells]at h
 |un=>simp[SV.cells]at h
 |fW=>simp[SV.cells]at h
 |box _ _ _=>simp[SV.cells]at h
 |zR _ _ _=>simp[SV.cells]at h
end Go.Vc
end
section
namespace Go.Vc
variable{x y:Operand}{c:TypeId}{h b f o:Nat}{g:List Ce}
variable{e:Program}{T:TT}
def pd(e:Program)(T:TT)(b:Fr)(m:E)(a:Act)(o:Oper)(k:SV->Prop):Prop:=
 ∃x v,k x/\x.Is v/\∀w:World,(∀q∈Tm T b o.op,af w.heap q.1 q.2=af m q.1 q.2)->(execOp a.eval o).run e w=.ok (.value v) w
section
variable{n:Nat}{i:Fr}{a:Act}{j:E}{k:SV->Prop}{q:Option Tmp}{v:TypeId}{u:String}{p:Array Edge}{r:Option (Nat×Bool)}
def Uh(b:kv n i a)(h:k (ev i x)):pd e T i j a ⟨q,.move x,v,u,p,r⟩ k:=
 ⟨_,_,h,b.ev x,λw _=>by simp[execOp]⟩
def SN(b:kv n i a)(h:k (ev i x)):pd e T i j a ⟨q,.assign x,v,u,p,r⟩ k:=
 ⟨_,_,h,b.ev x,λw _=>by simp[execOp]⟩
def Rf(c:kv n i a){f:Operand}(h:rd T i j k (.pick f x y)):pd e T i j a ⟨q,.pick f x y,v,u,p,r⟩ k:=by
 simp only[rd]at h;split at h
 .rename_i d;exact⟨_,_,h,c.ev x,λw _=>by simp[execOp,c.eq d rfl,SV.v,asBool]⟩
 .rename_i d;exact⟨_,_,h,c.ev y,λw _=>by simp[execOp,c.eq d rfl,SV.v,asBool]⟩
 .rename_i b d;split at h
  .rename_i m o g l;refine⟨_,_,h,nY _,λw _=>?_⟩;simp[execOp,c.eq d rfl,SV.v,Ce.v,asBool,c.ZD g,c.ZD l];try (cases b<;>rfl)
  .exact h.elim
 .exact h.elim
def Ll(d:kv n i a)(h:rd T i j k (.nilCheck x)):pd e T i j a ⟨q,.nilCheck x,v,u,p,r⟩ k:=by
 simp only[rd]at h;split at h
 .rename_i b o c;exact⟨_,_,h,nY _,λw _=>by simp[execOp,d.eq c rfl,SV.v,Ce.v]⟩
 .rename_i m b o c;exact⟨_,_,h,nY _,λw _=>by simp[execOp,d.eq c rfl,SV.v,Ce.v]⟩
 .rename_i f g l c;exact⟨_,_,h,nY _,λw _=>by simp[execOp,d.eq c rfl,SV.v,Ce.v]⟩
 .rename_i m c;obtain⟨s,g,l⟩:=h;exact⟨_,_,l,nY _,λw _=>by simp[execOp,d.eq c rfl,SV.v,Ce.v,g]⟩
 .exact h.elim
def Vb{a:BinOp}{x y:Int}(h:sj a x y k):∃s v,k s/\s.Is v/\∀w:World,(binOp a c (.int .i64 x) (.int .i64 y)).run e w=.ok v w:=by
 cases a<;>simp only[sj]at h
 case quo=>exact⟨_,_,h.2,nY _,λw=>by simp[binOp,Op.intDiv,h.1,SV.v,Ce.v,cG]⟩
 case rem=>exact⟨_,_,h.2,nY _,λw=>by simp[binOp,Op.intDiv,h.1,SV.v,Ce.v]⟩
 case xor=>exact⟨_,_,h,nY _,λw=>by simp[binOp,Op.intBits,SV.v,Ce.v,cG,VG,IntKind.bits];rfl⟩
 all_goals exact⟨_,_,h,nY _,λw=>by simp[binOp,Op.intArith,Op.intCmp,SV.v,Ce.v,cG]⟩
def PT(a:BinOp)(c:TypeId)(d f:Operand)(b:IntKind)(x:Int)(y:Value)(w:World):(eqGuard a c d f (.int b x) y).run e w=.ok () w:=by
 cases a<;>simp[eqGuard]
def OP(a:BinOp)(c:TypeId)(b d:Operand)(x:Bool)(y:Value)(w:World):(eqGuard a c b d (.bool x) y).run e w=.ok () w:=by
 cases a<;>simp[eqGuard]
def Q5(hd:e.underlying c=some .bool)(x y:Bool)(w:World):(Op.equal c (.bool x) (.bool y)).run e w=.ok (x==y) w:=by
 have:Op.equal c (.bool x) (.bool y)=Op.equalIn (9999+1) c (.bool x) (.bool y):=rfl;rw[this];generalize 9999=h;simp[Op.equalIn,run_underlying hd]
def JR{a:TypeId}(hd:e.underlying c=some (.slice a))(s:O)(w:World):(Op.equal c s.v (.slice none 0 0)).run e w=.ok s.Gq w:=by
 have:Op.equal c s.v (.slice none 0 0)=Op.equalIn (9999+1) c s.v (.slice none 0 0):=rfl;rw[this];generalize 9999=h;cases s<;>simp[Op.equalIn,run_underlying hd,O.v]
def PU(hd:e.underlying c=some (.int .i64))(x y:Int)(w:World):(Op.equalIn (h+1) c (.int .i64 x) (.int .i64 y)).run e w=.ok (x==y) w:=by
 simp[Op.equalIn,run_underlying hd]
def Qf(d:uK e T){u:Nat}(f:fN T u=some ⟨.cell,[.I],b⟩){a:Array Value}{c:Nat}{v:Value}(h:a[c]? =some v)(w:World):(part u a c).run e w=.ok v w:=by
 simp[part,Iw d f rfl,TI.agg,h]
def Ud(n:uK e T){X Y:Array Value}(A:World):∀(j:List Field)(i:Nat)(l:List (Nat×Nat))(g r:List Ce)(z:Bool),j.map (λf=>(f.offset,f.type))=l->(∀f∈j,f.name≠ "_")->
 (∀k d,g[k]? =some d->X[i+k]? =some d.v)->(∀k d,r[k]? =some d->Y[i+k]? =some d.v)->XQ T i l g r=some z->
 (forIn (m:=Sem) j ((none,()):Option Bool×PUnit) λf _=>do
  if f.name≠ "_" then
   if !(<-Op.equalIn (h+1) f.type (<-part f.type X f.offset) (<-part f.type Y f.offset))then pure (.done (some false,()))else pure (.yield (none,()))
  else pure (.yield (none,()))).run e A=.ok (if z=true then(none,())else(some false,())) A:=by
 intro j
 induction j with
 |nil=>
  intro i l g r z u v p q c
  subst u
  cases g<;>cases r<;>simp[XQ]at c
  subst c
  simp
 |cons f j K=>
  intro i l g r z u v p q c
  subst u
  simp only[cO]at c
  unfold XQ at c
  split at c
  .simp at*
  .rename_i i _ _ _ _ o N l a g b r C
   obtain⟨⟨rfl,rfl⟩,rfl⟩:=by simpa using C
   cases s:Nat.beq f.offset i
   .rw[s]at c;simp at c
   .rw[s]at c;simp only[jP]at c
    have x:=bt s
    split at c
    .rename_i M L w J
     simp only[DZ]at c
     obtain⟨⟨B,D,y⟩,_⟩:=oB (n.yG w)
     have F:B=.int .i64:=by unfold Au at y;split at y<;>simp_all
     subst F
     have H:X[f.offset]? =some (.int .i64 a):=by have:=p 0 (.i a) rfl;rw[x];exact this
     have I:Y[f.offset]? =some (.int .i64 b):=by have:=q 0 (.i b) rfl;rw[x];exact this
     have G:=K (i+1) _ g r L rfl (λt E=>v t (ah _ E)) (λk d t=>by have:=p (k+1) d (by simpa using t);rw[<-this];congr 1;omega) (λk d t=>by have:=q (k+1) d (by simpa using t);rw[<-this];congr 1;omega) J
     rw[List.forIn_cons,Sem.run_bind,ao (v f aZ)]
     simp only[Sem.run_bind,Qf n w H,Qf n w I,Result.andThen_ok,PU D]
     cases t:(a==b)
     .rw[t]at c;subst c;simp
     .rw[t]at c;simp only[Oq]at c;subst c
      simp only[Oo,jz,rY,Sem.run_pure,Result.andThen_ok]
      exact G
    .simp at c
  .simp at c
def OQ(j:uK e T){a:Array Field}(p:e.underlying c=some (.struct a))(o:e.stoodInHeld c=false)(n:∀f∈a.toList,f.name≠ "_"){r:List Ce}{z:Bool}
 (l:XQ T 0 (a.toList.map λf=>(f.offset,f.type)) g r=some z)(w:World):(Op.equal c (.agg (g.map Ce.v).toArray) (.agg (r.map Ce.v).toArray)).run e w=.ok z w:=by
 have:Op.equal c (.agg (g.map Ce.v).toArray) (.agg (r.map Ce.v).toArray)=Op.equalIn (9998+1+1) c (.agg (g.map Ce.v).toArray) (.agg (r.map Ce.v).toArray):=rfl
 rw[this]
 generalize 9998=h
 rw[Op.equalIn]
 simp only[Sem.run_bind,run_underlying p,Result.andThen_ok]
 have m:=Ud j (h:=h) (X:=(g.map Ce.v).toArray) (Y:=(r.map Ce.v).toArray) w a.toList 0 _ g r z rfl n (λk i b=>by simp[b]) (λk i b=>by simp[b]) l
 have b:(program:Sem Program).run e w=.ok e w:=rfl
 rw[b,Result.andThen_ok,ae (by simp[o]),Sem.run_bind,<-Array.forIn_toList,m]
 cases z<;>rfl
def SG(h:Vi e c=true):∃a,e.underlying c=some (.struct a)/\(∀f∈a.toList,f.name≠ "_")/\e.stoodInHeld c=false/\e.eqGuardType e.depth c=false:=by
 unfold Vi at h;split at h
 .rename_i a b;simp only[bN,List.all_eq_true,qA,iX]at h;exact⟨a,b,h.1.1,h.1.2,h.2⟩
 .cases h
def PR(h:e.eqGuardType e.depth c=false)(f g:Operand)(a b:Array Value)(w:World):(eqGuard .eql c f g (.agg a) (.agg b)).run e w=.ok () w:=by
 have d:(program:Sem Program).run e w=.ok e w:=rfl;simp only[eqGuard,Sem.run_bind];simp[d,h]
def MU(a:BinOp)(c:TypeId)(b d:Operand)(s:O)(y:Value)(w:World):(eqGuard a c b d s.v y).run e w=.ok () w:=by
 cases s<;>cases a<;>simp[eqGuard,O.v]
def PY(m:uK e T)(d:kv n i a){z:BinOp}{D:TypeId}(b:rd T i j k (.binOp z c x y D)):pd e T i j a ⟨q,.binOp z c x y D,v,u,p,r⟩ k:=by
 simp only[rd]at b;split at b
 .rename_i L M f l;obtain⟨s,E,A,w,C⟩:=Vb (e:=e) (c:=c) b;refine⟨s,E,A,w,λB _=>?_⟩;simp only[execOp,d.eq f rfl,d.eq l rfl,SV.v,Ce.v,Sem.run_bind];simp[PT,C]
 .rename_i s f l;split at b
  .rename_i I J H A;have w:=(kG (m.yG A)).1;have F:a.eval x=s.v:=d.eq f rfl;have G:a.eval y=.slice none 0 0:=d.eq l rfl;cases z<;>simp only[Vr]at b
   all_goals
    first
    |exact b.elim
    |exact⟨_,_,b,nY _,λB _=>by
     have C:∀o:BinOp,o=.eql\/o=.neq->binOp o c s.v (.slice none 0 0)=(if o=.eql then(do pure (.bool (<-Op.equal c s.v (.slice none 0 0))))else(do pure (.bool (!(<-Op.equal c s.v (.slice none 0 0)))))):=by
      intro o E;rcases E with rfl|rfl<;>cases s<;>rfl
     simp only[execOp,F,G,Sem.run_bind,MU,Result.andThen_ok];rw[C _ aN];simp[JR w,SV.v,Ce.v]⟩
  .exact b.elim
 .rename_i g N f l;split at b
  .unfold eqA at b;split at b
   .rename_i G A;split at b
    .rename_i R C;obtain⟨O,w,J,K,H⟩:=SG (m.cmp G);obtain⟨⟨Q,s,I⟩,_⟩:=nA (m.yG A);rw[w]at s;obtain rfl:=(TypeDesc.struct.inj (jS s));rw[<-I]at C;refine⟨_,_,b,nY _,λB _=>?_⟩;have E:a.eval x=.agg (g.map Ce.v).toArray:=d.eq f rfl;have F:a.eval y=.agg (N.map Ce.v).toArray:=d.eq l rfl;simp only[execOp,E,F,Sem.run_bind,PR H,Result.andThen_ok,binOp,OQ m w K J C];rfl
    .exact b.elim
   .exact b.elim
  .exact b.elim
 .split at b
  .rename_i L M w f l;obtain⟨⟨h,hd,A⟩,_⟩:=oB (m.yG w);have s:h=.bool:=by
    cases h<;>simp_all [Au]
   subst s;cases z<;>simp only[Va]at b
   all_goals
    first
    |exact b.elim
    |exact⟨_,_,b,nY _,λB _=>by
     simp only[execOp,d.ZD f,d.ZD l,Sem.run_bind,OP,Result.andThen,binOp,Q5 hd];rfl⟩
  .exact b.elim
def MY(d:uK e T)(l:kv n i a){s:TypeId}(b:rd T i j k (.convert s c x)):pd e T i j a ⟨q,.convert s c x,v,u,p,r⟩ k:=by
 simp only[rd]at b;split at b
 .rename_i B b1 b2 z A t w y;obtain⟨⟨h,hd,_⟩,_⟩:=oB (d.yG t);obtain⟨⟨g,m,f⟩,_⟩:=oB (d.yG w);have o:g=.int .i64:=by unfold Au at f;split at f<;>simp_all
  subst o;exact⟨_,_,b,nY _,λC _=>by
   simp only[execOp,l.eq y rfl,SV.v,Ce.v,Sem.run_bind];simp[convert,run_underlying hd,run_underlying m,Conv.intToInt,cG]⟩
 .exact b.elim
def Rg(b:kv n i a){f:UnOp}(h:rd T i j k (.unOp f c x)):pd e T i j a ⟨q,.unOp f c x,v,u,p,r⟩ k:=by
 simp only[rd]at h;generalize d:ev i x=sx at h;unfold ZI at h;split at h
 .exact⟨_,_,h,nY _,λw _=>by simp[execOp,b.eq d rfl,SV.v,Op.unary]⟩
 .exact⟨_,_,h,nY _,λw _=>by simp[execOp,b.eq d rfl,SV.v,Op.unary]⟩
 .exact⟨_,_,h,nY _,λw _=>by simp[execOp,b.eq d rfl,SV.v,Ce.v,Op.unary]⟩
 .exact⟨_,_,h,nY _,λw _=>by simp[execOp,b.eq d rfl,SV.v,Ce.v,Op.unary,Op.intArith,cG]⟩
 .exact h.elim
def DG(l:uK e T)(L:kv n i a){mk:Nat->SV}(E:∀o,(mk o).v=.pointer (some ⟨b,o,none⟩))(J:a.eval x=.pointer (some ⟨b,o,none⟩))(h:FY T c f o mk k):
 pd e T i j a ⟨q,.fieldAddr c x f,v,u,p,r⟩ k:=by
 unfold FY at h
 split at h
 .rename_i N O K H
  split at h
  .rename_i M P s
   split at h
   .rename_i g I
    cases d:(g.uS||Nat.beq g.sh.length 0)
    .rw[d]at h
     simp only[bu]at d
     obtain⟨⟨z,C,D⟩,_⟩:=nA (l.yG H)
     rw[pW,<-D,cN]at s
     obtain⟨y,A,m⟩:=Option.map_eq_some_iff.1 s
     simp only[Ov]at m
     obtain⟨rfl,rfl⟩:=m
     have G:=λw=>kN l I d.1 w
     have F:g.sh.length≠0:=λt=>by rw[t]at d;simp at d
     refine⟨_,_,h,nY _,λw _=>?_⟩
     have B:z[f]? =some y:=by simpa using A
     rw[E]
     simp[execOp,Instr.fieldAt,J,run_underlying C,B,Instr.sureAddr,fieldPlace,G,F,vX]
    .rw[d]at h;exact h.elim
   .exact h.elim
  .exact h.elim
 .exact h.elim
def JS(l:uK e T)(d:kv n i a)(h:rd T i j k (.fieldAddr c x f)):pd e T i j a ⟨q,.fieldAddr c x f,v,u,p,r⟩ k:=by
 simp only[rd]at h;split at h
 .rename_i b o g;exact DG l d (λo=>rfl) (d.eq g rfl) h
 .rename_i m b o g;exact DG l d (λo=>rfl) (d.eq g rfl) h
 .exact h.elim
def P5(l:uK e T)(m:kv n i a)(h:rd T i j k (.field c x f)):pd e T i j a ⟨q,.field c x f,v,u,p,r⟩ k:=by
 simp only[rd]at h;split at h
 .rename_i g C;unfold OR at h;split at h
  .rename_i N O L K;split at h
   .rename_i M P A;split at h
    .rename_i E B;cases b:E.uS
     .rw[b]at h;obtain⟨⟨G,z,I⟩,_⟩:=nA (l.yG K);rw[pW,<-I,cN]at A;obtain⟨F,H,s⟩:=Option.map_eq_some_iff.1 A;simp only[Ov]at s;obtain⟨rfl,rfl⟩:=s;have J:=λw=>kN l B b w;have o:=λw=>Iw l B b w;have t:G[f]? =some F:=by simpa using H
      cases d:E.agg
      .simp only[d,mU]at h;split at h
       .rename_i y D;refine⟨_,_,h,nY _,λw _=>?_⟩;rw[pW]at D;simp[execOp,Instr.field,m.eq C rfl,SV.v,run_underlying z,t,asAgg,part,o,d,D]
       .exact h.elim
      .simp only[d,mU,jP]at h;refine⟨_,_,h,nY _,λw _=>?_⟩;simp[execOp,Instr.field,m.eq C rfl,SV.v,run_underlying z,t,asAgg,part,o,d,J,List.map_drop,Ou]
     .rw[b]at h;exact h.elim
    .exact h.elim
   .exact h.elim
  .exact h.elim
 .exact h.elim
def JT(l:uK e T)(g:kv n i a)(h:rd T i j k (.indexAddr c x y)):pd e T i j a ⟨q,.indexAddr c x y,v,u,p,r⟩ k:=by
 simp only[rd]at h;split at h
 .rename_i E J C D;unfold Xq at h;split at h
  .rename_i I L G A;split at h
   .rename_i F t;cases f:F.uS
    .rw[f]at h;obtain⟨m,d,s⟩:=h;have B:=(kG (l.yG A)).1;have z:=λw=>kN l t f w;cases E with
     |nil=>simp[O.len]at d;omega
     |zX _ _ _=>simp[O.len]at d;omega
     |mk b o K H=>
      refine⟨_,_,s,nY _,λw _=>?_⟩;simp only[O.len]at d;simp[execOp,Instr.indexAt,g.eq C rfl,g.eq D rfl,SV.v,Ce.v,O.v,asIntOf,run_underlying B,m,d,z,vX,O.D,O.off]
    .rw[f]at h;exact h.elim
   .exact h.elim
  .exact h.elim
 .exact h.elim
def Qa:∀(d:List Sh)(b o a:Nat)(k:List Ce->Prop),We j b o a d k->∃g,k g/\g.length=d.length/\∀i,i<d.length->af j b (o+a+i)=(g[i]?).map Ce.v
 |[],_,_,_,_,h=>⟨[],h,rfl,λi c=>by simp at c⟩
 |s::r,b,o,a,k,h=>by
  obtain⟨x,n,h⟩:=h;obtain⟨g,l,m,f⟩:=Qa r b o (a+1) _ h;refine⟨s.mk x::g,l,by simp[m],λi c=>?_⟩;cases i with
  |zero=>simpa using n
  |succ i=>
   have:=f i (by simpa using c);have e:o+(a+1)+i=o+a+(i+1):=V;rw[e]at this;simpa using this
def nm(B:uK e T)(S:kv n i a)(I:a.eval x=.pointer (some ⟨b,o,none⟩)){f:TI}(H:fN T c=some f)(G:f.uS=false)
 (K:∀d,d<f.sh.length->(b,o+d)∈Tm T i (.load c x))(E:g.length=f.sh.length)(L:∀z,z<f.sh.length->af j b (o+z)=(g[z]?).map Ce.v)
 {s:SV}(U:s.jQ=true)(O:(f.agg=true/\s.v=.agg (g.map Ce.v).toArray)\/(f.agg=false/\∃m,g=[m]/\s.v=m.v))(N:k s):
 pd e T i j a ⟨q,.load c x,v,u,p,r⟩ k:=by
 refine⟨s,s.v,N,nY _,λl R=>?_⟩
 have Q:=kN B H G l
 have C:=Iw B H G l
 have D:∀d,d<f.sh.length->af l.heap b (o+d)=(g[d]?).map Ce.v:=λd h=>by rw[R (b,o+d) (K d h),L d h]
 rcases O with⟨t,y⟩|⟨t,m,y,J⟩
 .have F:=run_loadCells_list (P:=e) (w:=l) ⟨b,o,none⟩ (g.map Ce.v) (λd V h=>by
   rw[vX,zU];have M:d<f.sh.length:=by
    rcases aX d f.sh.length with A|A
    .exact A
    .rw[cT bG]at h;simp at h
   rw[D d M,<-cN,h])
  simp only[eu]at F
  simp only[execOp,Instr.loadAt,I,Instr.sureAddr,loadVar,Sem.run_bind,Sem.run_pure,C,t,Result.andThen_ok,Q,MQ]
  simp[<-E,F,y]
 .subst y
  have A:=D 0 (by rw[<-E];simp)
  simp at A
  simp only[execOp,Instr.loadAt,I,Instr.sureAddr,loadVar,Sem.run_bind,Sem.run_pure,C,t,Result.andThen_ok]
  simp[zU,A,J]
def Jy(C:uK e T)(B:kv n i a)(D:a.eval x=.pointer (some ⟨b,o,none⟩))
 (A:∀d f,fN T c=some d->f<d.sh.length->(b,o+f)∈Tm T i (.load c x))(h:Qb T j c b o k):pd e T i j a ⟨q,.load c x,v,u,p,r⟩ k:=by
 unfold Qb at h
 split at h
 .rename_i H I F d
  obtain⟨g,w,G,E⟩:=Qa _ _ _ _ _ h
  exact nm C B D d rfl (λf t=>A _ f d t) G (λz m=>by simpa using E z m) (s:=.agg g) rfl (Or.inl ⟨rfl,rfl⟩) w
 .rename_i G F d
  obtain⟨y,E,w⟩:=h
  exact nm C B D d rfl (λf t=>A _ f d t) (g:=[G.mk y]) rfl (λz m=>by
   have:z=0:=by simpa using m
   subst this;exact E) (s:=.c (G.mk y)) rfl (Or.inr ⟨rfl,_,rfl,rfl⟩) w
 .rename_i G H F d
  obtain⟨y,E,w⟩:=h
  exact nm C B D d rfl (λf t=>A _ f d t) (g:=[.s y]) rfl (λz m=>by
   have:z=0:=by simpa using m
   subst this;exact E) (s:=.c (.s y)) rfl (Or.inr ⟨rfl,_,rfl,rfl⟩) w
 .exact h.elim
def MD:∀{a:List Ce}{b o:Nat}{g:List Ce},Hy a o b=some g->g.length=b/\∀i,i<b->a[o+i]? =g[i]?
 |a,0,o,g,h=>by simp[Hy]at h;subst h;simp
 |a,b+1,o,g,h=>by
  simp only[Hy]at h;split at h
  .rename_i j r c f;simp at h;subst h;obtain⟨d,e⟩:=MD f;refine⟨by simp[d],λi k=>?_⟩;cases i with
   |zero=>rw[pW]at c;simpa using c
   |succ i=>
    have:=e i V;rw[show o+(i+1)=o+1+i by omega];simpa using this
  .simp at h
def Jx(C:uK e T)(B:kv n i a){H:Nat}{G:List Ce}(E:a.eval x=.pointer (some ⟨b,o,none⟩))
 (A:∀d m,fN T c=some d->m<d.sh.length->(b,o+m)∈Tm T i (.load c x))(I:j[b]? =some (.cells (G.map Ce.v).toArray H))(h:NP T c G o k):
 pd e T i j a ⟨q,.load c x,v,u,p,r⟩ k:=by
 have D:∀f,af j b f=(G[f]?).map Ce.v:=λf=>by simp[af,I]
 unfold NP at h
 split at h
 .rename_i K L F d
  split at h
  .rename_i g J
   obtain⟨t,w⟩:=MD J
   exact nm C B E d rfl (λm z=>A _ m d z) t (λf y=>by rw[D,w f y]) (s:=.agg g) rfl (Or.inl ⟨rfl,rfl⟩) h
  .exact h.elim
 .rename_i J F d
  split at h
  .rename_i t w
   rw[pW]at w
   exact nm C B E d rfl (λm z=>A _ m d z) (g:=[t]) rfl (λf y=>by
    have:f=0:=by simpa using y
    subst this;rw[D];simp[w]) (s:=.c t) rfl (Or.inr ⟨rfl,_,rfl,rfl⟩) h
  .exact h.elim
 .rename_i H J F d
  split at h
  .rename_i t w
   rw[pW]at w
   exact nm C B E d rfl (λm z=>A _ m d z) (g:=[t]) rfl (λf y=>by
    have:f=0:=by simpa using y
    subst this;rw[D];simp[w]) (s:=.c t) rfl (Or.inr ⟨rfl,_,rfl,rfl⟩) h
  .exact h.elim
 .rename_i L K J F d
  split at h
  .rename_i t w
   rw[pW]at w
   exact nm C B E d rfl (λm z=>A _ m d z) (g:=[t]) rfl (λf y=>by
    have:f=0:=by simpa using y
    subst this;rw[D];simp[w]) (s:=.c t) rfl (Or.inr ⟨rfl,_,rfl,rfl⟩) h
  .exact h.elim
 .exact h.elim
def Re(l:uK e T)(d:kv n i a)(B:Bx n i j)(h:rd T i j k (.load c x)):pd e T i j a ⟨q,.load c x,v,u,p,r⟩ k:=by
 simp only[rd]at h;split at h
 .rename_i b o f;exact Jy l d (d.eq f rfl) (λm g A z=>by simp only[Tm,f,A];exact List.mem_map.2 ⟨g,List.mem_range.2 z,rfl⟩) h
 .rename_i C b o f;have w:∀m g,fN T c=some m->g<m.sh.length->(b,o+g)∈Tm T i (.load c x):=λm g A z=>by simp only[Tm,f,A];exact List.mem_map.2 ⟨g,List.mem_range.2 z,rfl⟩
  split at h
  .rename_i D t s y;obtain⟨rfl,h⟩:=h;exact Jx l d (d.eq f rfl) w (B.D C _ t s (Or.inl y)) h
  .rename_i D t s y;obtain⟨rfl,h⟩:=h;exact Jx l d (d.eq f rfl) w (B.D C _ t s (Or.inr y)) h
  .exact Jy l d (d.eq f rfl) w h
 .exact h.elim
end
end Go.Vc
end
section
namespace Go.Vc
variable{x:Operand}{t:TypeId}
variable{P:Program}{T:TT}
section
variable{n:Nat}{b:Fr}{a:Act}{m:E}{k:SV->Prop}{d:Option Tmp}{g:TypeId}{f:String}{c:Array Edge}{e:Option (Nat×Bool)}
def MZ(l:kv n b a){j:Nat}(h:rd T b m k (.extract x j)):pd P T b m a ⟨d,.extract x j,g,f,c,e⟩ k:=by
 simp only[rd]at h;split at h
 .rename_i p o;split at h
  .rename_i y i;refine⟨_,_,h,nY _,λw _=>?_⟩;rw[pW]at i;rw[AV.aah];have:a.eval x=.tuple (p.map AV.v).toArray:=l.eq o rfl;simp[execOp,Instr.extract,this,i]
  .exact h.elim
 .exact h.elim
def NZ(c:kv n b a){x:Option Operand}{d:Int}{k:Int->Prop}(h:Nh b x d k):
 (x=none/\k d)\/∃y i,x=some y/\a.eval y=.int .i64 i/\k i:=by
 unfold Nh at h
 split at h
 .exact Or.inl ⟨rfl,h⟩
 .rename_i y
  split at h
  .rename_i i e
   exact Or.inr ⟨y,i,rfl,c.eq e rfl,h⟩
  .exact h.elim
def p7(k:IntKind)(i:Int)(y:Nat)(c:BoundsCode)(a:0<=i)(b:i<=y)(w:World):(Instr.sliceBound (.int k i) y c).run P w=.ok i.toNat w:=by
 simp[Instr.sliceBound,asIntOf,a,b]
def Yu(b o l c a d e:Nat):(O.cut (.mk b o l c) a d e).v=.slice (if c=a then some ⟨b,o,none⟩else(some (⟨b,o,none⟩:Addr)).map (·.add (a*e))) (d -a) (c -a):=by
 show Value.slice _ _ _=_;simp only[vX,oC];split<;>rfl
def P6(J:uK P T)(r:kv n b a){A y:Option Operand}(i:rd T b m k (.slice t x A y none)):pd P T b m a ⟨d,.slice t x A y none,g,f,c,e⟩ k:=by
 simp only[rd]at i;split at i
 .rename_i s G;unfold Ry at i;split at i
  .rename_i v N M L;split at i
   .rename_i B K;cases D:B.uS
    .rw[D]at i;have F:=(kG (J.yG L)).1;have E:=λw=>kN J K D w;have z:∀(l h:Int),0<=l->l<=h->h<=(s.cap:Int)->
      (∀w:World,(Instr.sliceBounds true s.len s.cap (A.map a.eval) (y.map a.eval) none).run P w=.ok (l.toNat,h.toNat,s.cap) w)->
      ∀w:World,(execOp a.eval ⟨d,.slice t x A y none,g,f,c,e⟩).run P w=.ok (.value (Ce.s (s.cut l.toNat h.toNat B.sh.length)).v) w:=by
      intro l h o p j q w
      cases s with
      |nil=>
       simp only[O.cap,O.len]at q j
       have:h=0:=V
       have:l=0:=V
       subst this;subst h
       simp[execOp,Instr.sliceAt,r.eq G rfl,SV.v,Ce.v,O.v,run_underlying F,Instr.slice,q,E,O.cut]
      |zX u C H=>
       simp only[O.cap,O.len]at q j
       have:h=0:=V
       have:l=0:=V
       subst this;subst h
       simp[execOp,Instr.sliceAt,r.eq G rfl,SV.v,Ce.v,O.v,run_underlying F,Instr.slice,q,E,O.cut]
      |mk u I H C=>
       simp only[O.cap,O.len]at q
       have v:(Ce.s ((O.mk u I H C).cut l.toNat h.toNat B.sh.length)).v=_:=Yu u I H C l.toNat h.toNat B.sh.length
       rw[v]
       have:a.eval x=.slice (some ⟨u,I,none⟩) H C:=r.eq G rfl
       simp[execOp,Instr.sliceAt,this,run_underlying F,Instr.slice,q,E]
     simp only[mU]at i;rcases NZ r i with⟨rfl,C⟩|⟨Q,l,rfl,H,C⟩<;>rcases NZ r C with⟨rfl,o,p,j,u⟩|⟨R,h,rfl,I,o,p,j,u⟩
     .exact⟨_,_,u,nY _,λw _=>z _ _ o p j (λw=>by simp[Instr.sliceBounds]) w⟩
     .exact⟨_,_,u,nY _,λw _=>z _ _ o p j (λw=>by simp[Instr.sliceBounds,I,p7 _ _ _ _ (by omega:0<=h) j]) w⟩
     .exact⟨_,_,u,nY _,λw _=>z _ _ o p j (λw=>by simp[Instr.sliceBounds,H,p7 _ _ _ _ o p]) w⟩
     .exact⟨_,_,u,nY _,λw _=>z _ _ o p j (λw=>by
       have v:l<=(h.toNat:Int):=V;simp[Instr.sliceBounds,I,H,p7 _ _ _ _ (by omega:0<=h) j,p7 _ _ _ _ o v]) w⟩
    .rw[D]at i;exact i.elim
   .exact i.elim
  .exact i.elim
 .exact i.elim
def KW(w:uK P T)(q:kv n b a)(p:List (Nat×Nat))(jv:Nat->Option (Nat×Nat))
 (r:∀i d t f,Il p i=some (d,t)->fN T t=some f->f.uS=false->jv i=some (d,f.sh.length)):
 ∀(s:List (Nat×Operand))(c:List Ce)(k:List Ce->Prop),FR T b p c s k->
  ∃l,k l/\Instr.fill jv (c.map Ce.v).toArray (s.map λe=>(e.1,a.eval e.2))=some (l.map Ce.v).toArray
 |[],c,k,h=>⟨c,h,rfl⟩
 |(i,x)::H,c,k,h=>by
  simp only[FR]at h;split at h
  .rename_i d t e E D;split at h
   .rename_i f F;cases g:(!f.uS&&Nat.beq e.length f.sh.length&&Nat.ble (d+e.length) c.length)
    .rw[g]at h;exact h.elim
    .rw[g]at h;simp only[bN,iX]at g;obtain⟨⟨y,m⟩,o⟩:=g;have m:=bt m;have o:=lX o;obtain⟨l,A,C⟩:=KW w q p jv r H (mE c d e) k h;refine⟨l,A,?_⟩;obtain⟨B,z⟩:=pP D;have G:a.eval x=(ev b x).v:=q.eq rfl B;simp only[cO,Instr.fill,r i d t f E F y,G,z,DY,eu,m];rw[ae bG,<-C];congr 1;apply Ca;intro j;have u:=NU (e.map Ce.v) 0 d (c.map Ce.v).toArray j;rw[<-aaj,ZK];have v:=Cp c d e j o;rw[show((List.map Ce.v (mE c d e)).toArray)[j]? =((mE c d e)[j]?).map Ce.v by simp,v];rw[u];simp;split<;>split<;>first|rfl|(exfalso;omega)|(congr 1;omega)
   .exact h.elim
  .exact h.elim
def YY(T:TT)(t:Nat):Nat:=match fN T t with|some a=>a.sh.length|none=>0
def JD(c:uK P T)(w:World):∀(a:List Field),(∀f∈a,∃b,fN T f.type=some b/\b.uS=false)->
 (a.mapM (λf=>do pure (f.offset,<-sizeOf f.type):Field->Sem (Nat×Nat))).run P w=.ok (a.map λf=>(f.offset,YY T f.type)) w
 |[],_=>aN
 |f::a,h=>by
  obtain⟨b,d,j⟩:=h f aN;have e:=JD c w a (λg i=>h g (by simp[i]));simp only[UM,Sem.run_bind,kN c d j,Result.andThen_ok,Sem.run_pure]at e⊢;rw[e];simp[YY,d]
def JF:∀{d:List (Nat×Nat)},vA T d=true->∀p∈d,∃a,fN T p.2=some a/\a.uS=false
 |[],_,_,h=>by simp at h
 |(o,t)::r,h,p,c=>by
  simp only[vA,bN]at h;rcases List.mem_cons.1 c with rfl|c
  .have b:=h.1;split at b
   .rename_i a e;exact⟨a,e,by simpa using b⟩
   .simp at b
  .exact JF h.2 p c
def PZ(l:uK P T)(z:kv n b a){o:Array (Nat×Operand)}(i:rd T b m k (.build t o)):pd P T b m a ⟨d,.build t o,g,f,c,e⟩ k:=by
 simp only[rd]at i;split at i
 .rename_i y K M v;cases q:vA T y
  .rw[q]at i;exact i.elim
  rw[q]at i;obtain⟨⟨j,D,s⟩,_⟩:=nA (l.yG v);obtain⟨L,I,J,Q⟩:=wC l v rfl;have A:∀h∈j.toList,∃r,fN T h.type=some r/\r.uS=false:=λh B=>
   JF q (h.offset,h.type) (by rw[<-s];exact List.mem_map.2 ⟨h,B,rfl⟩)
  have G:∀w:World,(j.mapM (λh=>do pure (h.offset,<-sizeOf h.type):Field->Sem (Nat×Nat))).run P w=.ok (j.toList.map λh=>(h.offset,YY T h.type)).toArray w:=by
   intro w;rw[UW,Sem.run_map,JD l w j.toList A];rfl
  obtain⟨R,E,F⟩:=KW l z y (λx=>((j.toList.map λh=>(h.offset,YY T h.type)).toArray)[x]?) (λx S t r u H O=>by
   rw[pW,<-s,cN]at u;obtain⟨N,C,p⟩:=Option.map_eq_some_iff.1 u;simp only[Ov]at p;obtain⟨rfl,rfl⟩:=p;simp only[lW,cN,C,oC,YY,H]) _ _ _ i
  refine⟨_,_,E,nY _,λw _=>?_⟩;have u:L.cells=((K.map Sh.zero).map Ce.v).toArray:=by
   apply Array.toList_inj.1;simp[I]
  have C:(o.map λp=>(p.1,a.eval p.2)).toList=o.toList.map λp=>(p.1,a.eval p.2):=aN;simp only[execOp,Instr.build,Sem.run_bind,J,Result.andThen_ok,run_underlying D,G,u,C,F];simp[SV.v]
 .exact i.elim
def Cl(d:kv n b a):∀{c:List Operand},c.all (λx=>(ev b x).jQ)=true->c.map a.eval=c.map λx=>(ev b x).v
 |[],_=>rfl
 |x::c,h=>by
  simp only[Ot,bN]at h;simp only[cO,d.eq rfl h.1,Cl d h.2]
def MX(v:uK P T)(l:kv n b a){s:Builtin}{i:Array Operand}{r:Array TypeId}(h:rd T b m k (.call ⟨.builtin s,i,r⟩)):
 pd P T b m a ⟨d,.call ⟨.builtin s,i,r⟩,g,f,c,e⟩ k:=by
 simp only[rd]at h
 unfold TM at h
 split at h
 .rename_i t x z p
  split at h
  .rename_i D E C q y o
   refine⟨_,_,h,nY _,λw _=>?_⟩
   have A:=(kG (v.yG y)).1
   have u:r=#[t]:=Array.toList_inj.1 (by simpa using z)
   have j:i=#[x]:=Array.toList_inj.1 (by simpa using p)
   subst u;subst j
   have B:a.eval x=q.v:=l.eq o rfl
   cases q<;>simp[execOp,resolve,invoke,builtin,Builtin.len_,run_underlying A,B,O.v,goInt,SV.v,Ce.v,O.len]
  .exact h.elim
 .rename_i x y p
  split at h
  .rename_i u z o q
   refine⟨_,_,h,nY _,λw _=>?_⟩
   have j:i=#[x,y]:=Array.toList_inj.1 (by simpa using p)
   subst j
   simp[execOp,resolve,invoke,builtin,Builtin.max_,Builtin.max2,l.eq o rfl,l.eq q rfl,SV.v,Ce.v]
  .exact h.elim
 .rename_i x y p
  split at h
  .rename_i u z o q
   refine⟨_,_,h,nY _,λw _=>?_⟩
   have j:i=#[x,y]:=Array.toList_inj.1 (by simpa using p)
   subst j
   simp[execOp,resolve,invoke,builtin,Builtin.min_,Builtin.min2,l.eq o rfl,l.eq q rfl,SV.v,Ce.v]
  .exact h.elim
 .exact h.elim
def LQ(j:uK P T)(i:kv n b a)(s:Bx n b m)(o:Oper)(h:rd T b m k o.op):pd P T b m a o k:=by
 obtain⟨d,l,g,f,c,e⟩:=o;cases l with
 |move x=>exact Uh i h
 |assign x=>exact SN i h
 |pick p x y=>exact Rf i h
 |nilCheck x=>exact Ll i h
 |binOp l t x y q=>exact PY j i h
 |unOp l t x=>exact Rg i h
 |convert q t x=>exact MY j i h
 |fieldAddr t x q=>exact JS j i h
 |field t x q=>exact P5 j i h
 |indexAddr t x y=>exact JT j i h
 |load t x=>exact Re j i s h
 |extract x r=>exact MZ i h
 |slice t x u r mx=>cases mx with
  |none=>exact P6 j i h
  |some y=>exact h.elim
 |build t r=>exact PZ j i h
 |call p=>
  obtain⟨r,u,w⟩:=p;cases r with
  |builtin v=>exact MX j i h
  |value q=>exact h.elim
  |invoke v q=>exact h.elim
 |_=>exact h.elim
end
end Go.Vc
end
section
namespace Go.Vc
variable{m m':E}{b o e n q:Nat}{l:List Ce}
def ai(m:E)(b o:Nat):List Ce->E
 |[]=>m
 |c::r=>ai (rL m b o c.v) b (o+1) r
def fO(m:E)(b o n:Nat):Prop:=∀j,j<n->(af m b (o+j)).isSome=true/\vY m b (o+j)=false
def fS(m:E)(b o:Nat)(l:List Ce):Prop:=∀(i:Nat)(c:Ce),l[i]? =some c->af m b (o+i)=some c.v
def mT(a:List Ce)(n:Nat):List Ce:=(List.replicate n a).flatten
def bz(l:List Ce):Array Value:=(l.map Ce.v).toArray
def Ru(m:E)(b o:Nat)(v:Value):(rL m b o v).size=m.size:=by simp[rL]
def Mb(m:E)(b o:Nat)(v:Value){j:Nat}(h:j≠b):(rL m b o v)[j]? =m[j]? :=by
 simp only[rL,lV];rw[ae (λe=>h e.symm)]
def ax:∀(l:List Ce)(m:E)(b o:Nat),(ai m b o l).size=m.size
 |[],_,_,_=>rfl
 |c::r,m,b,o=>by simp only[ai];rw[ax r,Ru]
def bg:∀(l:List Ce)(m:E)(b o:Nat){j:Nat},j≠b->(ai m b o l)[j]? =m[j]?
 |[],_,_,_,_,_=>rfl
 |c::r,m,b,o,j,h=>by simp only[ai];rw[bg r _ _ _ h,Mb m b o _ h]
def mC{v:Value}(h:af m b o=some v):b<m.size:=by
 rcases aX b m.size with a|a
 .exact a
 .simp[af,Jp a]at h
def aI(h:m'[b]? =m[b]?)(o:Nat):af m' b o=af m b o:=by simp only[af,h]
def cK(m:E)(b:Nat)(e:Nat)(l:List Ce):Prop:=m[b]? =some (.cells (bz l) e)
def UE(l:List Ce)(i:Nat):(bz l)[i]? =(l[i]?).map Ce.v:=by simp[bz]
def cK.cq(h:cK m b e l)(o:Nat):af m b o=(l[o]?).map Ce.v:=by
 have a:m[b]? =some (.cells (bz l) e (0,0)):=h;simp only[af,a,UE]
def cK.iL(h:cK m b e l):fS m b 0 l:=λi c a=>by rw[h.cq,bW,a];rfl
def cK.lt(h:cK m b e l):b<m.size:=(Array.getElem?_eq_some_iff.1 h).1
def cK.vY{m:E}{b e:Nat}{l:List Ce}(h:cK m b e l)(o:Nat):vY m b o=false:=by
 have a:m[b]? =some (.cells (bz l) e (0,0)):=h;simp[Vc.vY,a]
def cK.fO(h:cK m b e l)(c:o+n<=l.length):fO m b o n:=λj a=>by
 refine⟨?_,h.vY _⟩;rw[h.cq];simp;omega
def cK.push(m:E)(l:List Ce)(e:Nat):cK (m.push (.cells (bz l) e)) m.size e l:=by simp[cK]
def cK.congr(a:cK m b e l)(h:m'[b]? =m[b]?):cK m' b e l:=by
 unfold cK at*;rw[h];exact a
def cK.rL{m:E}{b e:Nat}{l:List Ce}(h:cK m b e l)(o:Nat)(c:Ce):cK (rL m b o c.v) b e (l.set o c):=by
 have d:m[b]? =some (.cells (bz l) e (0,0)):=h;have f:=h.lt;simp only[cK,Vc.rL,lV,MQ,d,oC];congr 2;apply Ca;intro i;simp only[bz,Array.getElem?_setIfInBounds,lW,cN,jM,DY,eu];by_cases e:o=i
 .subst e;by_cases a:o<l.length
  .simp[a]
  .simp[a]
 .simp[e]
def jt(l:List Ce)(o:Nat):List Ce->List Ce
 |[]=>l
 |c::r=>jt (l.set o c) (o+1) r
def ly:∀(r l:List Ce)(o:Nat),(jt l o r).length=l.length
 |[],_,_=>rfl
 |c::r,l,o=>by simp only[jt];rw[ly r];simp
def wD:∀(r l:List Ce)(o i:Nat),(jt l o r)[i]? =if o<=i/\i<o+r.length/\i<l.length then r[i -o]? else l[i]?
 |[],l,o,i=>by simp[jt];intro h;omega
 |c::r,l,o,i=>by
  simp only[jt];rw[wD r,jM];simp only[ez,be];by_cases b:o=i
  .subst b;by_cases a:o<l.length
   .simp[a];try omega
   .simp[a];try omega
  .by_cases a:o<=i/\i<o+(r.length+1)/\i<l.length
   .rw[ao a,ao V,show i -o=(i -(o+1))+1 by omega,iB]
   .rw[ae a,ae V];simp[b]
def cK.ai{m:E}{b e:Nat}:∀{r l:List Ce}{m:E}{o:Nat},cK m b e l->cK (ai m b o r) b e (jt l o r)
 |[],_,_,_,h=>h
 |c::r,l,m,o,h=>by
  simp only[Vc.ai,jt];exact cK.ai (m:=m) (h.rL o c)
def vy(t:Nat):List Nat->Bool
 |[]=>false
 |u::r=>Nat.beq u t||vy t r
def Ii{t:Nat}:∀{M:List Nat},vy t M=true->t∈M
 |[],h=>by simp[vy]at h
 |u::r,h=>by
  simp only[vy,bT]at h;rcases h with h|h
  .rw[bt h];exact aZ
  .exact ah _ (Ii h)
def MP(n:Nat):Fr->List Nat->List Nat
 |[],_=>[]
 |(q,x)::r,a=>bif Nat.ble n q&&!vy q a then
  match x with
  | .box b _ _=>b::MP n r (q::a)
  | .zR b _ _=>b::MP n r (q::a)
  |_=>MP n r (q::a)
  else MP n r a
def eF(l:List Nat)(m m':E):Prop:=∀b∈l,m'[b]? =m[b]?
def Az(l:List Nat)(m m':E)(k:Prop):Prop:=
 match l with
 |[]=>k
 |_=>eF l m m'/\k
def mM{l:List Nat}{k:Prop}(h:Az l m m' k):eF l m m'/\k:=by
 unfold Az at h;split at h
 .exact⟨(λb a=>by cases a),h⟩
 .exact h
def HA{n:Nat}{q b e:Nat}{l:List Ce}(c:n<=q):∀{j:Fr}{a:List Nat},q∉a->lZ j q b e l->b∈MP n j a
 |[],a,_,h=>by rcases h with h|h<;>simp[iD]at h
 |(u,x)::r,a,g,h=>by
  simp only[MP];cases f:Nat.beq u q
  .have k:u≠q:=λe=>by subst e;simp at f
   have d:lZ r q b e l:=by
    unfold lZ at h⊢;simpa only[iD,f,mU]using h
   have i:q∉u::a:=by
    simp only[aW,vP];exact⟨λe=>k e.symm,g⟩
   cases(Nat.ble n u&&!vy u a)
   .exact HA c g d
   .simp only[jP];split
    .exact ah _ (HA c i d)
    .exact ah _ (HA c i d)
    .exact HA c i d
  .have:=bt f;subst this;have i:vy u a=false:=by
    cases k:vy u a
    .rfl
    .exact absurd (Ii k) g
   have d:Nat.ble n u=true:=X0 c;simp only[i,d,MK,Bool.and_self,jP];unfold lZ at h;simp only[iD,f,jP]at h;rcases h with h|h<;>rw[h]<;>exact aZ
def Bx.fW{c:Fr}(h:Bx n c m){x:SV}(i:∀b e l,x≠.box b e l/\x≠.zR b e l):Bx n ((q,x)::c) m:=by
 have d:∀{u b e l},lZ ((q,x)::c) u b e l->lZ c u b e l:=by
  intro u b e l a;unfold lZ at a⊢;simp only[iD]at a;cases g:Nat.beq q u
  .rw[g]at a;exact a
  .rw[g]at a;rcases a with a|a
   .exact absurd a (i b e l).1
   .exact absurd a (i b e l).2
 exact⟨λq b e l f=>h.D q b e l (d f),λq t b e l j k s r o p=>h.OL q t b e l j k s r (d o) (d p),λq b e l f=>h.key q b e l (d f)⟩
def SV.YQ(x:SV)(b e:Nat)(l:List Ce):x.nb≠.box b e l/\x.nb≠.zR b e l:=by
 cases x<;>exact⟨by simp[SV.nb],by simp[SV.nb]⟩
def Bx.put{a:Fr}(h:Bx n a m)(d:Option Nat)(x:SV):Bx n (uw a d x) m:=by
 cases d with
 |none=>exact h
 |some d=>exact h.fW (SV.YQ x)
def Bx.dz{a:Fr}(h:Bx n a m)(d:eF (MP n a []) m m'):Bx n a m':=
 ⟨λq b e l c=>by rw[d b (HA (h.key q b e l c) aN c)];exact h.D q b e l c,h.OL,h.key⟩
def Bx.push{a:Fr}(h:Bx n a m)(o:Obj):Bx n a (m.push o):=
 ⟨λq b e l d=>by
  have c:=h.D q b e l d;have f:=(Array.getElem?_eq_some_iff.1 c).1;rw[na,ae V];exact c,h.OL,h.key⟩
def Bx.new{d:Fr}(h:Bx n d m)(x:n<=q)(t:Nat)(l:List Ce):Bx n ((q,.box m.size t l)::d) (m.push (.cells (bz l) t)):=by
 have w:=h.push (.cells (bz l) t);have p:∀{u b e l},lZ d u b e l->b<m.size:=λa=>(Array.getElem?_eq_some_iff.1 (h.D _ _ _ _ a)).1;have g:∀{u b e c},lZ ((q,.box m.size t l)::d) u b e c->(u=q/\b=m.size/\e=t/\c=l)\/(u≠q/\lZ d u b e c):=by
  intro u b e c a;unfold lZ at a⊢;simp only[iD]at a;cases f:Nat.beq q u
  .rw[f]at a;exact Or.inr ⟨λe=>by subst e;simp at f,a⟩
  .rw[f]at a;have:=bt f;subst this;rcases a with a|a
   .simp at a;exact Or.inl ⟨rfl,a.1.symm,a.2.1.symm,a.2.2.symm⟩
   .simp at a
 refine⟨λu b e c a=>?_,λu B b e z r s A o v k=>?_,λu b e c a=>?_⟩
 .rcases g a with⟨rfl,rfl,rfl,rfl⟩|⟨_,a⟩
  .simp[bz]
  .exact w.D u b e c a
 .rcases g v with⟨rfl,rfl,rfl,rfl⟩|⟨f,j⟩
  .rcases g k with⟨rfl,rfl,rfl,rfl⟩|⟨y,i⟩
   .exact absurd rfl o
   .have:=p i;omega
  .rcases g k with⟨rfl,rfl,rfl,rfl⟩|⟨y,i⟩
   .have:=p j;omega
   .exact h.OL u B b e z r s A o j i
 .rcases g a with⟨rfl,rfl,rfl,rfl⟩|⟨_,a⟩
  .exact x
  .exact h.key u b e c a
def Bx.oJ{j:Fr}(h:Bx n j m){f:List Ce}(E:iD j q=.box b e f)(o:Nat)(l:List Ce):Bx n ((q,.box b e (jt f o l))::j) (ai m b o l):=by
 have k:lZ j q b e f:=Or.inl E;have D:cK m b e f:=h.D q b e f k;have p:∀{u c d g},lZ ((q,.box b e (jt f o l))::j) u c d g->(u=q/\c=b/\d=e/\g=jt f o l)\/(u≠q/\lZ j u c d g):=by
  intro u c d g a;unfold lZ at a⊢;simp only[iD]at a;cases i:Nat.beq q u
  .rw[i]at a;exact Or.inr ⟨λe=>by subst e;simp at i,a⟩
  .rw[i]at a;have:=bt i;subst this;rcases a with a|a
   .simp at a;exact Or.inl ⟨rfl,a.1.symm,a.2.1.symm,a.2.2.symm⟩
   .simp at a
 refine⟨λu c d g a=>?_,λu s b1 t A b2 v B y C x=>?_,λu c d g a=>?_⟩
 .rcases p a with⟨rfl,rfl,rfl,rfl⟩|⟨i,a⟩
  .exact cK.ai (m:=m) D
  .rw[bg l m b o (h.OL u q c d g b e f i a k)];exact h.D u c d g a
 .rcases p C with⟨rfl,rfl,rfl,rfl⟩|⟨i,w⟩
  .rcases p x with⟨rfl,rfl,rfl,rfl⟩|⟨z,r⟩
   .exact absurd rfl y
   .exactλe=>h.OL s u b2 v B _ _ _ z r k e.symm
  .rcases p x with⟨rfl,rfl,rfl,rfl⟩|⟨z,r⟩
   .exact h.OL u s b1 t A _ _ _ i w k
   .exact h.OL u s b1 t A b2 v B y w r
 .rcases p a with⟨rfl,rfl,rfl,rfl⟩|⟨_,a⟩
  .exact h.key u c d f k
  .exact h.key u c d g a
def FW(a:Fr):List Ce->Option Fr
 |[]=>some a
 | .bp q _ _::r=>match iD a q with
  | .zR _ _ _=>none
  |_=>FW ((q,.fW)::a) r
 |_::r=>FW a r
def AV.Vh:AV->List Ce
 | .c x=>[x]
 | .agg l=>l
def SV.Vh:SV->List Ce
 | .c x=>[x]
 | .agg l=>l
 | .XC l=>l.flatMap AV.Vh
 |_=>[]
def Ue(a:Fr)(l:List SV):Option Fr:=FW a (l.flatMap SV.Vh)
def qK{n:Nat}{f:Act}{m:E}:∀{l:List Ce}{a c:Fr},FW a l=some c->kv n a f->Bx n a m->kv n c f/\Bx n c m
 |[],a,c,h,e,d=>by simp[FW]at h;subst h;exact⟨e,d⟩
 |g::r,a,c,h,e,d=>by
  cases g with
  |bp q b o=>
   simp only[FW]at h;split at h
   .simp at h
   .exact qK h (e.fW q) (d.fW aN)
  |_=>exact qK (l:=r) (by simpa[FW]using h) e d
end Go.Vc
end
section
namespace Go.Vc
variable{P:Program}{T:TT}
def O1(m:E)(k:E->Prop):Prop:=k m
def jT(m:E)(f:Nat)(b:List Ce)(e:Nat)(s x:O)(k:O->E->Prop):Prop:=
 ∃a:List Ce,a.length=x.len*b.length/\fS m x.D x.off a/\
  (s.len+x.len<=s.cap->fO m s.D (s.off+s.len*b.length) a.length/\
   k (match s with| .nil=>.nil| .mk d o l c=>.mk d o (l+x.len) c| .zX d o g=>.zX d o g) (ai m s.D (s.off+s.len*b.length) a))/\
  (s.cap<s.len+x.len->(s.len+x.len)*e<=140737488355328/\∃old:List Ce,old.length=s.len*b.length/\fS m s.D s.off old/\
   ∀c,s.len+x.len<=c->k (.mk m.size 0 (s.len+x.len) c) (m.push (.cells (bz (old++a++mT b (c -(s.len+x.len)))) f)))
def Xk(m:E)(c:Nat)(s x:O)(k:SV->E->Prop):Prop:=
 ∃a:List Ce,a.length=Nat.min x.len s.len*c/\fS m x.D x.off a/\fO m s.D s.off a.length/\
  O1 (ai m s.D s.off a) λb=>k (.c (.i (Nat.min x.len s.len:Nat))) b
def UU:List Sh->(List Ce->Prop)->Prop
 |[],k=>k []
 |s::r,k=>∃x:s.ty,UU r λl=>k (s.mk x::l)
def SJ(T:TT):List Nat->(List AV->Prop)->Prop
 |[],k=>k []
 |t::r,k=>match fN T t with
  |some ⟨.struct _,b,_⟩=>UU b λl=>SJ T r λa=>k (.agg l::a)
  |some ⟨.cell,[s],_⟩=>∃x:s.ty,SJ T r λa=>k (.c (s.mk x)::a)
  |some ⟨.slice _,[_],_⟩=>∃x:O,SJ T r λa=>k (.c (.s x)::a)
  |_=>False
def Qj(T:TT)(t:Nat)(v:Value)(k:SV->Prop):Prop:=
 match fN T t with
 |some ⟨.tuple [],_,_⟩=>k .fW
 |some ⟨.tuple a,_,_⟩=>SJ T a λl=>v=.tuple (l.map AV.v).toArray/\k (.XC l)
 |some ⟨.struct _,a,_⟩=>UU a λl=>v=.agg (l.map Ce.v).toArray/\k (.agg l)
 |some ⟨.cell,[s],_⟩=>∃x:s.ty,v=(s.mk x).v/\k (.c (s.mk x))
 |some ⟨.slice _,[_],_⟩=>∃x:O,v=x.v/\k (.c (.s x))
 |_=>False
def TP(P:Program)(T:TT)(G:List Nat)(n:Nat)(a:Fr)(m:E)(e:Nat)(h:Operand)(b:List Operand)(k:Fr->SV->E->Prop):Prop:=
 match Ue a (b.map (ev a))with
 |none=>False
 |some d=>match ev a h with
  | .c (.fn (.func g) first f)=>bif G.elem g&&b.all (λx=>(ev a x).jQ)then
   aO P g (first.toList++(b.map λx=>(ev a x).v)++f.toList) m λv c=>Az (MP n d []) m c (Qj T e v λx=>k d x c)
   else False
  | .c (.fv q)=>bif b.all (λx=>(ev a x).jQ)then
   ∃g,q.1=.func g/\G.elem g=true/\aO P g (q.2.1.toList++(b.map λx=>(ev a x).v)++q.2.2.toList) m λv c=>Az (MP n d []) m c (Qj T e v λx=>k d x c)
   else False
  |_=>False
def DL(m:E)(b:Nat)(l:List (Int×Int)):Prop:=
 ∃a c,m[b]? =some (.map a c)/\a.toList.map (λe=>(e.key,e.val))=l.map λp=>(Value.int .i64 p.1,Value.int .i64 p.2)
def vz(l:List (Int×Int))(k:Int):Int:=
 match l with
 |[]=>0
 |(j,v)::r=>if k=j then v else vz r k
def JX(l:List (Int×Int))(k v:Int):List (Int×Int):=
 match l with
 |[]=>[(k,v)]
 |(j,u)::r=>if k=j then(j,v)::r else(j,u)::JX r k v
def xD(T:TT)(d:Fr)(b:Nat):List Ce->List (Nat×Operand)->(List Ce->Prop)->Prop
 |a,[],k=>k a
 |a,(i,x)::r,k=>
  match(ev d x).cells with
  |some c=>bif Nat.beq c.length b&&Nat.ble (i*b+c.length) a.length then xD T d b (mE a (i*b) c) r k else False
  |none=>False
def SW(n:Nat)(b:Fr)(d:Option Nat)(m:E)(t:Nat)(l:List Ce)(k:Fr->SV->E->Prop):Prop:=
 match d with
 |some a=>match iD b (n+a)with
  | .zR _ _ _=>False
  |_=>O1 (m.push (.cells (bz l) t)) λc=>k ((n+a,.box m.size t l)::b) (.c (.bp (n+a) m.size 0)) c
 |none=>O1 (m.push (.cells (bz l) t)) λc=>k b (.c (.p m.size 0)) c
def Pk(n:Nat)(c:Fr)(m:E)(x:SV)(l:List Ce)(k:Fr->SV->E->Prop):Prop:=
 match x with
 | .c (.p b o)=>fO m b o l.length/\O1 (ai m b o l) λa=>Az (MP n c []) m a (k c .un a)
 | .c (.bp q b o)=>match iD c q with
  | .box d f e=>bif Nat.ble (o+l.length) e.length then nI d b (O1 (ai m b o l) λa=>k ((q,.box d f (jt e o l))::c) .un a)else False
  | .zR _ _ _=>False
  |_=>fO m b o l.length/\O1 (ai m b o l) λa=>Az (MP n c []) m a (k c .un a)
 |_=>False
def wr(P:Program)(T:TT)(G:List Nat)(n:Nat)(a:Fr)(m:E)(h:Option Nat)(o:Nat)(k:Fr->SV->E->Prop):Op->Prop
 | .alloc t=>match fN T t with
  |some f=>bif f.uS then False else SW n a h m t (f.sh.map Sh.zero) k
  |none=>False
 | .box t x=>match(ev a x).cells with
  |some l=>match FW a l with
   |some d=>SW n d h m t l k
   |none=>False
  |none=>False
 | .buildSlice t g i=>match fN T t with
  |some ⟨.slice e,_,_⟩=>match fN T e with
   |some c=>bif c.uS||!(Nat.ble (g*c.sh.length) 16777216)then False else
    xD T a c.sh.length (mT (c.sh.map Sh.zero) g) i.toList λl=>match FW a l with
     |some d=>O1 (m.push (.cells (bz l) e)) λb=>k d (.c (.s (.mk m.size 0 g g))) b
     |none=>False
   |none=>False
  |_=>False
 | .store t x y=>match(ev a y).cells,fN T t with
  |some l,some f=>bif f.uS||!(Nat.beq l.length f.sh.length)then False else match FW a l with
   |some d=>Pk n d m (ev a x) l k
   |none=>False
  |_,_=>False
 | .makeSlice t x y=>match fN T t,ev a x,ev a y with
  |some ⟨.slice e,_,_⟩,.c (.i l),.c (.i f)=>match fN T e with
   |some c=>bif c.uS then False else 0<=l/\l<=f/\(c.bytes:Int)*f<=281474976710656/\f<=9223372036854775807/\
    O1 (m.push (.cells (bz (mT (c.sh.map Sh.zero) f.toNat)) e)) λb=>k a (.c (.s (.mk m.size 0 l.toNat f.toNat))) b
   |none=>False
  |_,_,_=>False
 | .makeFunc g first f=>bif first.toList.all (λx=>(ev a x).jQ)&&f.toList.all (λx=>(ev a x).jQ)then
  match Ue a (first.toList.map (ev a)++f.toList.map (ev a))with
  |some d=>k d (.c (.fn g (first.toList.map λx=>(ev a x).v).toArray (f.toList.map λx=>(ev a x).v).toArray)) m
  |none=>False
  else False
 | .makeMap _ none=>O1 (m.push (.map #[] 0)) λb=>k a (.c (.mp m.size)) b
 | .lookup t x y false=>match fN T t,ev a x,ev a y with
  |some ⟨.map f g,_,_⟩,.c (.mp d),.c (.i n)=>match fN T f,fN T g with
   |some ⟨.cell,[.I],_⟩,some ⟨.cell,[.I],_⟩=>∃l,DL m d l/\k a (.c (.i (vz l n))) m
   |_,_=>False
  |_,_,_=>False
 | .mapUpdate t x y z=>match fN T t,ev a x,ev a y,ev a z with
  |some ⟨.map f _,_,_⟩,.c (.mp d),.c (.i g),.c (.i v)=>match fN T f with
   |some ⟨.cell,[.I],_⟩=>∃l,DL m d l/\∀b,DL b d (JX l g v)->b.size=m.size->(∀j,j≠d->b[j]? =m[j]?)->Az (MP n a []) m b (k a .un b)
   |_=>False
  |_,_,_,_=>False
 | .call ⟨.value f,d,_⟩=>TP P T G n a m o f d.toList k
 | .call ⟨.builtin .append,d,f⟩=>match d.toList,f.toList with
  |[x,y],[t,u]=>match fN T t,fN T u,ev a x,ev a y with
   |some ⟨.slice e,_,_⟩,some ⟨.slice _,_,_⟩,.c (.s s),.c (.s z)=>match fN T e with
    |some c=>bif c.uS||Nat.beq c.bytes 0 then False else jT m e (c.sh.map Sh.zero) c.bytes s z λr b=>Az (MP n a []) m b (k a (.c (.s r)) b)
    |none=>False
   |_,_,_,_=>False
  |_,_=>False
 | .call ⟨.builtin .copy,d,f⟩=>match d.toList,f.toList with
  |[x,y],t::_=>match fN T t,ev a x,ev a y with
   |some ⟨.slice e,_,_⟩,.c (.s s),.c (.s z)=>match fN T e with
    |some c=>bif c.uS then False else Xk m c.sh.length s z λx b=>Az (MP n a []) m b (k a x b)
    |none=>False
   |_,_,_=>False
  |_,_=>False
 |_=>False
def HV(P:Program)(g:Nat):Bool:=
 match P.funcs[g]? with
 |some a=>!(a.name== "runtime.NumGoroutine")&&a.body.isSome
 |none=>false
def U1(P:Program)(G:List Nat):Prop:=G.all (HV P)=true
def QG(a:List Ce):∀(n i:Nat),i<n*a.length->(mT a n)[i]? =a[i%a.length]?
 |0,i,h=>by simp at h
 |n+1,i,h=>by
  have c:0<a.length:=by
   rcases ku a.length with e|e
   .rw[e]at h;simp at h
   .exact e
  have e:mT a (n+1)=a++mT a n:=by simp[mT,qZ]
  rw[e,List.getElem?_append];split
  .rename_i b;rw[Nat.mod_eq_of_lt b]
  .rename_i b;rw[QG a n (i -a.length) (by rw[gT,Nat.one_mul]at h;omega)];congr 1;rw[Nat.mod_eq_sub_mod (by omega:i>=a.length)]
def rW(a:List Ce)(n:Nat):(mT a n).length=n*a.length:=by
 simp[mT]
def Jo(a:List Ce)(z:Array Value)(d:z.toList=a.map Ce.v)(n:Nat):
 (Array.range (n*a.length)).map (λi=>z[i%z.size]!)=bz (mT a n):=by
 apply Ca
 intro i
 have j:z.size=a.length:=by rw[<-ZJ,d];simp
 by_cases b:i<n*a.length
 .have f:=QG a n i b
  have h:0<a.length:=by
   rcases ku a.length with e|e
   .rw[e]at b;simp at b
   .exact e
  have g:i%a.length<a.length:=Nat.mod_lt _ h
  have c:(bz (mT a n))[i]? =((mT a n)[i]?).map Ce.v:=by simp[bz]
  rw[c,f,<-cN,<-d]
  simp[b,j,g]
 .have c:(bz (mT a n))[i]? =none:=by simp[bz,rW];omega
  rw[c]
  simp[b]
end Go.Vc
end
section
namespace Go.Vc
variable{c:SV}{l:List Ce}{t:TypeId}
variable{d:Program}{T:TT}{G:List Nat}
def Ce.Vs(c:Ce):c.v.oneCell'=true:=by
 cases c with
 |s y=>cases y<;>rfl
 |_=>rfl
def lB:∀(l:List Ce)(w:World)(b o:Nat),(w.setCells b o (l.map Ce.v)).heap=ai w.heap b o l
 |[],_,_,_=>rfl
 |c::r,w,b,o=>by
  simp only[cO,World.setCells,ai];rw[lB r,Pa]
def ry:∀(l:List Value)(w:World)(a o:Nat),pK w (w.setCells a o l)
 |[],w,_,_=>pK.aA w
 |c::r,w,a,o=>by
  simp only[World.setCells];exact pK.trans (b:=w.setCell ⟨a,o,none⟩ c) ⟨rfl,rfl,rfl⟩ (ry r _ a (o+1))
def EB(l:List Ce)(b o:Nat)(w:World)(h:fO w.heap b o l.length):
 (storeCells ⟨b,o,none⟩ (l.map Ce.v)).run d w=.ok () (w.setCells b o (l.map Ce.v)):=by
 have:=run_storeCells_cells (P:=d) b o (l.map Ce.v) 0 w
  (λj a=>by have:=(h j (by simpa using a)).1;rw[zU];simpa using this)
  (λj a=>by have:=(h j (by simpa using a)).2;rw[Ra];simpa using this)
  (λv a=>by obtain⟨c,_,rfl⟩:=List.mem_map.1 a;exact c.Vs)
 simpa using this
def Qm(l:List Ce)(b o:Nat)(a:World)(h:fS a.heap b o l):(loadCells ⟨b,o,none⟩ l.length).run d a=.ok (bz l) a:=by
 have:=run_loadCells_list (P:=d) (w:=a) ⟨b,o,none⟩ (l.map Ce.v) (λj v c=>by
  rw[vX,zU];rw[cN]at c;obtain⟨e,f,rfl⟩:=Option.map_eq_some_iff.1 c;exact h j e f)
 simpa[bz]using this
section
variable{n:Nat}{b:Fr}{a:Act}{m:E}{k:Fr->SV->E->Prop}{e:Option Tmp}{f:TypeId}{i:String}{g:Array Edge}{h:Option (Nat×Bool)}
def FF(d:Program)(n:Nat)(a:Act)(m:E)(o:Oper)(k:Fr->SV->E->Prop):Prop:=
 ∀(w:World),w.heap=m->∀(f:Act->World->Prop)(Q:Exit->Act->World->Prop),
  (∀e c v b,k e c b.heap->kv n e a->Bx n e b.heap->c.Is v->pK w b->f (a.put o.dst v) b)->o.wp d a w f Q
def jU{o:Oper}{e:Fr}{v:Value}{w b:World}(h:kv n e a)(g:Bx n e b.heap)(p:c.Is v)(m:pK w b)(i:k e c b.heap)(l:(execOp a.eval o).run d w=.ok (.value v) b)
 {f:Act->World->Prop}{Q:Exit->Act->World->Prop}(j:∀e c v b,k e c b.heap->kv n e a->Bx n e b.heap->c.Is v->pK w b->f (a.put o.dst v) b):o.wp d a w f Q:=by
 unfold Oper.wp
 rw[l]
 exact j e c v b i h g p m
def NX{i:Option Nat}{t:Nat}(g:kv n b a)(f:Bx n b m)(h:SW n b i m t l k):
 ∃d c,kv n d a/\Bx n d (m.push (.cells (bz l) t))/\c.Is (.pointer (some ⟨m.size,0,none⟩))/\k d c (m.push (.cells (bz l) t)):=by
 unfold SW at h
 split at h
 .split at h
  .exact h.elim
  .rename_i e _ j
   exact⟨(n+e,.box m.size t l)::b,.c (.bp (n+e) m.size 0),g.cons _ (λ_=>trivial),f.new (Nat.le_add_right _ _) t l,rfl,h⟩
 .exact⟨b,.c (.p m.size 0),g,f.push _,rfl,h⟩
def Qw(s:kv n b a)(g:Bx n b m)(h:Pk n b m c l k):
 ∃p d o,kv n p a/\Bx n p (ai m d o l)/\(∀v,c.Is v->v=.pointer (some ⟨d,o,none⟩))/\fO m d o l.length/\k p .un (ai m d o l):=by
 unfold Pk at h
 split at h
 .obtain⟨q,r⟩:=mM h.2
  exact⟨_,_,_,s,g.dz q,λv e=>e,h.1,r⟩
 .split at h
  .rename_i w d o _ i j f u
   cases t:Nat.ble (o+l.length) f.length
   .rw[t]at h;exact h.elim
   .rw[t]at h
    obtain⟨rfl,h⟩:=h
    have x:cK m i j f:=g.D w i j f (Or.inl u)
    exact⟨(w,.box i j (jt f o l))::b,_,_,s.cons _ (λ_=>trivial),g.oJ u o l,λv e=>e,x.fO (lX t),h⟩
  .exact h.elim
  .obtain⟨q,r⟩:=mM h.2
   exact⟨_,_,_,s,g.dz q,λv e=>e,h.1,r⟩
 .exact h.elim
def Q1(y:uK d T)(s:kv n b a)(q:Bx n b m)(j:wr d T G n b m e f k (.alloc t)):FF d n a m ⟨e,.alloc t,f,i,g,h⟩ k:=by
 intro l D L Q B
 subst D;simp only[wr]at j;split at j
 .rename_i p C;cases o:p.uS
  .rw[o]at j;obtain⟨I,F,H,K⟩:=wC y C o;have z:I.cells=bz (p.sh.map Sh.zero):=by apply Array.toList_inj.1;simp[F,bz]
   obtain⟨J,c,u,r,E,A⟩:=NX s q j;refine jU (w:=l) (c:=c) (v:=.pointer (some ⟨l.heap.size,0,none⟩)) (b:={l with heap:=l.heap.push (.cells (bz (p.sh.map Sh.zero)) t)}) u r E ⟨rfl,rfl,rfl⟩ A ?_ B;simp[execOp,Instr.alloc,H,newVar,newRow,z]
  .rw[o]at j;exact j.elim
 .exact j.elim
def TV(p:kv n b a)(q:Bx n b m){c:Operand}(j:wr d T G n b m e f k (.box t c)):FF d n a m ⟨e,.box t c,f,i,g,h⟩ k:=by
 intro o F L Q E
 subst F;simp only[wr]at j;split at j
 .rename_i l D;split at j
  .rename_i K A;obtain⟨y,s⟩:=qK A p q;obtain⟨B,z⟩:=pP D;obtain⟨J,I,u,r,H,C⟩:=NX y s j;refine jU (w:=o) (c:=I) (v:=.pointer (some ⟨o.heap.size,0,none⟩)) (b:={o with heap:=o.heap.push (.cells (bz l) t)}) u r H ⟨rfl,rfl,rfl⟩ C ?_ E;simp[execOp,Instr.box,newVar,newRow,p.eq rfl B,z,bz]
  .exact j.elim
 .exact j.elim
def MS(q:kv n b a)(y:Bx n b m){o:Fn}{first l:Array Operand}(j:wr d T G n b m e f k (.makeFunc o first l)):FF d n a m ⟨e,.makeFunc o first l,f,i,g,h⟩ k:=by
 intro r D F Q C
 subst D;simp only[wr]at j;cases p:(first.toList.all (λc=>(ev b c).jQ)&&l.toList.all (λc=>(ev b c).jQ))
 .rw[p]at j;exact j.elim
 .rw[p]at j;simp only[bN]at p;obtain⟨u,x⟩:=p;have s:(first.toList.map λc=>(ev b c).v).toArray=first.map a.eval:=by
   apply Array.toList_inj.1;simp[Cl q u]
  have t:(l.toList.map λc=>(ev b c).v).toArray=l.map a.eval:=by
   apply Array.toList_inj.1;simp[Cl q x]
  simp only[jP]at j;split at j
  .rename_i E B;obtain⟨A,z⟩:=qK B q y;refine jU (w:=r) (b:=r) A z (v:=.func o (first.map a.eval) (l.map a.eval)) ?_ (pK.aA r) j ?_ C
   .show Value.func o (first.map a.eval) (l.map a.eval)=Value.func o _ _;rw[s,t]
   .simp[execOp,Instr.makeFunc]
  .exact j.elim
def JK(p:kv n b a)(e:Nat):
 ∀(q:List (Nat×Operand))(d:List Ce)(k:List Ce->Prop),xD T b e d q k->
  ∃l,k l/\Instr.fill (λi=>some (i*e,e)) (d.map Ce.v).toArray (q.map λf=>(f.1,a.eval f.2))=some (l.map Ce.v).toArray
 |[],d,k,h=>⟨d,h,rfl⟩
 |(i,c)::z,d,k,h=>by
  simp only[xD]at h;split at h
  .rename_i f x;cases g:(Nat.beq f.length e&&Nat.ble (i*e+f.length) d.length)
   .rw[g]at h;exact h.elim
   .rw[g]at h;simp only[bN]at g;obtain⟨m,o⟩:=g;have m:=bt m;have o:=lX o;obtain⟨l,u,w⟩:=JK p e z (mE d (i*e) f) k h;refine⟨l,u,?_⟩;obtain⟨v,t⟩:=pP x;have y:a.eval c=(ev b c).v:=p.eq rfl v;simp only[cO,Instr.fill,y,t,DY,eu,m];rw[ae bG,<-w];congr 1;apply Ca;intro j;have r:=NU (f.map Ce.v) 0 (i*e) (d.map Ce.v).toArray j;rw[<-aaj,ZK];have s:=Cp d (i*e) f j o;rw[show((List.map Ce.v (mE d (i*e) f)).toArray)[j]? =((mE d (i*e) f)[j]?).map Ce.v by simp,s];rw[r];simp;split<;>split<;>first|rfl|(exfalso;omega)|(congr 1;omega)
  .exact h.elim
def JQ(B:uK d T)(D:kv n b a)(N:Bx n b m){j:Nat}{z:Array (Nat×Operand)}(o:wr d T G n b m e f k (.buildSlice t j z)):FF d n a m ⟨e,.buildSlice t j z,f,i,g,h⟩ k:=by
 intro q U ad Z Q
 subst U;simp only[wr]at o;split at o
 .rename_i L sh aa S;split at o
  .rename_i p H;cases r:(p.uS||!(Nat.ble (j*p.sh.length) 16777216))
   .rw[r]at o;simp only[bu,aak]at r;have ab:=lX r.2;have I:=(kG (B.yG S)).1;obtain⟨K,W,X,ac⟩:=wC B H r.1;have F:=λq=>kN B H r.1 q;obtain⟨l,y,s⟩:=JK D _ _ _ _ o;cases C:FW b l with
    |none=>rw[C]at y;exact y.elim
    |some u=>
    rw[C]at y;obtain⟨P,O⟩:=qK C D N;refine jU (w:=q) (c:=.c (.s (.mk q.heap.size 0 j j))) (v:=.slice (some ⟨q.heap.size,0,none⟩) j j) (b:={q with heap:=q.heap.push (.cells (bz l) L)}) P (O.push _) rfl ⟨rfl,rfl,rfl⟩ y ?_ Q;have E:(z.map λu=>(u.1,a.eval u.2)).toList=z.toList.map λu=>(u.1,a.eval u.2):=aN;have Y:K.cells.toList=(p.sh.map Sh.zero).map Ce.v:=by simp[W]
    have J:(p.sh.map Sh.zero).length=p.sh.length:=aN;have jD:=Jo (p.sh.map Sh.zero) K.cells Y j;rw[J]at jD;by_cases A:j*p.sh.length=0
    .have R:mT (p.sh.map Sh.zero) j=[]:=by
      apply List.length_eq_zero_iff.1;rw[rW,J,A]
     rw[R]at s;simp only[execOp,Instr.buildSlice,Sem.run_bind,run_underlying I,Result.andThen_ok,F,A];simp only[E];have M:(Array.map (λc=>(default:Value)) (Array.range 0))=#[]:=aN;simp at s⊢;rw[M,s];simp[newRow,bz]
    .simp only[execOp,Instr.buildSlice,Sem.run_bind,run_underlying I,Result.andThen_ok,F,A,rY];have:¬(j*p.sh.length>2^24):=V;simp only[this,rY,X,Sem.run_bind,Sem.run_pure,Result.andThen_ok,E];rw[jD];simp only[bz]at s⊢;simp[s,newRow]
   .rw[r]at o;exact o.elim
  .exact o.elim
 .exact o.elim
def Q2(C:uK d T)(q:kv n b a)(v:Bx n b m){c y:Operand}(j:wr d T G n b m e f k (.store t c y)):FF d n a m ⟨e,.store t c y,f,i,g,h⟩ k:=by
 intro w R Y W K
 subst R;simp only[wr]at j;split at j
 .rename_i l s I Q;cases o:(s.uS||!(Nat.beq l.length s.sh.length))
  .rw[o]at j;simp only[mU]at j;simp only[bu,aak]at o;split at j
   .rename_i X E;obtain⟨B,z⟩:=qK E q v;obtain⟨u,p,r,A,x,S,L,F⟩:=Qw B z j;have J:=bt o.2;obtain⟨H,D⟩:=pP I;have O:=λw=>kN C Q o.1 w;unfold Oper.wp;have M:(execOp a.eval ⟨e,.store t c y,f,i,g,h⟩).run d w=.ok .skip (w.setCells p r (l.map Ce.v)):=by
     have N:=EB (d:=d) l p r w L;have U:a.eval c=.pointer (some ⟨p,r,none⟩):=S _ (q.ev c);have V:(a.eval y).cells=(l.map Ce.v).toArray:=by rw[q.eq rfl H,D]
     simp only[execOp,Instr.storeAt,U,Instr.sureAddr,storeVar,Sem.run_bind,Sem.run_pure,Result.andThen_ok,O,V,DY,eu,J];simp[N]
    rw[M];exact K u .un undef _ (by rw[lB];exact F) A (by rw[lB];exact x) rfl (ry _ _ _ _)
   .exact j.elim
  .rw[o]at j;exact j.elim
 .exact j.elim
end
end Go.Vc
end
section
namespace Go.Vc
variable{b y f:Operand}{t:TypeId}{e:Array TypeId}
variable{c:Program}{T:TT}{G:List Nat}
section
variable{n:Nat}{g:Fr}{a:Act}{m:E}{k:Fr->SV->E->Prop}{i:Option Tmp}{h:TypeId}{o:String}{j:Array Edge}{l:Option (Nat×Bool)}
def Pq{b:Int}(e: -9223372036854775808<=b)(f:b<=9223372036854775807):IntKind.i64.wrap b=b:=by
 have a:((2:Int)^IntKind.i64.bits)=18446744073709551616:=bn;have c:((2:Int)^(IntKind.i64.bits -1))=9223372036854775808:=bn;have d:IntKind.i64.signed=true:=rfl;simp only[IntKind.wrap,a,c,d,Oq,ar];split<;>omega
def aR{b:Int}(a: -9223372036854775808<=b)(c:b<=9223372036854775807):cG b=b:=Pq a c
def Lc(s:uK c T)(u:kv n g a)(F:Bx n g m)(e:wr c T G n g m i h k (.makeSlice t b y)):FF c n a m ⟨i,.makeSlice t b y,h,o,j,l⟩ k:=by
 intro q U ah ad J
 subst U;simp only[wr]at e;split at e
 .rename_i D sh ae p d Q Y hy;split at e
  .rename_i f z;cases r:f.uS
   .rw[r]at e;obtain⟨h0,h1,h2,h3,I⟩:=e;have S:=(kG (s.yG Q)).1;obtain⟨C,hz,ab,ag⟩:=wC s z r;obtain⟨ti,H,af,R,_⟩:=GF s z r;have P:=λq=>kN s z r q;refine jU (w:=q) (c:=.c (.s (.mk q.heap.size 0 p.toNat d.toNat))) (v:=.slice (some ⟨q.heap.size,0,none⟩) p.toNat d.toNat) (b:={q with heap:=q.heap.push (.cells (bz (mT (f.sh.map Sh.zero) d.toNat)) D)}) u (F.push _) rfl ⟨rfl,rfl,rfl⟩ I ?_ J;have ac:C.cells.toList=(f.sh.map Sh.zero).map Ce.v:=by simp[hz]
    have B:(f.sh.map Sh.zero).length=f.sh.length:=aN;have jD:=Jo (f.sh.map Sh.zero) C.cells ac d.toNat;rw[B]at jD;have Z:a.eval b=.int .i64 p:=u.eq Y rfl;have aa:a.eval y=.int .i64 d:=u.eq hy rfl;have X:IntKind.i64.wrap p=p:=Pq V V;have W:IntKind.i64.wrap d=d:=Pq V V;have K:¬d<0:=V;have L:¬((f.bytes:Int)*d>2^48):=by
     have:(2:Int)^48=281474976710656:=bn;omega
    have M:¬p<0:=V;have N:¬p>d:=V;simp only[execOp,Instr.makeSlice,Sem.run_bind,run_underlying S,Result.andThen_ok,asInt,asIntOf,Z,aa,Sem.run_pure,R,X,W,H];simp only[K,L,M,N,decide_false,VK,jz,rY];simp only[Sem.run_bind,Sem.run_pure,Result.andThen_ok,run_askRoom,P];by_cases A:d.toNat*f.sh.length=0
    .have O:mT (f.sh.map Sh.zero) d.toNat=[]:=by
      apply List.length_eq_zero_iff.1;rw[rW,B,A]
     rw[O];have E:(Array.map (λb=>(default:Value)) (Array.range 0))=#[]:=aN;simp[A,newRow,bz];rw[E]
    .simp only[A,rY,Sem.run_bind,ab,Result.andThen_ok,Sem.run_pure];rw[jD];simp[newRow]
   .rw[r]at e;exact e.elim
  .exact e.elim
 .exact e.elim
def Lg:∀{c:List Sh}{k:List Ce->Prop},UU c k->∃l,k l
 |[],_,h=>⟨_,h⟩
 |_::_,_,⟨b,h⟩=>let⟨_,a⟩:=Lg h;⟨_,a⟩
def FX:∀{e:List Nat}{k:List AV->Prop},SJ T e k->∃l,k l
 |[],_,h=>⟨_,h⟩
 |t::e,k,h=>by
  simp only[SJ]at h;split at h
  .obtain⟨l,c⟩:=Lg h;obtain⟨d,a⟩:=FX c;exact⟨_,a⟩
  .obtain⟨b,c⟩:=h;obtain⟨d,a⟩:=FX c;exact⟨_,a⟩
  .obtain⟨b,c⟩:=h;obtain⟨d,a⟩:=FX c;exact⟨_,a⟩
  .exact h.elim
def S0{t:Nat}{v:Value}{k:SV->Prop}(h:Qj T t v k):∃b:SV,b.Is v/\k b:=by
 unfold Qj at h;split at h
 .exact⟨.fW,trivial,h⟩
 .obtain⟨l,c,a⟩:=FX h;exact⟨.XC l,c,a⟩
 .obtain⟨l,c,a⟩:=Lg h;exact⟨.agg l,c,a⟩
 .rename_i s _ _;obtain⟨b,c,a⟩:=h;exact⟨.c (s.mk b),c,a⟩
 .obtain⟨b,c,a⟩:=h;exact⟨.c (.s b),c,a⟩
 .exact h.elim
def Lb(z:U1 c G)(A:kv n g a){q:Fr}(B:kv n q a)(y:Bx n q m){d:Array Operand}{p:Nat}{first s:Array Value}(E:a.eval f=.func (.func p) first s)
 (H:G.elem p=true)(J:d.toList.all (λb=>(ev g b).jQ)=true)
 (x:aO c p (first.toList++(d.toList.map λb=>(ev g b).v)++s.toList) m λv r=>Az (MP n q []) m r (Qj T h v λb=>k q b r)):
 FF c n a m ⟨i,.call ⟨.value f,d,e⟩,h,o,j,l⟩ k:=by
 intro w O V R K
 subst O
 have r:HV c p=true:=List.all_eq_true.1 z p (by simpa using H)
 have C:d.map a.eval=(d.toList.map λb=>(ev g b).v).toArray:=by
  apply Array.toList_inj.1;simp[<-Cl A J]
 unfold HV at r
 split at r
 .rename_i u F
  simp only[bN,iX]at r
  have D:u.body.isNone=false:=by cases U:u.body<;>simp_all
  have L:(execOp a.eval ⟨i,.call ⟨.value f,d,e⟩,h,o,j,l⟩).run c w=
   .ok (.enter p (first.toList++(d.toList.map λb=>(ev g b).v)++s.toList).toArray) w:=by
   simp only[execOp,resolve,E,C,Deferred.ofValue,Sem.run_bind,Sem.run_pure,Result.andThen_ok,invoke,callFunc,run_program,F,r.1,D,jz,rY]
   simp
  unfold Oper.wp
  rw[L]
  show Calls c p _ w _
  refine(x w rfl).mono ?_
  rintro S Q ⟨v,rfl,M,t⟩
  obtain⟨N,t⟩:=mM t
  obtain⟨b,P,I⟩:=S0 t
  exact K q b v Q I B (y.dz N) P M
 .simp at r
def SH(v:U1 c G)(q:kv n g a)(y:Bx n g m){r:Array Operand}(d:wr c T G n g m i h k (.call ⟨.value f,r,e⟩)):FF c n a m ⟨i,.call ⟨.value f,r,e⟩,h,o,j,l⟩ k:=by
 simp only[wr,TP]at d;split at d
 .exact d.elim
 rename_i D z;obtain⟨w,u⟩:=qK z q y;split at d
 .rename_i s first x t
  cases p:(G.elem s&&r.toList.all (λb=>(ev g b).jQ))
  .rw[p]at d;exact d.elim
  .rw[p]at d;simp only[bN]at p;exact Lb v q w u (q.eq t rfl) p.1 p.2 d
 .rename_i x t;cases p:(r.toList.all (λb=>(ev g b).jQ))
  .rw[p]at d;exact d.elim
  .rw[p]at d;obtain⟨s,A,B,d⟩:=d;have C:a.eval f=.func (.func s) x.2.1 x.2.2:=by
    rw[<-A];exact q.eq t rfl
   exact Lb v q w u C B p d
 .exact d.elim
def sR(a:c.underlying t=some (.int .i64))(e:Bool)(b:Int)(w:World):(Instr.checkKey e 10000 t (.int .i64 b)).run c w=.ok () w:=by
 have:Instr.checkKey e 10000 t (.int .i64 b)=Instr.checkKey e (9999+1) t (.int .i64 b):=rfl;rw[this];generalize 9999=d;simp[Instr.checkKey,run_underlying a]
def zY(b:Int):∀(a:List MapEntry)(l:List (Int×Int))(i:Nat),a.map (λe=>(e.key,e.val))=l.map (λp=>(Value.int .i64 p.1,Value.int .i64 p.2))->
 (Instr.findNow (.int .i64) (.int .i64 b) a i=some none/\vz l b=0/\(∀v,JX l b v=l++[(b,v)]))\/
 ∃j u,Instr.findNow (.int .i64) (.int .i64 b) a i=some (some (i+j,.int .i64 u))/\vz l b=u/\j<a.length/\l[j]? =some (b,u)/\∀v,JX l b v=l.set j (b,v)
 |[],[],i,_=>Or.inl ⟨rfl,rfl,λv=>rfl⟩
 |[],_::_,i,h=>by simp at h
 |_::_,[],i,h=>by simp at h
 |e::a,(j,u)::l,i,h=>by
  simp only[cO,List.cons.injEq,Ov]at h;obtain⟨⟨r,s⟩,h⟩:=h;have k:Instr.sameNow (.int .i64) (.int .i64 b) e.key=some (b==j):=by rw[r];simp[Instr.sameNow]
  by_cases c:b=j
  .subst c;refine Or.inr ⟨0,u,?_,?_,aN,aN,?_⟩
   .simp[Instr.findNow,k,s]
   .simp[vz]
   .intro v;simp[JX]
  .have m:(b==j)=false:=by simpa using c
   rcases zY b a l (i+1) h with⟨d,f,g⟩|⟨q,t,d,f,g,o,p⟩
   .refine Or.inl ⟨?_,?_,?_⟩
    .simp[Instr.findNow,k,m,d]
    .simp[vz,c,f]
    .intro v;simp[JX,c,g]
   .refine Or.inr ⟨q+1,t,?_,?_,by simpa using g,by simpa using o,?_⟩
    .have n:i+1+q=i+(q+1):=V;simp[Instr.findNow,k,m,d,n]
    .simp[vz,c,f]
    .intro v;simp[JX,c,p]
def OM(f:kv n g a)(e:Bx n g m){r:Option Operand}(d:wr c T G n g m i h k (.makeMap t r)):FF c n a m ⟨i,.makeMap t r,h,o,j,l⟩ k:=by
 intro b q s Q p
 subst q;cases r with
 |some r=>exact d.elim
 |none=>
  refine jU (w:=b) (c:=.c (.mp b.heap.size)) (v:=.map (some b.heap.size)) (b:={b with heap:=b.heap.push (.map #[] 0)}) f (e.push _) rfl ⟨rfl,rfl,rfl⟩ d ?_ p;simp[execOp,Instr.makeMap]
def PN(s:uK c T)(r:kv n g a)(L:Bx n g m){z:Bool}(d:wr c T G n g m i h k (.lookup t b y z)):FF c n a m ⟨i,.lookup t b y z,h,o,j,l⟩ k:=by
 intro e W ag ad S
 subst W;cases z with
 |true=>exact d.elim
 |false=>
  simp only[wr]at d;split at d
  .rename_i kt et sh ae B f V X Y;split at d
   .rename_i b1 b2 R P;obtain⟨u,⟨C,J,O,N⟩,Q⟩:=d;have F:=(Cv (s.yG V)).1;obtain⟨⟨K,hd,E⟩,_⟩:=oB (s.yG R);have M:K=.int .i64:=by
     unfold Au at E;split at E<;>simp_all
    subst M;obtain⟨A,Z,ac,ab⟩:=wC s P rfl;have aa:A=.int .i64 0:=by
     have:A.cells.toList=[Value.int .i64 0]:=Z;have U:=ab rfl;cases A<;>first|(simp[Value.cells]at this;done)|(simp[Value.cells]at this;rw[this.1,this.2])|exact absurd rfl (U _)
    have H:a.eval b=.map (some B):=r.eq X rfl;have I:a.eval y=.int .i64 f:=r.eq Y rfl;have D:(getObj B).run c e=.ok (.map C J) e:=by simp[getObj,Sem.run,O]
    refine jU (w:=e) (c:=.c (.i (vz u f))) (v:=.int .i64 (vz u f)) (b:=e) r L rfl (pK.aA e) Q ?_ S;rcases zY f C.toList u 0 N with⟨p,q,_⟩|⟨af,ah,p,q,_⟩
    .simp[execOp,Instr.lookup,run_underlying F,H,I,D,sR hd,Instr.findKey,run_underlying hd,p,ac,aa,q]
    .simp[execOp,Instr.lookup,run_underlying F,H,I,D,sR hd,Instr.findKey,run_underlying hd,p,q]
   .exact d.elim
  .exact d.elim
def Ld(L:uK c T)(s:kv n g a)(K:Bx n g m){z:Operand}(r:wr c T G n g m i h k (.mapUpdate t b y z)):FF c n a m ⟨i,.mapUpdate t b y z,h,o,j,l⟩ k:=by
 intro w hw ai ag Q
 subst hw;simp only[wr]at r;split at r
 .rename_i kt et sh ah e d v ht hx hy hz;split at r
  .rename_i b1 ae;obtain⟨Y,⟨p,q,E,x⟩,P⟩:=r;have U:=(Cv (L.yG ht)).1;obtain⟨⟨Z,hd,R⟩,_⟩:=oB (L.yG ae);have aa:Z=.int .i64:=by
    unfold Au at R;split at R<;>simp_all
   subst aa;have V:a.eval b=.map (some e):=s.eq hx rfl;have W:a.eval y=.int .i64 d:=s.eq hy rfl;have X:a.eval z=.int .i64 v:=s.eq hz rfl;have N:(getObj e).run c w=.ok (.map p q) w:=by simp[getObj,Sem.run,E]
   have S:∀I,(setObj e I).run c w=.ok () {w with heap:=w.heap.setIfInBounds e I}:=λI=>by simp[setObj,Sem.run,E]
   have M:e<w.heap.size:=(Array.getElem?_eq_some_iff.1 E).1;unfold Oper.wp;rcases zY d p.toList Y 0 x with⟨C,h2,D⟩|⟨f,aj,C,h2,D,J,h5⟩
   .have H:(execOp a.eval ⟨i,.mapUpdate t b y z,h,o,j,l⟩).run c w=.ok .skip {w with heap:=w.heap.setIfInBounds e (.map (p.push {key:=.int .i64 d,val:=.int .i64 v,born:=q}) (q+1))}:=by
     simp[execOp,Instr.mapUpdate,run_underlying U,V,W,X,N,sR hd,Instr.findKey,run_underlying hd,C,S]
    rw[H];have u:=mM (P {w with heap:=w.heap.setIfInBounds e (.map (p.push {key:=.int .i64 d,val:=.int .i64 v,born:=q}) (q+1))}.heap ?_ aN ?_)
    .exact Q g .un undef _ u.2 s (K.dz u.1) rfl ⟨rfl,rfl,rfl⟩
    .refine⟨_,_,by simp[M];exact⟨rfl,rfl⟩,?_⟩;rw[D];simp[x]
    .intro f F;simp[jY (kT F)]
   .have ad:(p[f]?).map (·.key)=some (.int .i64 d):=by
     have:=nE (λA=>(A[f]?).map (·.1)) x;simpa[J]using this
    have af:(Instr.keyThatStays (.int .i64 d) (.int .i64 d)).run c w=.ok (.int .i64 d) w:=by
     simp[Instr.keyThatStays,Instr.sameBits]
    have H:(execOp a.eval ⟨i,.mapUpdate t b y z,h,o,j,l⟩).run c w=.ok .skip {w with heap:=w.heap.setIfInBounds e (.map (p.modify f λB=>{B with key:=.int .i64 d,val:=.int .i64 v}) q)}:=by
     simp only[execOp,Instr.mapUpdate,run_underlying U,V,W,X,N,sR hd,Instr.findKey,run_underlying hd,C,Sem.run_bind,Result.andThen_ok,Sem.run_pure,bW,ad,vO,af,S]
    rw[H];have u:=mM (P {w with heap:=w.heap.setIfInBounds e (.map (p.modify f λB=>{B with key:=.int .i64 d,val:=.int .i64 v}) q)}.heap ?_ aN ?_)
    .exact Q g .un undef _ u.2 s (K.dz u.1) rfl ⟨rfl,rfl,rfl⟩
    .refine⟨_,_,by simp[M];exact⟨rfl,rfl⟩,?_⟩;rw[h5];apply ic;intro A;have B:=nE (λ(q':List (Value×Value))=>q'[A]?) x;simp only[cN]at B;simp only[cN,jM,XY,lV]at B⊢;by_cases O:f=A
     .subst O;have ac:f<Y.length:=(List.getElem?_eq_some_iff.1 J).1;have ab:f<p.size:=by simpa using D
      simp[ac,ab]
     .simp only[O,rY];exact B
    .intro f F;simp[jY (kT F)]
  .exact r.elim
 .exact r.elim
def tP(l:List Ce)(z:O)(a f:Nat)(d:l.length=a*f)(w:World)(h:fS w.heap z.D z.off l)(e:a<=z.len):
 (Builtin.firstCells f a z.v).run c w=.ok (bz l) w:=by
 cases z with
 |nil=>
  have b:a=0:=by simp at e;omega
  have:l=[]:=List.length_eq_zero_iff.1 (by rw[d,b];simp)
  subst this
  simp[Builtin.firstCells,O.v,bz]
 |zX g i j=>
  have b:a=0:=by simp at e;omega
  have:l=[]:=List.length_eq_zero_iff.1 (by rw[d,b];simp)
  subst this
  simp[Builtin.firstCells,O.v,bz,b,loadCells,loadCellsFrom]
 |mk b o i g=>
  simp only[Builtin.firstCells,O.v,<-d]
  exact Qm l b o w h
def Pr(a:List Ce)(z:Array Value)(b:z.toList=a.map Ce.v)(n:Nat):Builtin.zeroCells z n=bz (mT a n):=by
 have c:z.size=a.length:=by rw[<-ZJ,b];simp
 rw[<-Jo a z b n,Builtin.zeroCells,c]
def QC(l r:List Ce):bz (l++r)=bz l++bz r:=by simp[bz]
def PM(H:uK c T)(C:kv n g a)(L:Bx n g m){Z:Array Operand}(q:wr c T G n g m i h k (.call ⟨.builtin .append,Z,e⟩)):FF c n a m ⟨i,.call ⟨.builtin .append,Z,e⟩,h,o,j,l⟩ k:=by
 intro d hw aL aE N
 subst hw;simp only[wr]at q;split at q
 .rename_i b y t aD am az;split at q
  .rename_i B sh aF e2 aM aG s z ht aA hx hy;split at q
   .rename_i f ac;cases u:(f.uS||Nat.beq f.bytes 0)
    .rw[u]at q;simp only[bu]at u;obtain⟨A,Q,ar,ah,ai⟩:=q;have e1:Z=#[b,y]:=Array.toList_inj.1 (by simpa using am);have al:e=#[t,aD]:=Array.toList_inj.1 (by simpa using az);subst e1;subst al;have U:=(kG (H.yG ht)).1;have W:=(kG (H.yG aA)).1;obtain⟨zv,hz,ak,aK⟩:=wC H ac u.1;obtain⟨ti,hb,aJ,af,_⟩:=GF H ac u.1;have S:=λd=>kN H ac u.1 d;have X:a.eval b=s.v:=C.eq hx rfl;have Y:a.eval y=z.v:=C.eq hy rfl;have E:(Builtin.lenOf z.v).run c d=.ok z.len d:=by cases z<;>simp[Builtin.lenOf,O.v,O.len]
     have aj:(f.sh.map Sh.zero).length=f.sh.length:=aN;rw[aj]at Q;simp only[aj]at ah ai;have M:∀r:World,r.heap=d.heap->(Builtin.firstCells f.sh.length z.len z.v).run c r=.ok (bz A) r:=λr ag=>
      tP A z z.len f.sh.length Q r (by rw[ag];exact ar) (ad _)
     have ay:=s.XD;by_cases D:s.len+z.len<=s.cap
     .obtain⟨R,p⟩:=ah D;cases s with
      |nil=>
       simp only[O.OZ,O.Vg]at D R p;have J:z.len=0:=V;have:A=[]:=List.length_eq_zero_iff.1 (by rw[Q,J];simp);subst this;obtain⟨ab,p⟩:=mM p;refine jU (w:=d) (c:=.c (.s .nil)) (v:=.slice none 0 0) (b:=d) C L rfl (pK.aA d) p ?_ N;have I:a.eval b=.slice none 0 0:=X;have F:=M d rfl;simp only[execOp,resolve,Sem.run_bind,Sem.run_pure,Result.andThen_ok,invoke,builtin,Builtin.append_,nD,cO,fG,I,Y];rw[J]at E F;simp[run_underlying U,run_underlying W,S,E,F]
      |zX K o0 sp=>
       simp only[O.Sf,O.Vf]at D R p;have J:z.len=0:=V;have:A=[]:=List.length_eq_zero_iff.1 (by rw[Q,J];simp);subst this;obtain⟨ab,p⟩:=mM p;refine jU (w:=d) (c:=.c (.s (.zX K o0 sp))) (v:=.slice (some ⟨K,o0,some sp⟩) 0 0) (b:=d) C L rfl (pK.aA d) p ?_ N;have I:a.eval b=.slice (some ⟨K,o0,some sp⟩) 0 0:=X;have F:=M d rfl;simp only[execOp,resolve,Sem.run_bind,Sem.run_pure,Result.andThen_ok,invoke,builtin,Builtin.append_,nD,cO,fG,I,Y];rw[J]at E F;simp[run_underlying U,run_underlying W,S,E,F,bz,storeCells]
      |mk F K J aa=>
       simp only[O.gL,O.OI,O.jJ,O.nt]at D R p;obtain⟨ab,p⟩:=mM p;refine jU (w:=d) (c:=.c (.s (.mk F K (J+z.len) aa))) (v:=.slice (some ⟨F,K,none⟩) (J+z.len) aa) (b:=d.setCells F (K+J*f.sh.length) (A.map Ce.v)) C (by rw[lB];exact L.dz ab) rfl (ry _ _ _ _) (by rw[lB];exact p) ?_ N;have an:=EB (d:=c) A F (K+J*f.sh.length) d R;have I:a.eval b=.slice (some ⟨F,K,none⟩) J aa:=X;simp only[execOp,resolve,Sem.run_bind,Sem.run_pure,Result.andThen_ok,invoke,builtin,Builtin.append_,nD,cO,fG,I,Y];simp[run_underlying U,run_underlying W,S,E,D,M d rfl,vX,bz,an]
     .obtain⟨ab,old,av,ax,p⟩:=ai V;have aH:=growslice_fits (need:=s.len+z.len) (old:=s.cap) (bytes:=f.bytes) V ab;have K:f.bytes≠0:=λB=>by rw[B]at u;simp at u
      have aI:¬(((s.len+z.len:Nat):Int)>IntKind.i64.max/\f.bytes=0):=λhh=>K hh.2;have aw:∀r:World,r.heap=d.heap->(Builtin.firstCells f.sh.length s.len s.v).run c r=.ok (bz old) r:=λr ag=>
       tP old s s.len f.sh.length av r (by rw[ag];exact ax) (ad _)
      let I:Question:=.appendCap (s.len+z.len) s.cap B;let nc:=I.cut (d.tape d.drawn I);let J:World:={d with drawn:=d.drawn+1};have ap:s.len+z.len<=nc:=Nat.le_add_right _ _;refine jU (w:=d) (c:=.c (.s (.mk d.heap.size 0 (s.len+z.len) nc))) (v:=.slice (some ⟨d.heap.size,0,none⟩) (s.len+z.len) nc)
       (b:={J with heap:=d.heap.push (.cells (bz (old++A++mT (f.sh.map Sh.zero) (nc -(s.len+z.len)))) B)}) C (L.push _) rfl ⟨rfl,rfl,rfl⟩ (mM (p nc ap)).2 ?_ N
      have aC:zv.cells.toList=(f.sh.map Sh.zero).map Ce.v:=by simp[hz]
      have aa:=Pr (f.sh.map Sh.zero) zv.cells aC (nc -(s.len+z.len));have an:I.forced=false:=rfl;have aq:¬(Builtin.nextslicecap (s.len+z.len) s.cap*f.bytes>2^48):=by
       have:(2:Nat)^48=281474976710656:=bn;omega
      simp only[execOp,resolve,Sem.run_bind,Sem.run_pure,Result.andThen_ok,invoke,builtin,Builtin.append_,nD,cO,fG,X,Y];have F:=aw J rfl;have R:=M J rfl;rw[ay]at F⊢;simp only[lW,sO,iB,Sem.run_bind,run_underlying U,run_underlying W,Result.andThen_ok,S,Sem.run_pure,E,jz,rY,D,af,hb,false_or];simp only[K,and_false,rY,aq,Sem.run_bind,run_choose,an,jz,Result.andThen_ok,af,run_askRoom,F,MK,MQ,R,ak,aa,newRow,run_newObj,Sem.run_pure];simp[QC];rw[hb,ae V,ae (show¬(Question.appendCap (s.len+z.len) s.cap B).forced=true by simp[Question.forced])];have au:(Builtin.firstCells f.sh.length s.len (Value.slice s.cA s.len s.cap)).run c d.drew=.ok (bz old) d.drew:=F;have ao:(Builtin.firstCells f.sh.length z.len z.v).run c d.drew=.ok (bz A) d.drew:=R;simp only[af,Result.andThen_ok,au,ao,ak];have aB:Builtin.zeroCells zv.cells ((Question.appendCap (s.len+z.len) s.cap B).cut (d.tape d.drawn (Question.appendCap (s.len+z.len) s.cap B)) -(s.len+z.len))=bz (mT (f.sh.map Sh.zero) (nc -(s.len+z.len))):=aa;rw[aB];rfl
    .rw[u]at q;exact q.elim
   .exact q.elim
  .exact q.elim
 .exact q.elim
end
end Go.Vc
end
section
namespace Go.Vc
variable{b:Program}{T:TT}{G:List Nat}
section
variable{n:Nat}{c:Fr}{a:Act}{m:E}{k:Fr->SV->E->Prop}{d:Option Tmp}{e:TypeId}{h:String}{f:Array Edge}{g:Option (Nat×Bool)}
def SI(M:uK b T)(t:kv n c a)(U:Bx n c m){r:Array Operand}{K:Array TypeId}(i:wr b T G n c m d e k (.call ⟨.builtin .copy,r,K⟩)):FF b n a m ⟨d,.call ⟨.builtin .copy,r,K⟩,e,h,f,g⟩ k:=by
 intro j hw ah ae W
 subst hw;simp only[wr]at i;split at i
 .rename_i q R ad ai V ab;split at i
  .rename_i ag sh af s z ht hx hy;split at i
   .rename_i J aa;cases u:J.uS
    .rw[u]at i;obtain⟨o,C,X,Y,y⟩:=i;obtain⟨Z,y⟩:=mM y;have S:r=#[q,R]:=Array.toList_inj.1 (by simpa using V);subst S;have E:K[0]? =some ad:=by rw[<-XY,ab];rfl
     have F:=(kG (M.yG ht)).1;have D:=λj=>kN M aa u j;have H:a.eval q=s.v:=t.eq hx rfl;have I:a.eval R=z.v:=t.eq hy rfl;have A:(Builtin.lenOf z.v).run b j=.ok z.len j:=by cases z<;>simp[Builtin.lenOf,O.v,O.len]
     have l:(Builtin.firstCells J.sh.length (Nat.min z.len s.len) z.v).run b j=.ok (bz o) j:=
      tP o z _ J.sh.length C j X (Nat.min_le_left _ _)
     refine jU (w:=j) (c:=.c (.i (Nat.min z.len s.len:Nat))) (v:=.int .i64 (Nat.min z.len s.len:Nat)) (b:=j.setCells s.D s.off (o.map Ce.v)) t (by rw[lB];exact U.dz Z) rfl (ry _ _ _ _) (by rw[lB];exact y) ?_ W;cases s with
     |nil=>
      have B:Nat.min z.len O.nil.len=0:=aN;have:o=[]:=List.length_eq_zero_iff.1 (by rw[C,B];simp);subst this;have p:a.eval q=.slice none 0 0:=H;simp only[O.OZ]at l⊢;simp only[execOp,resolve,Sem.run_bind,Sem.run_pure,Result.andThen_ok,invoke,builtin,Builtin.copy_,nD,cO,fG,p,I,E];simp only[lW,sO,iB,Sem.run_bind,run_underlying F,Result.andThen_ok,A,D,l,Sem.run_pure];rfl
     |zX L N Q=>
      have B:Nat.min z.len (O.zX L N Q).len=0:=aN;have:o=[]:=List.length_eq_zero_iff.1 (by rw[C,B];simp);subst this;have p:a.eval q=.slice (some ⟨L,N,some Q⟩) 0 0:=H;simp only[O.Sf]at l⊢;simp only[execOp,resolve,Sem.run_bind,Sem.run_pure,Result.andThen_ok,invoke,builtin,Builtin.copy_,nD,cO,fG,p,I,E];simp only[lW,sO,iB,Sem.run_bind,run_underlying F,Result.andThen_ok,A,D,l,Sem.run_pure,bz];rfl
     |mk B L ac N=>
      have Q:=EB (d:=b) o B L j Y;have p:a.eval q=.slice (some ⟨B,L,none⟩) ac N:=H;simp only[O.gL]at l⊢;simp only[execOp,resolve,Sem.run_bind,Sem.run_pure,Result.andThen_ok,invoke,builtin,Builtin.copy_,nD,cO,fG,p,I,E];simp only[lW,sO,iB,Sem.run_bind,run_underlying F,Result.andThen_ok,A,D,l,Sem.run_pure,bz,Q];rfl
    .rw[u]at i;exact i.elim
   .exact i.elim
  .exact i.elim
 .exact i.elim
def QE(o:uK b T)(u:U1 b G)(l:kv n c a)(j:Bx n c m)(p:Oper)(i:wr b T G n c m p.dst p.type k p.op):FF b n a m p k:=by
 obtain⟨d,v,e,h,f,g⟩:=p;cases v with
 |alloc t=>exact Q1 o l j i
 |box t x=>exact TV l j i
 |buildSlice t q r=>exact JQ o l j i
 |store t x y=>exact Q2 o l j i
 |makeSlice t x y=>exact Lc o l j i
 |makeFunc r first q=>exact MS l j i
 |makeMap t w=>exact OM l j i
 |lookup t x y q=>exact PN o l j i
 |mapUpdate t x y z=>exact Ld o l j i
 |call r=>
  obtain⟨s,t,x⟩:=r;cases s with
  |builtin q=>
   cases q with
   |append=>exact PM o l j i
   |copy=>exact SI o l j i
   |_=>exact i.elim
  |value q=>exact SH u l j i
  |invoke w q=>exact i.elim
 |_=>exact i.elim
end
end Go.Vc
end
section
namespace Go.Vc
variable{b:Array Bool}{j:Nat}{L:List (Nat×(World->Prop))}{a:Act}{w:World}
section
variable{P:Program}{c:Array Oper}{Q:Exit->Act->World->Prop}{d:Region.Mode}{e:Nat->Nat->Bool}
def vM(P:Program)(d:Region.Mode)(c:Array Oper)(Q:Exit->Act->World->Prop)(e:Nat->Nat->Bool)(L:List (Nat×(World->Prop))):Nat->Array Bool->Act->World->Prop
 |0,b,a,w=>Region.ready d c b=[]/\Q .normal a w
 |h+1,b,a,w=>
  (Region.ready d c b=[]->Q .normal a w)/\
  ∀i∈Region.ready d c b,wpOp P c Q i (λg f=>(∀x∈L,e i x.1=false->x.2 w->x.2 f)/\vM P d c Q e L h (b.setIfInBounds i true) g f) a w
def MI{L:List (Nat×(World->Prop))}:∀(f:Nat)(b:Array Bool)(a:Act)(w:World),vM P d c Q e L f b a w->wpAny P d c Q f b a w
 |0,_,_,_,h=>h
 |f+1,_,_,_,h=>⟨h.1,λk j=>wpOp_mono (λg l i=>MI f _ g l i.2) (h.2 k j)⟩
def DX{L g:List (Nat×(World->Prop))}(j:∀x∈g,x∈L):∀(f:Nat)(b:Array Bool)(a:Act)(w:World),vM P d c Q e L f b a w->vM P d c Q e g f b a w
 |0,_,_,_,h=>h
 |f+1,_,_,_,h=>⟨h.1,λn l=>wpOp_mono (λk o i=>⟨λx m=>i.1 x (j x m),DX j f _ k o i.2⟩) (h.2 n l)⟩
def HJ(e:Nat->Nat->Bool)(b:Array Bool):Prop:=∀i,b.getD i false=true->∀r,e i r=true->b.getD r false=true
def UY(d:Region.Mode)(c:Array Oper)(e:Nat->Nat->Bool):Prop:=
 ∀(i r:Nat)(o:Oper),c[i]? =some o->e i r=true->∃a∈o.after,Region.binds d a=true/\(a.on=r\/e a.on r=true)
def xF(k:UY d c e)(l:HJ e b)(n:j∈Region.ready d c b){r:Nat}(p:e j r=true):b.getD r false=true:=by
 obtain⟨_,q,o,g⟩:=mem_ready.1 n;obtain⟨f,m,i,h⟩:=k j r q o p;have a:=g f m i;rcases h with rfl|h
 .exact a
 .exact l _ a r h
def HJ.set(k:UY d c e)(a:HJ e b)(l:j∈Region.ready d c b):HJ e (b.setIfInBounds j true):=by
 intro i f r h;by_cases g:j=i
 .subst g;exact getD_set_true (xF k a l h)
 .rw[getD_set_ne false g]at f;exact getD_set_true (a i f r h)
def HG{i:Nat}{l:Oper}{F:Value}{S:World->Prop}(I:UY d c e)(C:c[i]? =some l)(O:∀(j:Nat)(R:Oper) q p,c[j]? =some R->R.op≠.select q p)
 (V:∀f a w,Q (.panic f) (a.put l.dst F) w->Q (.panic f) a w):
 ∀(r:Nat)(b:Array Bool)(a:Act)(w:World),HJ e b->
  (∀j m,c[j]? =some m->j≠i->b.getD j true=false->(∀f∈m.after,Region.binds d f=true->f.on≠i)->l.apart c m=true)->
  i∈Region.ready d c b->YieldsIf P c S l F a->S w->
  vM P d c Q e ((i,S)::L) r (b.setIfInBounds i true) (a.put l.dst F) w->vM P d c Q e L (r+1) b a w:=by
 intro r
 induction r with
 |zero=>
  intro b a w _ _ k y x H
  refine⟨λh=>(by rw[h]at k;cases k),λj n=>?_⟩
  by_cases g:j=i
  .subst g;exact y.wpOp C x ⟨λz _ _ h=>h,H⟩
  .have:=ready_mono n g
   rw[H.1]at this
   cases this
 |succ r ih=>
  intro b a w J K k y x H
  refine⟨λh=>(by rw[h]at k;cases k),λj n=>?_⟩
  by_cases g:j=i
  .subst g;exact y.wpOp C x ⟨λz _ _ h=>h,DX (λz E=>ah _ E) _ _ _ _ H⟩
  .have u:=H.2 j (ready_mono n g)
   obtain⟨N,m,D,W⟩:=mem_ready.1 n
   have s:b.getD i false=false:=by
    have G:=(mem_ready.1 k).1;rcases aX i b.size with A|A
    .simp[A]at G⊢;exact G
    .simp[Jp A]
   have ad:∀f∈m.after,Region.binds d f=true->f.on≠i:=λf Y B Z=>by
    have u:=W f Y B;rw[Z,s]at u;cases u
   have X:e j i=false:=by
    cases B:e j i
    .rfl
    .have:=xF I J n B;rw[s]at this;cases this
   have U:=wpOp_putIf D (K j m D g N ad) (λq p=>O i l q p C) (λq p=>O j m q p D) V y u
   have aa:∀o t,c[o]? =some t->o≠i->(b.setIfInBounds j true).getD o true=false->
    (∀f∈t.after,Region.binds d f=true->f.on≠i)->l.apart c t=true:=λo t hk ab s ac=>by
    refine K o t hk ab ?_ ac
    by_cases M:j=o
    .subst M;exact N
    .rw[getD_set_ne true M]at s;exact s
   refine wpOp_mono (λT w' v=>⟨λz E=>v.2.1 z (ah _ E),
    ih (b.setIfInBounds j true) T w' (J.set I n) aa (ready_mono k (kT g)) v.1 (v.2.1 (i,S) aZ X x) ?_⟩) U
   rw[Array.setIfInBounds_comm _ _ g]
   exact v.2.2
def RE{f:Nat}(k:Region.ready d c b≠[])
 (j:∀i∈Region.ready d c b,wpOp P c Q i (λh g=>(∀x∈L,e i x.1=false->x.2 w->x.2 g)/\vM P d c Q e L f (b.setIfInBounds i true) h g) a w):
 vM P d c Q e L (f+1) b a w:=⟨λg=>absurd g k,j⟩
def QD(f:Region.ready d c b=[])(h:Q .normal a w):
 ∀g,vM P d c Q e L g b a w
 |0=>⟨f,h⟩
 |_+1=>⟨λ_=>h,by rw[f];simp⟩
end
end Go.Vc
end
section
namespace Go.Vc
variable{o:Oper}{a:Act}{m:E}
variable{b:Program}{T:TT}{G:List Nat}{n:Nat}
def Lv:Op->Bool
 | .alloc _| .box ..| .buildSlice ..| .store ..| .makeSlice ..| .makeMap ..| .lookup ..| .mapUpdate ..| .makeFunc ..=>true
 | .call ⟨.builtin .append,_,_⟩| .call ⟨.builtin .copy,_,_⟩=>true
 | .call ⟨.builtin _,_,_⟩=>false
 | .call _=>true
 |_=>false
def sI(n:Nat):Option Nat->Bool
 |none=>true
 |some d=>Nat.blt d n
def Ln(a:List Oper)(j:Nat):Option Nat:=
 match Il a j with
 |some o=>o.dst
 |none=>none
def gd(e:List Oper)(a:Fr)(g:Option (Nat×Bool))(Pv b:Fr->Prop):Prop:=
 match g with
 |none=>Pv a
 |some (j,c)=>match Ln e j with
  |none=>False
  |some d=>match iD a d with
   | .tt=>bif c then Pv a else b a
   | .ff=>bif c then b a else Pv a
   | .un=>b a
   | .c (.t x)=>(x=true->bif c then Pv ((d,.tt)::a)else b ((d,.tt)::a))/\(x=false->bif c then b ((d,.ff)::a)else Pv ((d,.ff)::a))
   |_=>False
def sN(b:Program)(T:TT)(G:List Nat)(n:Nat)(c:List Oper):List Oper->Fr->E->(Fr->E->Prop)->Prop
 |[],a,m,k=>k a m
 |o::jV,a,m,k=>
  bif sI n o.dst then
   gd c a o.guard
    (λa=>bif Lv o.op then wr b T G n a m o.dst o.type (λd x e=>sN b T G n c jV (uw d o.dst x) e k) o.op
     else rd T a m (λx=>sN b T G n c jV (uw a o.dst x) m k) o.op)
    (λa=>sN b T G n c jV (uw a o.dst .un) m k)
  else False
def zW:List Oper->List Nat
 |[]=>[]
 |o::r=>match o.dst with
  |some d=>d::zW r
  |none=>zW r
def mO(M:List Nat)(a b:Act):Prop:=∀t,t∉M->b.tmps.getD t undef=a.tmps.getD t undef
def mO.aA(M:List Nat)(a:Act):mO M a a:=λ_ _=>rfl
def mO.trans{M:List Nat}{a b c:Act}(h:mO M a b)(k:mO M b c):mO M a c:=λt d=>(k t d).trans (h t d)
def mO.put{M:List Nat}{d:Option Nat}(hd:∀t,d=some t->t∈M)(v:Value)(a:Act):mO M a (a.put d v):=by
 cases d with
 |none=>exact mO.aA M a
 |some d=>
  intro t c;have b:d≠t:=λe=>c (e▸hd d rfl);simp[Act.put,jY b]
def LD{d:Nat}(hd:o.dst=some d):∀(a:List Oper),o∈a->d∈zW a:=by
 intro a;induction a with
 |nil=>intro h;cases h
 |cons x r c=>
  intro h;rcases List.mem_cons.1 h with b|b
  .subst b;simp only[zW,hd];exact aZ
  .have:=c b;unfold zW;cases x.dst with
   |none=>exact this
   |some e=>exact ah _ this
def Ef{d:Option Nat}(h:sI n d=true):∀t,d=some t->t<n:=by
 rintro t rfl;have:Nat.blt t n=true:=h;simpa[Nat.blt,Nat.succ_le_iff]using this
def Jn(k:Array Oper){d:Fr}(f:kv n d a)(e:Bx n d m)(o:Oper){Pv z:Fr->Prop}(h:gd k.toList d o.guard Pv z):
 (Region.wanted o (yielded k a.tmps)=true/\∃b,Pv b/\kv n b a/\Bx n b m)\/
 (Region.wanted o (yielded k a.tmps)=false/\∃b,z b/\kv n b a/\Bx n b m):=by
 unfold gd at h
 cases b:o.guard with
 |none=>
  rw[b]at h
  exact Or.inl ⟨by simp[Region.wanted,b],d,h,f,e⟩
 |some C=>
  obtain⟨r,v⟩:=C
  rw[b]at h
  simp only at h
  split at h
  .exact h.elim
  .rename_i g hd
   have y:(k[r]?).bind (·.dst)=some g:=by
    unfold Ln at hd;rw[pW]at hd;have B:k.toList[r]? =k[r]? :=aN;rw[B]at hd;split at hd
    .rename_i i c;rw[c];exact hd
    .simp at hd
   have i:=f.aF g
   have w:∀j:Bool,a.tmps.getD g undef=.bool j->yielded k a.tmps r=some j:=by
    intro j l;have:a.tmps[g]? =some (.bool j):=by
     cases q:a.tmps[g]? with
     |none=>rw[zD,q]at l;simp[undef]at l
     |some t=>rw[zD,q]at l;simp at l;rw[l]
    simp[yielded,y,this]
   split at h
   .rename_i p
    rw[p]at i
    have c:=w true i
    cases v
    .exact Or.inr ⟨by simp[Region.wanted,b,c],d,h,f,e⟩
    .exact Or.inl ⟨by simp[Region.wanted,b,c],d,h,f,e⟩
   .rename_i p
    rw[p]at i
    have c:=w false i
    cases v
    .exact Or.inl ⟨by simp[Region.wanted,b,c],d,h,f,e⟩
    .exact Or.inr ⟨by simp[Region.wanted,b,c],d,h,f,e⟩
   .rename_i p
    rw[p]at i
    have c:yielded k a.tmps r=none:=by
     have s:a.tmps.getD g undef=undef:=i;rw[zD]at s;unfold yielded;rw[y];cases q:a.tmps[g]? with
     |none=>simp[q]
     |some t=>rw[q]at s;simp at s;subst s;simp[q,undef]
    exact Or.inr ⟨by simp[Region.wanted,b,c],d,h,f,e⟩
   .rename_i x p
    rw[p]at i
    have c:=w x i
    have u:∀j:Bool,x=j->kv n ((g,if j then SV.tt else SV.ff)::d) a:=by
     rintro j rfl;refine⟨f.size,f.defers,λA=>?_⟩;simp only[iD];cases l:Nat.beq g A
     .exact f.aF A
     .have:=bt l;subst this;cases x<;>exact i
    obtain⟨s,t⟩:=h
    cases x
    .have t:=t rfl
     cases v
     .exact Or.inl ⟨by simp[Region.wanted,b,c],_,t,u false rfl,e.fW aN⟩
     .exact Or.inr ⟨by simp[Region.wanted,b,c],_,t,u false rfl,e.fW aN⟩
    .have s:=s rfl
     cases v
     .exact Or.inr ⟨by simp[Region.wanted,b,c],_,s,u true rfl,e.fW aN⟩
     .exact Or.inl ⟨by simp[Region.wanted,b,c],_,s,u true rfl,e.fW aN⟩
   .exact h.elim
def YX(g:uK b T){c:Fr}(f:kv n c a)(e:Bx n c m){k:SV->Prop}(h:rd T c m k o.op){w:World}(p:w.heap=m)
 {d:Act->World->Prop}{Q:Exit->Act->World->Prop}(j:∀x v,k x->x.Is v->d (a.put o.dst v) w):o.wp b a w d Q:=by
 obtain⟨x,v,i,q,l⟩:=LQ (P:=b) g f e o h
 unfold Oper.wp
 rw[l w (λr _=>by rw[p])]
 exact j x v i q
def vo(l:uK b T)(s:U1 b G)(c:Array Oper){Q:Exit->Act->World->Prop}{K:World}{H:Act}:
 ∀(jV:List Oper)(d:Fr)(m:E)(k:Fr->E->Prop)(a:Act)(w:World),(∀o∈jV,o∈c.toList)->sN b T G n c.toList jV d m k->kv n d a->Bx n d m->w.heap=m->pK K w->
  mO (zW c.toList) H a->
  (∀g e f,k g f.heap->kv n g e->Bx n g f.heap->pK K f->mO (zW c.toList) H e->Q .normal e f)->wpList b c Q jV a w
 |[],d,m,k,a,w,_,h,y,v,e,r,p,q=>by
  subst e;exact q d a w h y v r p
 |o::jV,d,m,k,a,w,I,h,y,v,e,r,p,q=>by
  simp only[sN]at h;cases hd:sI n o.dst
  .rw[hd]at h;exact h.elim
  .rw[hd]at h;simp only[jP]at h;have z:=Ef hd;have A:∀u,o.dst=some u->u∈zW c.toList:=λu N=>LD N _ (I o aZ);have B:=λS P=>I S (ah _ P);unfold wpList;rcases Jn c y v o h with⟨D,g,t,j,i⟩|⟨D,g,O,j,i⟩
   .rw[ao D];refine .inl ?_;cases J:Lv o.op
    .simp only[J,mU]at t;refine YX l j i t e λV U F C=>?_;exact vo l s c jV _ m k _ w B F (j.put C z) (i.put _ _) e r (p.trans (mO.put A _ _)) q
    .simp only[J,jP]at t;refine QE l s j i o t w e _ _ λW V U f F M L C R=>?_;exact vo l s c jV _ _ k _ f B F (M.put C z) (L.put _ _) rfl (r.trans R) (p.trans (mO.put A _ _)) q
   .rw[ae (by rw[D];simp)];exact vo l s c jV _ m k _ w B O (j.put (x:=.un) rfl z) (i.put _ _) e r (p.trans (mO.put A _ _)) q
end Go.Vc
end
section
namespace Go.Vc
variable{P:Program}{T:TT}{G:List Nat}{n:Nat}
def uy:List Nat->Nat->Nat
 |[],_=>0
 |x::_,0=>x
 |_::r,n+1=>uy r n
def lQ:List Edge->Nat
 |[]=>0
 |e::r=>bif Region.binds .any e then 2^e.on|||lQ r else lQ r
def oE(a:List Nat):List Edge->Nat
 |[]=>0
 |e::r=>bif Region.binds .any e then(2^e.on|||uy a e.on)|||oE a r else oE a r
def lI(a:List Nat):List Oper->List Nat->List Nat->Bool
 |[],[],[]=>true
 |o::d,p::e,b::c=>Nat.beq p (lQ o.after.toList)&&Nat.beq b (oE a o.after.toList)&&lI a d e c
 |_,_,_=>false
def Sj:Op->List Operand
 | .alloc _| .ready _| .waits _=>[]
 | .move x| .assign x| .box _ x| .load _ x| .nilCheck x| .unOp _ _ x| .convert _ _ x| .sliceToArrayPointer _ x| .makeInterface _ x
 | .makeChan _ x| .fieldAddr _ x _| .field _ x _| .range _ x| .next x _| .entry x| .typeAssert x _ _ _| .extract x _| .panic x| .recv _ x _=>[x]
 | .pick c a b=>[c,a,b]
 | .build _ b| .buildSlice _ _ b=>b.toList.map (·.2)
 | .store _ a v| .binOp _ _ a v _| .makeSlice _ a v| .indexAddr _ a v| .index _ a v| .lookup _ a v _| .mapEntry _ a v| .send a v=>[a,v]
 | .makeFunc _ first a=>first.toList++a.toList
 | .makeMap _ r=>r.toList
 | .slice _ x l h m=>[x]++l.toList++h.toList++m.toList
 | .mapUpdate _ m k v| .entryStore _ m k v| .insert _ m k v=>[m,k,v]
 | .call ⟨.value f,a,_⟩| .go ⟨.value f,a,_⟩| .defer ⟨.value f,a,_⟩=>f::a.toList
 | .call ⟨.invoke f _,a,_⟩| .go ⟨.invoke f _,a,_⟩| .defer ⟨.invoke f _,a,_⟩=>f::a.toList
 | .call ⟨.builtin _,a,_⟩| .go ⟨.builtin _,a,_⟩| .defer ⟨.builtin _,a,_⟩=>a.toList
 | .select a _=>(a.flatMap λc=>#[c.chan]++c.send.toArray).toList
def Ut(a:Op):a.operands.toList=Sj a:=by
 cases a<;>try (simp[Op.operands,Sj];done)
 all_goals
  rename_i c
  obtain⟨b,d,e⟩:=c
  cases b<;>simp[Op.operands,Sj,Call.operands]
def JO(d:Nat):List Operand->Bool
 |[]=>false
 | .tmp t::r=>Nat.beq t d||JO d r
 |_::r=>JO d r
def O0(a:List Oper)(o:Oper)(d:Nat):Bool:=
 JO d (Sj o.op)||(match o.guard with
  |some (g,_)=>(match Ln a g with|some t=>Nat.beq t d|none=>false)
  |none=>false)
def OF(a:List Oper)(x y:Oper):Bool:=
 (match x.dst with
  |some d=>!O0 a y d&&(match y.dst with|some e=>!Nat.beq d e|none=>true)
  |none=>true)&&
 (match y.dst with
  |some d=>!O0 a x d
  |none=>true)
def Xz:Op->Bool
 | .select ..=>true
 |_=>false
def zQ(b:List Oper)(i:Nat)(a:Nat)(o:Oper):Nat->List Oper->List Nat->Bool
 |_,[],_=>true
 |_,_,[]=>true
 |j,x::c,p::d=>(Nat.beq j i||Nat.testBit p i||Nat.testBit a j||OF b o x)&&zQ b i a o (j+1) c d
def FJ(a:List Oper)(b:List Nat):Nat->List Oper->List Nat->Bool
 |_,[],_=>true
 |_,_,[]=>true
 |i,o::e,c::d=>!Xz o.op&&(Lv o.op||zQ a i c o 0 a b)&&FJ a b (i+1) e d
def lg(done p i:Nat):Bool:=!(Nat.testBit done i)&&Nat.beq (p&&&done) p
def xr(done:Nat):Nat->List Oper->List Nat->Option Nat
 |_,[],_=>none
 |_,_,[]=>none
 |i,o::a,p::b=>bif lg done p i&&!(Lv o.op)then some i else xr done (i+1) a b
def pX(done:Nat):Nat->List Oper->List Nat->List Nat
 |_,[],_=>[]
 |_,_,[]=>[]
 |i,_::a,p::b=>bif lg done p i then i::pX done (i+1) a b else pX done (i+1) a b
def LZ(m a:E):List (Nat×Nat)->Prop->Prop
 |[],k=>k
 |(b,o)::r,k=>af a b o=af m b o/\LZ m a r k
def DT(a:Nat)(m b:E):List (Nat×List (Nat×Nat))->Prop->Prop
 |[],k=>k
 |(r,c)::L,k=>bif Nat.testBit a r then DT a m b L k else LZ m b c (DT a m b L k)
def OE:List Nat->(Nat->Prop)->Prop
 |[],_=>True
 |[i],f=>f i
 |i::r,f=>f i/\OE r f
def oX(P:Program)(T:TT)(G:List Nat)(n:Nat)(b:List Oper)(c d:List Nat):Nat->Nat->Fr->E->List (Nat×List (Nat×Nat))->(Fr->E->Prop)->Prop
 |0,done,a,m,_,k=>match pX done 0 b c with
  |[]=>k a m
  |_=>False
 |e+1,done,a,m,L,k=>
  match xr done 0 b c with
  |some i=>match Il b i with
   |some o=>bif sI n o.dst then
    gd b a o.guard
     (λa=>rd T a m (λx=>oX P T G n b c d e (done|||2^i) (uw a o.dst x) m ((i,Tm T a o.op)::L) k) o.op)
     (λa=>oX P T G n b c d e (done|||2^i) (uw a o.dst .un) m L k)
    else False
   |none=>False
  |none=>match pX done 0 b c with
   |[]=>k a m
   |h=>OE h λi=>match Il b i with
    |some o=>bif sI n o.dst then
     gd b a o.guard
      (λa=>wr P T G n a m o.dst o.type (λg x f=>DT (uy d i) m f L (oX P T G n b c d e (done|||2^i) (uw g o.dst x) f L k)) o.op)
      (λa=>oX P T G n b c d e (done|||2^i) (uw a o.dst .un) m L k)
     else False
    |none=>False
def nH(r:Nat):∀(a:List Edge),Nat.testBit (lQ a) r=true<->∃e∈a,Region.binds .any e=true/\e.on=r
 |[]=>by simp[lQ]
 |e::a=>by
  have c:=nH r a;simp only[lQ];cases b:Region.binds .any e
  .simp only[mU,c,aW,exists_eq_or_imp,b];simp
  .simp only[jP,UP,bT,c,aW,exists_eq_or_imp,b,true_and,ND,ar]
def yF(b:List Nat)(r:Nat):∀(a:List Edge),Nat.testBit (oE b a) r=true->∃e∈a,Region.binds .any e=true/\(e.on=r\/Nat.testBit (uy b e.on) r=true)
 |[],h=>by simp[oE]at h
 |e::a,h=>by
  have i:=yF b r a;simp only[oE]at h;cases f:Region.binds .any e
  .simp only[f,mU]at h;obtain⟨c,g,d⟩:=i h;exact⟨c,ah _ g,d⟩
  .simp only[f,jP,UP,bT,ND,ar]at h;rcases h with h|h
   .exact⟨e,aZ,f,h⟩
   .obtain⟨c,g,d⟩:=i h;exact⟨c,ah _ g,d⟩
def mj(c:List Nat):∀{e:List Oper}{f a:List Nat},lI c e f a=true->∀(i:Nat)(o:Oper),e[i]? =some o->
 f[i]? =some (lQ o.after.toList)/\uy a i=oE c o.after.toList/\∃b,a[i]? =some b
 |[],[],[],_,i,o,h=>by simp at h
 |x::e,p::f,b::a,h,i,o,d=>by
  simp only[lI,bN]at h;obtain⟨⟨g,j⟩,k⟩:=h;cases i with
  |zero=>
   simp at d;subst d;exact⟨by simp[bt g],by simp[uy,bt j],b,aN⟩
  |succ i=>
   have:=mj c k i o (by simpa using d);simpa[uy]using this
 |[],[],_::_,h,_,_,_=>by simp[lI]at h
 |[],_::_,_,h,_,_,_=>by simp[lI]at h
 |_::_,[],_,h,_,_,_=>by simp[lI]at h
 |_::_,_::_,[],h,_,_,_=>by simp[lI]at h
def JE(d:List Nat):∀{a:List Oper}{c b:List Nat},lI d a c b=true->c.length=a.length/\b.length=a.length
 |[],[],[],_=>⟨rfl,rfl⟩
 |x::a,p::c,e::b,h=>by
  simp only[lI,bN]at h;have:=JE d h.2;simp[this.1,this.2]
 |[],[],_::_,h=>by simp[lI]at h
 |[],_::_,_,h=>by simp[lI]at h
 |_::_,[],_,h=>by simp[lI]at h
 |_::_,_::_,[],h=>by simp[lI]at h
end Go.Vc
end
section
namespace Go.Vc
variable{N a:Nat}{b:Array Bool}
variable{P:Program}{T:TT}{G:List Nat}{n:Nat}
def uc{d:Nat}:∀{a:List Operand},JO d a=false->d∉(a.filterMap λ| .tmp t=>some t|_=>none)
 |[],_=>aN
 |x::r,h=>by
  cases x with
  |tmp t=>
   simp only[JO,bu]at h;have b:=uc h.2;have:t≠d:=λe=>by subst e;simp at h
   simp only[List.filterMap_cons,aW,vP];exact⟨λe=>this e.symm,b⟩
  |const v=>simpa using uc (a:=r) (by simpa[JO]using h)
  |global g=>simpa using uc (a:=r) (by simpa[JO]using h)
  |func f=>simpa using uc (a:=r) (by simpa[JO]using h)
def Ui(a:Array Oper)(g:Nat):Ln a.toList g=(a[g]?).bind (·.dst):=by
 unfold Ln;rw[pW];have e:a.toList[g]? =a[g]? :=aN;rw[e];cases a[g]? <;>rfl
def JC(b:Array Oper){o:Oper}{d:Nat}(h:O0 b.toList o d=false):d∉o.looksAt b:=by
 simp only[O0,bu]at h;unfold Oper.looksAt;rw[Ut,List.mem_append,vP];refine⟨uc h.1,?_⟩;have a:=h.2;cases c:o.guard with
 |none=>simp
 |some p=>
  obtain⟨g,f⟩:=p;rw[c]at a;simp only at a⊢;rw[Ui]at a;cases hd:(b[g]?).bind (·.dst)with
  |none=>simp
  |some t=>
   rw[hd]at a;simp only at a;simp only[Option.toList_some,lU];intro e;subst e;simp at a
def PH(b:Array Oper){x y:Oper}(h:OF b.toList x y=true):x.apart b y=true:=by
 simp only[OF,bN]at h;obtain⟨a,d⟩:=h;unfold Oper.apart;simp only[bN];constructor
 .cases i:x.dst with
  |none=>rfl
  |some f=>
   rw[i]at a;simp only[bN,iX]at a⊢;refine⟨?_,?_⟩
   .have:=JC b a.1;simpa using this
   .have c:=a.2;cases e:y.dst with
    |none=>simp
    |some j=>
     rw[e]at c;simp only[iX]at c;simp only[qA,ne_eq,DZ];intro g;subst g;simp at c
 .cases e:y.dst with
  |none=>rfl
  |some f=>
   rw[e]at d;simp only[iX]at d⊢;have:=JC b d;simpa using this
def DB(i:List Oper)(a d:Nat)(o:Oper):∀{g:List Oper}{k:List Nat}{c:Nat},zQ i a d o c g k=true->∀(j:Nat)(x:Oper)(p:Nat),g[j]? =some x->k[j]? =some p->
 c+j=a\/Nat.testBit p a=true\/Nat.testBit d (c+j)=true\/OF i o x=true
 |[],_,_,_,j,x,p,h,_=>by simp at h
 |_::_,[],_,_,j,x,p,_,h=>by simp at h
 |y::g,q::k,c,h,j,x,p,f,e=>by
  simp only[zQ,bN,bT]at h;obtain⟨b,m⟩:=h;cases j with
  |zero=>
   simp at f e;subst f;subst e;rcases b with((b|b)|b)|b
   .exact Or.inl (by simpa using bt b)
   .exact Or.inr (Or.inl b)
   .exact Or.inr (Or.inr (Or.inl (by simpa using b)))
   .exact Or.inr (Or.inr (Or.inr b))
  |succ j=>
   have:=DB i a d o m j x p (by simpa using f) (by simpa using e);have l:c+1+j=c+(j+1):=V;rw[l]at this;exact this
def xg(d:List Oper)(j:List Nat):∀{i:List Oper}{e:List Nat}{c:Nat},FJ d j c i e=true->∀(a:Nat)(o:Oper)(b:Nat),i[a]? =some o->e[a]? =some b->
 Xz o.op=false/\(Lv o.op=true\/zQ d (c+a) b o 0 d j=true)
 |[],_,_,_,a,o,b,h,_=>by simp at h
 |_::_,[],_,_,a,o,b,_,h=>by simp at h
 |y::i,q::e,c,h,a,o,b,g,f=>by
  simp only[FJ,bN,bT,iX]at h;obtain⟨⟨l,m⟩,n⟩:=h;cases a with
  |zero=>simp at g f;subst g;subst f;exact⟨l,by simpa using m⟩
  |succ a=>
   have:=xg d j n a o b (by simpa using g) (by simpa using f);have k:c+1+a=c+(a+1):=V;rw[k]at this;exact this
def JB(p d:Nat):Nat.beq (p&&&d) p=true<->∀r,Nat.testBit p r=true->Nat.testBit d r=true:=by
 constructor
 .intro h r a;have e:=bt h;rw[<-e,Nat.testBit_and]at a;simp only[bN]at a;exact a.2
 .intro h;have:p&&&d=p:=by
   apply Nat.eq_of_testBit_eq;intro r;rw[Nat.testBit_and];cases a:Nat.testBit p r
   .rfl
   .simp[h r a]
  rw[this];simp
structure Ow(N done:Nat)(b:Array Bool):Prop where
 size:b.size=N
 Yr:∀a,b.getD a false=Nat.testBit done a
def Ow.un{done:Nat}(h:Ow N done b)(c:a<N):b.getD a true=Nat.testBit done a:=by
 rw[<-h.Yr a];have:a<b.size:=by rw[h.size];exact c
 simp[this]
def Ow.set{done:Nat}(h:Ow N done b)(c:a<N):Ow N (done|||2^a) (b.setIfInBounds a true):=by
 refine⟨by simp[h.size],λj=>?_⟩;have d:a<b.size:=by rw[h.size];exact c
 rw[UP,ND];by_cases e:a=j
 .subst e;simp[d]
 .rw[getD_set_ne false e,h.Yr j];simp[e]
def It(d:Array Oper){q h r:List Nat}(n:lI h d.toList q r=true){done:Nat}(g:Ow d.size done b)(a:Nat):
 a∈Region.ready .any d b<->∃o p,d[a]? =some o/\q[a]? =some p/\lg done p a=true:=by
 rw[mem_ready]
 constructor
 .rintro⟨m,o,c,s⟩
  have k:a<d.size:=(Array.getElem?_eq_some_iff.1 c).1
  have l:=(mj h n a o (by simpa using c)).1
  refine⟨o,_,c,l,?_⟩
  simp only[lg,bN,iX]
  refine⟨by rw[<-g.un k];exact m,(JB _ _).2 λt e=>?_⟩
  obtain⟨f,j,i,rfl⟩:=(nH t _).1 e
  rw[<-g.Yr]
  exact s f (Array.mem_toList_iff.1 j) i
 .rintro⟨o,p,c,l,e⟩
  have k:a<d.size:=(Array.getElem?_eq_some_iff.1 c).1
  have m:=(mj h n a o (by simpa using c)).1
  rw[l]at m
  simp only[DZ]at m
  subst m
  simp only[lg,bN,iX]at e
  refine⟨by rw[g.un k];exact e.1,o,c,λf j i=>?_⟩
  rw[g.Yr]
  exact(JB _ _).1 e.2 f.on ((nH _ _).2 ⟨f,Array.mem_toList_iff.2 j,i,rfl⟩)
def LF(done:Nat):∀{d:List Oper}{e:List Nat}{b a:Nat},a∈pX done b d e<->∃j o p,a=b+j/\d[j]? =some o/\e[j]? =some p/\lg done p a=true
 |[],_,_,_=>by simp[pX]
 |_::_,[],_,_=>by simp[pX]
 |x::d,q::e,b,a=>by
  have h:=LF done (d:=d) (e:=e) (b:=b+1) (a:=a);have k:(∃j o p,a=b+j/\(x::d)[j]? =some o/\(q::e)[j]? =some p/\lg done p a=true)<->
   ((a=b/\lg done q b=true)\/∃j o p,a=b+1+j/\d[j]? =some o/\e[j]? =some p/\lg done p a=true):=by
   constructor
   .rintro⟨j,o,p,rfl,g,f,c⟩
    cases j with
    |zero=>simp at f;subst f;exact Or.inl ⟨rfl,by simpa using c⟩
    |succ j=>exact Or.inr ⟨j,o,p,V,by simpa using g,by simpa using f,by rwa[show b+(j+1)=b+(j+1)from rfl]at c⟩
   .rintro(⟨rfl,c⟩|⟨j,o,p,rfl,g,f,c⟩)
    .exact⟨0,x,q,rfl,aN,aN,c⟩
    .exact⟨j+1,o,p,V,by simpa using g,by simpa using f,c⟩
  rw[k,<-h];simp only[pX];cases c:lg done q b
  .simp
  .simp
def Jw(done:Nat):∀{d:List Oper}{e:List Nat}{c a:Nat},xr done c d e=some a->∃j o p,a=c+j/\d[j]? =some o/\e[j]? =some p/\lg done p a=true/\Lv o.op=false
 |[],_,_,_,h=>by simp[xr]at h
 |_::_,[],_,_,h=>by simp[xr]at h
 |x::d,q::e,c,a,h=>by
  simp only[xr]at h;cases b:(lg done q c&&!(Lv x.op))
  .rw[b]at h;obtain⟨j,o,p,rfl,f,g,i,k⟩:=Jw done h;exact⟨j+1,o,p,V,by simpa using f,by simpa using g,i,k⟩
  .rw[b]at h;simp at h;subst h;simp only[bN,iX]at b;exact⟨0,x,q,rfl,aN,aN,b.1,b.2⟩
def NJ:∀{l:List Nat}{f:Nat->Prop},OE l f->∀a∈l,f a
 |[a],f,h,j,b=>by simp at b;subst b;exact h
 |a::c::r,f,h,j,b=>by
  rcases List.mem_cons.1 b with rfl|b
  .exact h.1
  .exact NJ h.2 j b
def Ma{m b:E}:∀{l:List (Nat×Nat)}{k:Prop},LZ m b l k->k/\∀q∈l,af b q.1 q.2=af m q.1 q.2
 |[],k,h=>⟨h,aN⟩
 |(e,o)::r,k,h=>by
  obtain⟨c,d⟩:=Ma h.2;refine⟨c,λq a=>?_⟩;rcases List.mem_cons.1 a with rfl|a
  .exact h.1
  .exact d q a
def Fx{c:Nat}{m g:E}:∀{L:List (Nat×List (Nat×Nat))}{k:Prop},DT c m g L k->k/\∀x∈L,Nat.testBit c x.1=false->∀q∈x.2,af g q.1 q.2=af m q.1 q.2
 |[],k,h=>⟨h,aN⟩
 |(r,l)::L,k,h=>by
  simp only[DT]at h;cases f:Nat.testBit c r
  .rw[f]at h;obtain⟨i,j⟩:=Ma h;obtain⟨d,e⟩:=Fx i;refine⟨d,λx a b=>?_⟩;rcases List.mem_cons.1 a with rfl|a
   .exact j
   .exact e x a b
  .rw[f]at h;obtain⟨d,e⟩:=Fx h;refine⟨d,λx a b=>?_⟩;rcases List.mem_cons.1 a with rfl|a
   .rw[f]at b;cases b
   .exact e x a b
def ZV(L:List (Nat×List (Nat×Nat)))(b:List (Nat×(World->Prop))):Prop:=
 ∀x∈b,(∀w,x.2 w)\/∃(a:List (Nat×Nat))(c:Nat×Nat->Option Value),(x.1,a)∈L/\x.2=λw=>∀q∈a,af w.heap q.1 q.2=c q
end Go.Vc
end
section
namespace Go.Vc
variable{a:Program}{T:TT}{G:List Nat}{n:Nat}
def Po(hT:uK a T)(hG:U1 a G)(b:Array Oper)(U f:List Nat)(z:lI f b.toList U f=true)(an:FJ b.toList U 0 b.toList f=true)
 {ag:Exit->Act->World->Prop}(hQ:∀N g w,¬ag (.panic N) g w){w0:World}{a0:Act}:
 ∀(F done:Nat)(D:Fr)(ac:E)(L:List (Nat×List (Nat×Nat)))(B:Fr->E->Prop)(M:List (Nat×(World->Prop)))(c:Array Bool)(g:Act)(w:World),
  oX a T G n b.toList U f F done D ac L B->ZV L M->Ow b.size done c->HJ (λi K=>Nat.testBit (uy f i) K) c->kv n D g->Bx n D ac->w.heap=ac->pK w0 w->
  mO (zW b.toList) a0 g->
  (∀s d k,B s k.heap->kv n s d->Bx n s k.heap->pK w0 k->mO (zW b.toList) a0 d->ag .normal d k)->
  vM a .any b ag (λi K=>Nat.testBit (uy f i) K) M F c g w:=by
 have H:UY .any b (λi K=>Nat.testBit (uy f i) K):=by
  intro i K o d p;have X:=(mj f z i o (by simpa using d)).2.1;simp only[X]at p;obtain⟨e,he,hb,h⟩:=yF f K _ p;exact⟨e,Array.mem_toList_iff.1 he,hb,h⟩
 have aF:=JE f z
 have av:∀(j:Nat)(o:Oper) cs r,b[j]? =some o->o.op≠.select cs r:=by
  intro j o cs r d e;obtain⟨_,_,bj,ay⟩:=mj f z j o (by simpa using d);have:=(xg _ _ an j o bj (by simpa using d) ay).1;rw[e]at this;simp[Xz]at this
 have al:∀{done:Nat}{c:Array Bool},Ow b.size done c->∀i,i∈Region.ready .any b c<->i∈pX done 0 b.toList U:=by
  intro done c hD i;rw[It b z hD i,LF];constructor
  .rintro⟨o,R,d,O,p⟩;exact⟨i,o,R,V,by simpa using d,O,p⟩
  .rintro⟨j,o,R,e,d,O,p⟩;have:i=j:=V;subst this;exact⟨o,R,by simpa using d,O,p⟩
 have au:∀{done:Nat}{c:Array Bool},Ow b.size done c->pX done 0 b.toList U=[]->Region.ready .any b c=[]:=by
  intro done c hD h;apply List.eq_nil_iff_forall_not_mem.2;intro i m;rw[al hD i,h]at m;cases m
 intro F
 induction F with
 |zero=>
  intro done D ac L B M c g w h hL hD hC hR hB hw hs hk hq
  subst hw
  simp only[oX]at h
  split at h
  .rename_i h0
   exact⟨au hD h0,hq D g w h hR hB hs hk⟩
  .exact h.elim
 |succ F Q=>
  intro done D ac L B M c g w h hL hD hC hR hB hw hs hk hq
  subst hw
  simp only[oX]at h
  split at h
  · -- a reading is taken first
   rename_i i m
   obtain⟨j,o,R,e,d,O,p,aD⟩:=Jw done m
   have:i=j:=V
   subst this
   rw[pW,d]at h
   simp only at h
   have A:b[i]? =some o:=by simpa using d
   have aa:i<b.size:=(Array.getElem?_eq_some_iff.1 A).1
   have ab:i∈Region.ready .any b c:=(It b z hD i).2 ⟨o,R,A,O,p⟩
   cases hd:sI n o.dst
   .rw[hd]at h;exact h.elim
   .rw[hd]at h
    simp only[jP]at h
    have Y:=Ef hd
    have Z:∀C,o.dst=some C->C∈zW b.toList:=λC ai=>LD ai _ (gJ d)
    have aq:∀j I,b[j]? =some I->j≠i->c.getD j true=false->(∀e∈I.after,Region.binds .any e=true->e.on≠i)->o.apart b I=true:=by
     intro j I ak aA ar aB;have az:j<b.size:=(Array.getElem?_eq_some_iff.1 ak).1;obtain⟨_,aE,bi,ap⟩:=mj f z i o d;rcases(xg _ _ an i o bi d ap).2 with t|t
     .rw[aD]at t;cases t
     .have W:=(mj f z j I (by simpa using ak)).1;have u:uy f i=bi:=by
       have:∀(l:List Nat)(i r:Nat),l[i]? =some r->uy l i=r:=by
        intro l;induction l with
        |nil=>intro i r h;simp at h
        |cons ad l Q=>intro i r h;cases i with
         |zero=>simpa[uy]using h
         |succ i=>simpa[uy]using Q i r (by simpa using h)
       exact this f i bi ap
      rcases DB _ _ _ _ t j I _ (by simpa using ak) W with e|e|e|e
      .exact absurd V aA
      .rw[bW]at e;obtain⟨q,y,hb,J⟩:=(nH i _).1 e;exact absurd J (aB q (Array.mem_toList_iff.1 y) hb)
      .rw[bW,<-u]at e;have:=xF H hC ab e;rw[hD.Yr]at this;rw[hD.un az,this]at ar;cases ar
      .exact PH b e
    rcases Jn b hR hB o h with⟨J,s,am,y,u⟩|⟨J,s,aj,y,u⟩
    .obtain⟨ad,aw,hx,hv,aC⟩:=LQ (P:=a) hT y u o am
     let ax:World->Prop:=λk=>∀q∈Tm T s o.op,af k.heap q.1 q.2=af w.heap q.1 q.2
     refine HG (S:=ax) H A av (λN g w hc=>absurd hc (hQ _ _ _)) F c g w hC aq ab (F:=aw) (Or.inl ⟨J,λk l=>aC k l⟩) (λq _=>rfl) ?_
     refine Q _ _ _ _ B _ _ _ w hx ?_ (hD.set aa) (hC.set H ab) (y.put hv Y) (u.put _ _) rfl hs (hk.trans (mO.put Z _ _)) hq
     intro W l
     rcases List.mem_cons.1 l with rfl|l
     .exact Or.inr ⟨_,λq=>af w.heap q.1 q.2,aZ,rfl⟩
     .rcases hL W l with t|⟨As,N,X,h2⟩
      .exact Or.inl t
      .exact Or.inr ⟨As,N,ah _ X,h2⟩
    .refine HG (S:=λ_=>True) H A av (λN g w hc=>absurd hc (hQ _ _ _)) F c g w hC aq ab (F:=undef) (Or.inr ⟨J,rfl⟩) trivial ?_
     refine Q _ _ _ _ B _ _ _ w aj ?_ (hD.set aa) (hC.set H ab) (y.put (x:=.un) rfl Y) (u.put _ _) rfl hs (hk.trans (mO.put Z _ _)) hq
     intro W l
     rcases List.mem_cons.1 l with rfl|l
     .exact Or.inl λ_=>trivial
     .exact hL W l
  .split at h
   .rename_i h0
    exact QD (au hD h0) (hq D g w h hR hB hs hk) _
   .rename_i rs ax
    have ar:=NJ h
    refine RE ?_ ?_
    .intro e
     apply ax
     cases I:pX done 0 b.toList U with
     |nil=>rfl
     |cons ad xs=>
      have:ad∈Region.ready .any b c:=(al hD ad).2 (by rw[I];exact aZ)
      rw[e]at this
      cases this
    .intro i m
     have I:=ar i ((al hD i).1 m)
     obtain⟨o,R,A,O,p⟩:=(It b z hD i).1 m
     have d:b.toList[i]? =some o:=by simpa using A
     have aa:i<b.size:=(Array.getElem?_eq_some_iff.1 A).1
     rw[pW,d]at I
     simp only at I
     cases hd:sI n o.dst
     .rw[hd]at I;exact I.elim
     .rw[hd]at I
      simp only[jP]at I
      have Y:=Ef hd
      have Z:∀C,o.dst=some C->C∈zW b.toList:=λC ai=>LD ai _ (gJ d)
      unfold wpOp
      simp only[A]
      rcases Jn b hR hB o I with⟨J,s,am,y,u⟩|⟨J,s,aj,y,u⟩
      .rw[ao J]
       refine .inl (QE hT hG y u o am w rfl _ _ λaD ad aw k hx aq ap hv az=>?_)
       obtain⟨aA,aB⟩:=Fx hx
       refine⟨λW l aC ab=>?_,Q _ _ _ L B M _ _ k aA hL (hD.set aa) (hC.set H m) (aq.put hv Y) (ap.put _ _) rfl (hs.trans az) (hk.trans (mO.put Z _ _)) hq⟩
       rcases hL W l with t|⟨As,N,X,h2⟩
       .exact t k
       .rw[h2]at ab⊢
        intro q ak
        rw[aB _ X aC q ak,ab q ak]
      .rw[ae (by rw[J];simp)]
       exact⟨λW l _ ab=>ab,Q _ _ _ L B M _ _ w aj hL (hD.set aa) (hC.set H m) (y.put (x:=.un) rfl Y) (u.put _ _) rfl hs (hk.trans (mO.put Z _ _)) hq⟩
end Go.Vc
end
section
namespace Go.Vc
variable{M:List Nat}{a:Act}{s:Sh}{y:s.ty}
variable{P:Program}{T:TT}{G:List Nat}{b:Nat}
structure Ps where
 Un:List (Nat×List (Nat×Sh))
 Vm:List (Nat×List (Nat×Sh))
 eC:List (Nat×List Nat)
def lk{α:Type}:List (Nat×α)->Nat->Option α
 |[],_=>none
 |(u,x)::r,t=>bif Nat.beq u t then some x else lk r t
def DH:Code->Option Nat
 | .region id _ _=>some id
 | .seq a b=>match DH a with
  |some i=>some i
  |none=>DH b
 | .cond _ a b=>match DH a with
  |some i=>some i
  |none=>DH b
 | .block _ c=>DH c
 | .loop c=>DH c
 | .scope c=>DH c
 |_=>none
def Wg{α:Type}(l:List (Nat×α))(c:Code):Option α:=
 match DH c with
 |some i=>lk l i
 |none=>none
def HO:List (Nat×Sh)->Type
 |[]=>E->Prop
 |(_,s)::r=>s.ty->HO r
def OB:List (Nat×Sh)->Type
 |[]=>E->Nat
 |(_,s)::r=>s.ty->OB r
def Rc:(s:Sh)->SV->Option s.ty
 | .I,.c (.i b)=>some b
 | .U k,.c (.u c b)=>if k=c then some b else none
 | .T,.c (.t c)=>some c
 | .T,.tt=>some true
 | .T,.ff=>some false
 | .S,.c (.s x)=>some x
 | .P,.c (.p c o)=>some (c,o)
 | .P,.c (.bp _ c o)=>some (c,o)
 | .F,.c (.fn f a d)=>some (f,a,d)
 | .F,.c (.fv q)=>some q
 | .M,.c (.mp c)=>some c
 |_,_=>none
def HR:(l:List (Nat×Sh))->HO l->Fr->E->Prop
 |[],I,_,m=>I m
 |(t,s)::r,I,a,m=>match Rc s (iD a t)with
  |some x=>HR r (I x) a m
  |none=>False
def OG:(l:List (Nat×Sh))->HO l->OB l->Fr->E->Nat->Prop
 |[],I,μ,_,m,N=>I m/\μ m<N
 |(t,s)::r,I,μ,a,m,N=>match Rc s (iD a t)with
  |some x=>OG r (I x) (μ x) a m N
  |none=>False
def PE:(l:List (Nat×Sh))->HO l->Fr->(Fr->(E->Prop)->Prop)->Prop
 |[],I,a,k=>k a I
 |(t,s)::r,I,a,k=>∀x:s.ty,PE r (I x) ((t,.c (s.mk x))::a) k
def PF:(l:List (Nat×Sh))->HO l->OB l->Fr->(Fr->(E->Prop)->(E->Nat)->Prop)->Prop
 |[],I,μ,a,k=>k a I μ
 |(t,s)::r,I,μ,a,k=>∀x:s.ty,PF r (I x) (μ x) ((t,.c (s.mk x))::a) k
def nP:List Nat->Fr->Fr
 |[],a=>a
 |t::r,a=>(t,.fW)::nP r a
def oU:Code->List Nat
 | .region _ b _=>zW b.toList
 | .seq a b=>oU a++oU b
 | .cond _ a b=>oU a++oU b
 | .block _ c=>oU c
 | .loop c=>oU c
 |_=>[]
def qe(M:List Nat):List (Nat×Sh)->Bool
 |[]=>true
 |(t,_)::r=>vy t M&&qe M r
def pE(x y:SV)(k:Prop):Prop:=x=y/\k
def aC(x:SV)(k:Prop):pE x x k=k:=by simp[pE]
def lH(A:Ps)(c:Code):List Nat:=
 match Wg A.eC c with
 |some K=>K
 |none=>[]
def DC(b:Nat)(K:List Nat):Fr->List Nat
 |[]=>[]
 |(q,_)::r=>bif Nat.ble b q&&!vy q K then q::DC b K r else DC b K r
def uN(b:Nat)(K:List Nat)(a:Fr):Fr:=nP (DC b K a) a
def UT(a b:Fr):List Nat->Prop->Prop
 |[],k=>k
 |q::K,k=>pE (iD b q) (iD a q) (UT a b K k)
def LP(c:Fr):Op->Option SV
 | .move x| .assign x=>match ev c x with
  | .fW=>none
  |y=>some y
 | .binOp d _ x y _=>match ev c x,ev c y with
  | .c (.i a),.c (.i b)=>match d with
   | .eql=>some (.c (.t (a==b)))
   | .neq=>some (.c (.t (a !=b)))
   | .lss=>some (.c (.t (decide (a<b))))
   | .leq=>some (.c (.t (decide (a<=b))))
   | .gtr=>some (.c (.t (decide (a>b))))
   | .geq=>some (.c (.t (decide (a>=b))))
   |_=>none
  |_,_=>none
 |_=>none
def rq(b:Nat):List Oper->Fr->Option Fr
 |[],a=>some a
 |o::r,a=>bif sI b o.dst then
  match o.guard with
  |none=>match LP a o.op with
   |some x=>rq b r (uw a o.dst x)
   |none=>none
  |some _=>none
  else none
def Wj(A:Ps)(b t:Nat):Code->Fr->Option Bool
 | .region _ e false,d=>match rq b e.toList d with
  |some a=>lM (iD a t)
  |none=>none
 | .seq (.region _ e false) (.cond (.tmp u) .skip c),d=>
  match Wg A.Vm (.cond (.tmp u) .skip c)with
  |some _=>none
  |none=>bif Nat.beq u t&&vy t (oU c)then
   match rq b e.toList d with
   |some a=>match lM (iD a t),Wj A b t c a with
    |some x,some y=>some (x||y)
    |_,_=>none
   |none=>none
   else none
 |_,_=>none
def YT(A:Ps)(b:Nat)(d:Operand)(a c:Code)(e:Fr):Option (Nat×Bool):=
 match d,a with
 | .tmp t,.skip=>bif vy t (oU c)then
  match Wj A b t c e with
  |some y=>some (t,y)
  |none=>none
  else none
 |_,_=>none
def uV(a:Fr)(c:Operand)(v:SV):Fr:=
 match c with
 | .tmp t=>(t,v)::a
 |_=>a
def Vw:List Oper->List Nat
 |[]=>[]
 |o::r=>lQ o.after.toList::Vw r
def TN:List Nat->List Oper->List Nat
 |a,[]=>a
 |a,o::r=>TN (a++[oE a o.after.toList]) r
def qH:Code->Bool
 | .region _ b c=>!c||(lI (TN [] b.toList) b.toList (Vw b.toList) (TN [] b.toList)&&FJ b.toList (Vw b.toList) 0 b.toList (TN [] b.toList))
 | .seq a b=>qH a&&qH b
 | .cond _ a b=>qH a&&qH b
 | .block _ c=>qH c
 | .loop c=>qH c
 |_=>true
def vc(P:Program)(T:TT)(G:List Nat)(b:Nat)(A:Ps):Code->Fr->E->(Exit->Fr->E->Prop)->Prop
 | .skip,c,m,Q=>Q .normal c m
 | .region id d e,c,m,Q=>
  bif e then oX P T G b d.toList (Vw d.toList) (TN [] d.toList) d.toList.length 0 c m [] (λc m=>Q .normal c m)
  else sN P T G b d.toList d.toList c m (λc m=>Q .normal c m)
 | .seq a g,c,m,Q=>match Wg A.Vm g with
  |none=>vc P T G b A a c m λ
   | .normal,e,d=>vc P T G b A g e d Q
   |h,e,d=>Q h e d
  |some l=>bif qe (oU a) l then∃K:HO l,(vc P T G b A a c m λ
   | .normal,e,d=>UT c e (lH A g) (HR l K e d)
   |h,e,d=>Q h e d)/\
   (PE l K (nP (oU a) (uN b (lH A g) c)) λe f=>∀d,f d->vc P T G b A g e d Q)else False
 | .cond f a g,c,m,Q=>match ev c f with
  | .tt=>vc P T G b A a c m Q
  | .ff=>vc P T G b A g c m Q
  | .c (.t x)=>match YT A b f a g c with
   |some (t,y)=>Q .normal ((t,.c (.t (x||y)))::nP (oU g) c) m
   |none=>(x=true->vc P T G b A a (uV c f .tt) m Q)/\(x=false->vc P T G b A g (uV c f .ff) m Q)
  |_=>False
 | .block id f,c,m,Q=>vc P T G b A f c m λ
  | .exit i,e,d=>bif Nat.beq i id then Q .normal e d else Q (.exit i) e d
  |h,e,d=>Q h e d
 | .loop f,c,m,Q=>match Wg A.Un f with
  |none=>False
  |some l=>bif qe (oU f) l then∃(I:HO l)(μ:OB l),HR l I c m/\
   (PF l I μ (nP (oU f) (uN b (lH A f) c)) λe j μ'=>∀d,j d->vc P T G b A f e d λ
    | .normal,g,i=>UT c g (lH A f) (OG l I μ g i (μ' d))
    |h,g,i=>Q h g i)else False
 | .exit id,c,m,Q=>Q (.exit id) c m
 | .ret,c,m,Q=>Q .ret c m
 |_,_,_,_=>False
def mO.mono{b:List Nat}{c:Act}(h:mO M a c)(e:∀t∈M,t∈b):mO b a c:=λt f=>h t λd=>f (e t d)
def Cj:∀(M:List Nat)(a:Fr)(t:Nat),(t∈M/\iD (nP M a) t=.fW)\/(t∉M/\iD (nP M a) t=iD a t)
 |[],_,_=>Or.inr ⟨aN,rfl⟩
 |u::M,a,t=>by
  simp only[nP,iD];cases d:Nat.beq u t
  .have f:u≠t:=λe=>by subst e;simp at d
   rcases Cj M a t with⟨b,c⟩|⟨b,c⟩
   .exact Or.inl ⟨ah _ b,c⟩
   .exact Or.inr ⟨by simp only[aW,vP];exact⟨λe=>f e.symm,b⟩,c⟩
  .have:=bt d;subst this;exact Or.inl ⟨aZ,rfl⟩
def Ay{d:Fr}{c:Act}(g:kv b d a)(j:c.tmps.size=b)(hd:c.defers=[])(i:mO M a c):kv b (nP M d) c:=by
 refine⟨j,hd,λt=>?_⟩;rcases Cj M d t with⟨_,h⟩|⟨e,f⟩
 .rw[h];trivial
 .rw[f,i t e];exact g.aF t
def kv.nP{c:Fr}{a:Act}(d:kv b c a):∀(M:List Nat),kv b (nP M c) a
 |[]=>d
 |t::M=>(kv.nP d M).fW t
def Bx.nP{a:Fr}{m:E}(h:Bx b a m):∀(M:List Nat),Bx b (nP M a) m
 |[]=>h
 |t::M=>(Bx.nP h M).fW aN
def NO{K:List Nat}{q:Nat}(d:b<=q)(c:q∉K):∀{a:Fr},q∈DC b K a\/iD a q=.fW
 |[]=>Or.inr rfl
 |(u,x)::r=>by
  simp only[DC,iD];cases i:Nat.beq u q
  .rcases NO d c (a:=r)with h|h
   .left;cases(Nat.ble b u&&!vy u K)
    .exact h
    .exact ah _ h
   .exact Or.inr h
  .have:=bt i;subst this;have f:vy u K=false:=by
    cases g:vy u K
    .rfl
    .exact absurd (Ii g) c
   have e:Nat.ble b u=true:=X0 d;simp[f,e]
def Lf{b c:Fr}:∀{K:List Nat}{k:Prop},UT b c K k->(∀q∈K,iD c q=iD b q)/\k
 |[],k,h=>⟨aN,h⟩
 |q::K,k,h=>by
  obtain⟨d,e⟩:=Lf h.2;refine⟨λu a=>?_,e⟩;rcases List.mem_cons.1 a with rfl|a
  .exact h.1
  .exact d u a
def Bx.lH{K:List Nat}{c j:Fr}{v p:E}(h:Bx b c v)(r:Bx b j p)(s:∀q∈K,iD j q=iD c q):Bx b (Vc.nP M (uN b K c)) p:=by
 have i:∀{q d e l},lZ (Vc.nP M (uN b K c)) q d e l->lZ c q d e l/\lZ j q d e l:=by
  intro q d e l a;have f:iD (Vc.nP M (uN b K c)) q=iD (uN b K c) q\/iD (Vc.nP M (uN b K c)) q=.fW:=by
   rcases Cj M (uN b K c) q with⟨_,h⟩|⟨_,h⟩
   .exact Or.inr h
   .exact Or.inl h
  unfold lZ at a;rcases f with f|f
  .rw[f]at a;unfold uN at a;rcases Cj (DC b K c) c q with⟨_,g⟩|⟨k,g⟩
   .rw[g]at a;simp at a
   .rw[g]at a;have t:b<=q:=h.key q d e l a;by_cases o:q∈K
    .refine⟨a,?_⟩;unfold lZ;rw[s q o];exact a
    .rcases NO (b:=b) t o (a:=c)with m|m
     .exact absurd m k
     .rw[m]at a;simp at a
  .rw[f]at a;simp at a
 exact⟨λq d e l a=>r.D q d e l (i a).2,λq w d e l m o u t k g=>h.OL q w d e l m o u t (i k).1 (i g).1,λq d e l a=>h.key q d e l (i a).1⟩
def SL{x:SV}(h:Rc s x=some y):x.jQ=true/\x.v=(s.mk y).v:=by
 unfold Rc at h;split at h<;>first|(simp at h;subst h;exact⟨rfl,rfl⟩)|skip
 .split at h
  .rename_i a;subst a;simp at h;subst h;exact⟨rfl,rfl⟩
  .simp at h
 .simp at h
def LX{d cA:Fr}{t:Nat}(g:kv b d a)(c:kv b cA a)(h:Rc s (iD d t)=some y):kv b ((t,.c (s.mk y))::cA) a:=by
 refine⟨c.size,c.defers,λu=>?_⟩;simp only[iD];cases i:Nat.beq t u
 .exact c.aF u
 .have:=bt i;subst this;have e:=g.aF t;obtain⟨j,k⟩:=SL h;have f:=e.eq j;show _=_;rw[f,k];rfl
def Tx:(l:List (Nat×Sh))->HO l->OB l->Fr->Fr->(E->Prop)->(E->Nat)->Prop
 |[],I,μ,b,c,a,μ'=>c=b/\a=I/\μ'=μ
 |(t,s)::r,I,μ,b,c,a,μ'=>∃x:s.ty,Tx r (I x) (μ x) ((t,.c (s.mk x))::b) c a μ'
def NK:∀{l:List (Nat×Sh)}{I:HO l}{μ:OB l}{b:Fr}{k:Fr->(E->Prop)->(E->Nat)->Prop},PF l I μ b k->∀{fr' I' μ'},Tx l I μ b fr' I' μ'->k fr' I' μ'
 |[],_,_,_,_,h,_,_,_,a=>by obtain⟨rfl,rfl,rfl⟩:=a;exact h
 |(t,s)::r,_,_,_,_,h,_,_,_,a=>by obtain⟨x,a⟩:=a;exact NK (h x) a
def Sh.Uq(s:Sh)(x:s.ty)(b e:Nat)(l:List Ce):SV.c (s.mk x)≠.box b e l/\SV.c (s.mk x)≠.zR b e l:=⟨aN,aN⟩
def NN{a:Act}{g:Fr}(i:kv b g a):∀{l:List (Nat×Sh)}{I:HO l}{μ:OB l}{cA:Fr}{m:E}{N:Nat},kv b cA a->Bx b cA m->OG l I μ g m N->
 ∃c d μ',Tx l I μ cA c d μ'/\kv b c a/\Bx b c m/\d m/\μ' m<N
 |[],I,μ,cA,_,_,f,e,h=>⟨cA,I,μ,⟨rfl,rfl,rfl⟩,f,e,h.1,h.2⟩
 |(t,s)::r,I,μ,cA,m,N,f,e,h=>by
  simp only[OG]at h;split at h
  .rename_i x p;obtain⟨c,d,μ',j,k,n,o⟩:=NN i (LX i f p) (e.fW (s.Uq x)) h;exact⟨c,d,μ',⟨x,j⟩,k,n,o⟩
  .exact h.elim
def NM{a:Act}{g:Fr}(i:kv b g a):∀{l:List (Nat×Sh)}{I:HO l}{μ:OB l}{cA:Fr}{m:E},kv b cA a->Bx b cA m->HR l I g m->
 ∃c d μ',Tx l I μ cA c d μ'/\kv b c a/\Bx b c m/\d m
 |[],I,μ,cA,_,f,e,h=>⟨cA,I,μ,⟨rfl,rfl,rfl⟩,f,e,h⟩
 |(t,s)::r,I,μ,cA,m,f,e,h=>by
  simp only[HR]at h;split at h
  .rename_i x o;obtain⟨c,d,μ',j,k,n⟩:=NM i (LX i f o) (e.fW (s.Uq x)) h;exact⟨c,d,μ',⟨x,j⟩,k,n⟩
  .exact h.elim
def PI{a:Act}{i:Fr}(j:kv b i a):∀{l:List (Nat×Sh)}{I:HO l}{cA:Fr}{m:E}{k:Fr->(E->Prop)->Prop},kv b cA a->Bx b cA m->HR l I i m->PE l I cA k->
 ∃c g,k c g/\kv b c a/\Bx b c m/\g m
 |[],I,cA,_,_,e,d,h,f=>⟨cA,I,f,e,d,h⟩
 |(t,s)::r,I,cA,m,k,e,d,h,f=>by
  simp only[HR]at h;split at h
  .rename_i x n;exact PI j (LX j e n) (d.fW (s.Uq x)) h (f x)
  .exact h.elim
def Tj{l:Code}{Q:Exit->Act->World->Prop}(b:Nat->Act->World->Prop)
 (r:∀N a w,b N a w->l.wp P (Exit.then (λg k=>∃d,d<N/\b d g k) Q) a w):∀N a w,b N a w->(Code.loop l).wp P Q a w:=by
 have q:∀N a w,b N a w->∃M,b M a w/\∀c,c<M->¬b c a w:=by
  intro N;induction N using Nat.strongRecOn with
  |_ N j=>
   intro a w h;by_cases e:∃c,c<N/\b c a w
   .obtain⟨c,f,i⟩:=e;exact j c f a w i
   .exact⟨N,h,λc i f=>e ⟨c,i,f⟩⟩
 intro N a w o
 classical
 let μ:Act->World->Nat:=λa w=>if h:∃M,b M a w/\∀c,c<M->¬b c a w then Classical.choose h else 0
 have hμ:∀a w N,b N a w->b (μ a w) a w/\μ a w<=N:=by
  intro a w N h;have e:=q N a w h;have i:μ a w=Classical.choose e:=Tn e;have n:=fP e;rw[i];refine⟨n.1,?_⟩;rcases aX N (Classical.choose e)with j|p
  .exact absurd h (n.2 N j)
  .exact p
 refine wp_loop (λa w=>∃N,b N a w) μ ⟨N,o⟩ ?_
 rintro a w ⟨N,h⟩
 refine Code.wp_mono ?_ (r (μ a w) a w (hμ a w N h).1)
 intro i g k m
 cases i with
 |normal=>
  obtain⟨d,j,f⟩:=m
  exact⟨⟨d,f⟩,nR (hμ g k d f).2 j⟩
 |_=>exact m
end Go.Vc
end
section
namespace Go.Vc
variable{i w:World}{j p:List Nat}{l a:Act}{f:Exit->Fr->E->Prop}{e:Exit}{b:E}
variable{g:Program}{h:TT}{G:List Nat}{d:Nat}{o:Ps}
def kJ(d:Nat)(i:World)(j:List Nat)(l:Act)(f:Exit->Fr->E->Prop):Exit->Act->World->Prop
 | .panic _,_,_=>False
 | .outgrown,_,_=>False
 |e,a,w=>∃b,kv d b a/\Bx d b w.heap/\pK i w/\mO j l a/\f e b w.heap
def kJ.mk{b:Fr}(g:(∀c,e≠.panic c)/\e≠.outgrown)
 (k:kv d b a)(h:Bx d b w.heap)(o:pK i w)(m:mO j l a)(n:f e b w.heap):kJ d i j l f e a w:=by
 cases e with
 |panic c=>exact absurd rfl (g.1 c)
 |outgrown=>exact absurd rfl g.2
 |_=>exact⟨b,k,h,o,m,n⟩
def kJ.aU(h:kJ d i j l f e a w):
 ((∀c,e≠.panic c)/\e≠.outgrown)/\∃b,kv d b a/\Bx d b w.heap/\pK i w/\mO j l a/\f e b w.heap:=by
 cases e with
 |panic c=>exact h.elim
 |outgrown=>exact h.elim
 |_=>exact⟨⟨aN,aN⟩,h⟩
def kJ.left(h:kJ d i j l f e a w):kJ d i (j++p) l f e a w:=by
 obtain⟨g,q,c,b,n,k,m⟩:=h.aU;exact kJ.mk g c b n (k.mono (λt o=>bL _ o)) m
def kJ.right(h:kJ d i j l f e a w):kJ d i (p++j) l f e a w:=by
 obtain⟨g,q,c,b,n,k,m⟩:=h.aU;exact kJ.mk g c b n (k.mono (λt o=>eG _ o)) m
def SZ{f:Fr}{e:Op}{x:SV}{k:SV->Prop}(c:LP f e=some x)(d:k x):Lv e=false/\rd h f b k e:=by
 unfold LP at c;split at c
 .split at c
  .simp at c
  .simp at c;subst c;exact⟨rfl,d⟩
 .split at c
  .simp at c
  .simp at c;subst c;exact⟨rfl,d⟩
 .rename_i o t y z l;split at c
  .rename_i a j g i;refine⟨rfl,?_⟩;simp only[rd,g,i];split at c<;>simp at c<;>subst c<;>exact d
  .simp at c
 .simp at c
def Ew(j:List Oper){b:E}{i:Fr->E->Prop}:∀{n:List Oper}{c e:Fr},rq d n c=some e->i e b->sN g h G d j n c b i
 |[],c,e,a,f=>by simp[rq]at a;subst a;exact f
 |o::s,c,e,a,f=>by
  simp only[rq]at a;simp only[sN];cases hd:sI d o.dst
  .rw[hd]at a;simp at a
  .rw[hd]at a;simp only[jP]at a⊢;cases l:o.guard with
   |some p=>rw[l]at a;simp at a
   |none=>
    rw[l]at a;simp only[gd]at a⊢;split at a
    .rename_i x r;obtain⟨p,q⟩:=SZ (h:=h) (b:=b) (k:=λx=>sN g h G d j s (uw c o.dst x) b i) r (Ew j a f);rw[p];exact q
    .simp at a
def Uu(p:Nat){b:E}{f:Exit->Fr->E->Prop}:∀(k:Code)(n:Fr)(y:Bool),Wj o d p k n=some y->(∀i,lM (iD i p)=some y->f .normal i b)->vc g h G d o k n b f
 | .region id A e,n,y,a,m=>by
  cases e
  .simp only[Wj]at a;simp only[vc,mU];split at a
   .rename_i i q;exact Ew _ q (m i a)
   .simp at a
  .simp[Wj]at a
 | .seq (.region id A false) (.cond (.tmp u) .skip k),n,y,a,m=>by
  simp only[Wj]at a;split at a
  .simp at a
  .rename_i w;cases l:(Nat.beq u p&&vy p (oU k))
   .rw[l]at a;simp at a
   .rw[l]at a;simp only[jP]at a;simp only[bN]at l;have z:=bt l.1;subst z;split at a
    .rename_i i q;split at a
     .rename_i C B e r;simp at a;subst a;rw[vc,w];simp only;rw[vc];simp only[mU];refine Ew _ q ?_;rw[vc];have x:ev i (.tmp u)=(iD i u).nb:=rfl;rw[x];cases j:iD i u with
      |tt=>
       rw[j]at e;simp[lM]at e;subst e;simp only[SV.nb,vc];exact m i (by rw[j];simp[lM])
      |ff=>
       rw[j]at e;simp[lM]at e;subst e;simp only[SV.nb];exact Uu u k i B r (λs v=>m s (by simpa using v))
      |c s=>
       cases s with
       |t v=>
        rw[j]at e;simp[lM]at e;subst e;simp only[SV.nb,YT,l.2,jP,r];exact m _ (by simp[iD,lM])
       |_=>rw[j]at e;simp[lM]at e
      |_=>rw[j]at e;simp[lM]at e
     .simp at a
    .simp at a
def UG(hT:uK g h)(hG:U1 g G)(au:g.follows .mixedOrders=true)(i:World):∀(D:Code),qH D=true->∀(l:Fr)(b:E)(f:Exit->Fr->E->Prop)(a:Act)(w:World),
 vc g h G d o D l b f->kv d l a->Bx d l b->w.heap=b->pK i w->D.wp g (kJ d i (oU D) a f) a w:=by
 intro D
 induction D with
 |skip=>
  intro hd l b f a w c k s x t
  subst x
  exact wp_skip ⟨l,k,s,t,mO.aA _ _,c⟩
 |region id p z=>
  intro hd l b f a w c k s x t
  simp only[vc]at c
  cases z
  .simp only[mU]at c
   refine wp_region_list ?_
   exact vo hT hG p p.toList l b (f .normal) a w (λ_ c=>c) c k s x t (mO.aA _ _) λB I S j r v u q=>⟨B,r,v,u,q,j⟩
  .simp only[jP]at c
   simp only[qH,Oo,VJ,bN]at hd
   refine wp_region_any au (MI (e:=λy C=>Nat.testBit (uy (TN [] p.toList) y) C) (L:=[]) _ _ _ _ ?_)
   have F:p.toList.length=p.size:=aN
   rw[F]at c
   refine Po hT hG p _ _ hd.1 hd.2 (λD a w hx=>hx) (w0:=i) (a0:=a) p.size 0 l b [] (f .normal) [] _ a _ c (λC hx=>by cases hx) ⟨aN,λy=>by simp[VI];split<;>rfl⟩ (λy hi=>by simp[VI]at hi;split at hi<;>simp at hi) k s x ⟨t.os,t.tape,t.output⟩ (mO.aA _ _) λB I S j r v u q=>⟨B,r,v,u,q,j⟩
 |seq C U ac X=>
  intro hd l b f a w c k s x t
  simp only[vc]at c
  simp only[qH,bN]at hd
  refine wp_seq ?_
  split at c
  .refine Code.wp_mono ?_ (ac hd.1 l b _ a w c k s x t)
   intro e I S j
   obtain⟨p,B,r,v,u,z,j⟩:=j.aU
   cases e with
   |normal=>
    refine Code.wp_mono ?_ (X hd.2 B _ f I S j r v rfl u)
    intro e R aa j
    obtain⟨p,V,J,F,O,K,j⟩:=j.aU
    exact kJ.mk p J F O ((z.mono (λH q=>bL _ q)).trans (K.mono (λH q=>eG _ q))) j
   |panic D=>exact absurd rfl (p.1 D)
   |outgrown=>exact absurd rfl p.2
   |exit y=>exact kJ.mk (e:=.exit y) p r v u (z.mono (λH q=>bL _ q)) j
   |goto y=>exact kJ.mk (e:=.goto y) p r v u (z.mono (λH q=>bL _ q)) j
   |ret=>exact kJ.mk (e:=.ret) p r v u (z.mono (λH q=>bL _ q)) j
  .rename_i N hl
   cases ab:qe (oU C) N
   .rw[ab]at c;exact c.elim
   rw[ab]at c
   obtain⟨ad,h1,W⟩:=c
   refine Code.wp_mono ?_ (ac hd.1 l b _ a w h1 k s x t)
   intro e I S j
   obtain⟨p,B,r,v,u,z,j⟩:=j.aU
   cases e with
   |normal=>
    obtain⟨af,j⟩:=Lf j
    obtain⟨ag,K',h3,Y,Z,h5⟩:=PI r (Ay (k.nP _) r.size r.defers z) (Bx.lH s v af) j W
    refine Code.wp_mono ?_ (X hd.2 ag _ f I S (h3 _ h5) Y Z rfl u)
    intro e R aa j
    obtain⟨p,V,J,F,O,K,j⟩:=j.aU
    exact kJ.mk p J F O ((z.mono (λH q=>bL _ q)).trans (K.mono (λH q=>eG _ q))) j
   |panic D=>exact absurd rfl (p.1 D)
   |outgrown=>exact absurd rfl p.2
   |exit y=>exact kJ.mk (e:=.exit y) p r v u (z.mono (λH q=>bL _ q)) j
   |goto y=>exact kJ.mk (e:=.goto y) p r v u (z.mono (λH q=>bL _ q)) j
   |ret=>exact kJ.mk (e:=.ret) p r v u (z.mono (λH q=>bL _ q)) j
 |cond ad C U ac X=>
  intro hd l b f a w c k s x t
  simp only[vc]at c
  simp only[qH,bN]at hd
  have aj:∀{K:Bool},a.eval ad=.bool K->kv d (uV l ad (if K then .tt else .ff)) a:=by
   intro K F;unfold uV;split
   .rename_i H;refine⟨k.size,k.defers,λR=>?_⟩;simp only[iD];cases Y:Nat.beq H R
    .exact k.aF R
    .have:=bt Y;subst this;cases K<;>exact F
   .exact k
  have ak:∀{C:SV},(∀K e N,C≠.box K e N/\C≠.zR K e N)->Bx d (uV l ad C) b:=by
   intro C hx;unfold uV;split
   .exact s.fW hx
   .exact s
  split at c
  .rename_i Z
   exact wp_cond_true (k.eq Z rfl) (Code.wp_mono (λ_ _ _ c=>c.left) (ac hd.1 l b f a w c k s x t))
  .rename_i Z
   exact wp_cond_false (k.eq Z rfl) (Code.wp_mono (λ_ _ _ c=>c.right) (X hd.2 l b f a w c k s x t))
  .rename_i K Z
   have aa:a.eval ad=.bool K:=k.eq Z rfl
   split at c
   .rename_i H y' J
    unfold YT at J
    split at J
    .rename_i O
     cases ai:vy O (oU U)
     .rw[ai]at J;simp at J
     .rw[ai]at J
      simp only[jP]at J
      split at J
      .rename_i y0 an
       simp at J
       obtain⟨rfl,rfl⟩:=J
       have am:a.tmps.getD O undef=.bool K:=aa
       refine wp_cond_split aa (λq=>?_) (λq=>?_)
       .subst x
        subst q
        refine wp_skip (kJ.mk (e:=.normal) (b:=(O,.c (.t (true||y0)))::nP (oU U) l) ⟨aN,aN⟩ ?_ ((s.nP _).fW aN) t (mO.aA _ _) c)
        have F:=Ay (M:=oU U) k k.size k.defers (mO.aA _ a)
        refine⟨F.size,F.defers,λR=>?_⟩
        simp only[iD]
        cases Y:Nat.beq O R
        .exact F.aF R
        .have:=bt Y
         subst this
         simpa[SV.Is,SV.v,Ce.v]using am
       .subst q
        have hv:=Uu (g:=g) (h:=h) (G:=G) (o:=o) (d:=d) O (b:=b) (f:=λe B V=>e=.normal/\V=b/\lM (iD B O)=some y0) U l y0 an (λB V=>⟨rfl,rfl,V⟩)
        refine Code.wp_mono ?_ (X hd.2 l b _ a w hv k s x t)
        intro e I S j
        obtain⟨p,B,r,v,u,z,rfl,ah,al⟩:=j.aU
        refine kJ.mk (e:=.normal) (b:=(O,.c (.t (false||y0)))::nP (oU U) l) p ?_ (by rw[ah];exact(s.nP _).fW aN) u (z.mono (λH q=>eG _ q)) (by rw[ah];exact c)
        have F:=Ay (M:=oU U) k r.size r.defers z
        refine⟨F.size,F.defers,λR=>?_⟩
        simp only[iD]
        cases Y:Nat.beq O R
        .exact F.aF R
        .have:=bt Y
         subst this
         obtain⟨V,W⟩:=xh al
         have h3:=(r.aF O).eq V
         rw[W]at h3
         simpa[SV.Is,SV.v,Ce.v]using h3
      .simp at J
    .simp at J
   .refine wp_cond_split aa (λq=>?_) (λq=>?_)
    .subst q
     exact Code.wp_mono (λ_ _ _ c=>c.left) (ac hd.1 _ b f a w (c.1 rfl) (aj aa) (ak aN) x t)
    .subst q
     exact Code.wp_mono (λ_ _ _ c=>c.right) (X hd.2 _ b f a w (c.2 rfl) (aj aa) (ak aN) x t)
  .exact c.elim
 |block id C J=>
  intro hd l b f a w c k s x t
  simp only[vc]at c
  refine wp_block (Code.wp_mono ?_ (J hd l b _ a w c k s x t))
  intro e I S j
  obtain⟨p,B,r,v,u,z,j⟩:=j.aU
  cases e with
  |exit y=>
   simp only[Exit.inBlock]
   simp only at j
   cases F:Nat.beq y id
   .rw[F]at j
    have q:y≠id:=λe=>by subst e;simp at F
    rw[ae q]
    exact kJ.mk (e:=.exit y) p r v u z j
   .rw[F]at j
    rw[ao (bt F)]
    exact kJ.mk (e:=.normal) ⟨aN,aN⟩ r v u z j
  |normal=>exact kJ.mk (e:=.normal) p r v u z j
  |panic D=>exact absurd rfl (p.1 D)
  |outgrown=>exact absurd rfl p.2
  |goto y=>exact kJ.mk (e:=.goto y) p r v u z j
  |ret=>exact kJ.mk (e:=.ret) p r v u z j
 |loop C J=>
  intro hd l b f a w c k s x t
  subst x
  simp only[vc]at c
  split at c
  .exact c.elim
  .rename_i N hl
   cases ab:qe (oU C) N
   .rw[ab]at c;exact c.elim
   rw[ab]at c
   obtain⟨O,μ,h0,h1⟩:=c
   let Y:Nat->Act->World->Prop:=λK I w=>∃B H μ',Tx N O μ (nP (oU C) (uN d (lH o C) l)) B H μ'/\kv d B I/\Bx d B w.heap/\H w.heap/\μ' w.heap=K/\pK i w/\mO (oU C) a I
   obtain⟨aa,R,μ1,ap,al,ad,aj⟩:=NM (μ:=μ) k (Ay (k.nP _) k.size k.defers (mO.aA (oU C) a)) (Bx.lH s s (λ_ _=>rfl)) h0
   refine Tj Y ?_ (μ1 w.heap) a w ⟨aa,R,μ1,ap,al,ad,aj,rfl,t,mO.aA _ _⟩
   rintro K Z w ⟨B,H,μ',hi,r,v,ai,rfl,u,V⟩
   have an:=NK h1 hi w.heap ai
   refine Code.wp_mono ?_ (J hd B w.heap _ Z w an r v rfl u)
   intro e I S j
   obtain⟨p,ag,q,z,F,W,j⟩:=j.aU
   cases e with
   |normal=>
    obtain⟨af,j⟩:=Lf j
    obtain⟨ac,X,μ3,aq,am,ah,ak,ar⟩:=NN q (Ay (k.nP _) q.size q.defers (V.trans W)) (Bx.lH s z af) j
    exact⟨_,ar,ac,X,μ3,aq,am,ah,ak,rfl,F,V.trans W⟩
   |panic D=>exact absurd rfl (p.1 D)
   |outgrown=>exact absurd rfl p.2
   |exit y=>exact kJ.mk (e:=.exit y) p q z F (V.trans W) j
   |goto y=>exact kJ.mk (e:=.goto y) p q z F (V.trans W) j
   |ret=>exact kJ.mk (e:=.ret) p q z F (V.trans W) j
 |exit id=>
  intro hd l b f a w c k s x t
  subst x
  exact wp_exit ⟨l,k,s,t,mO.aA _ _,c⟩
 |ret=>
  intro hd l b f a w c k s x t
  subst x
  exact wp_ret ⟨l,k,s,t,mO.aA _ _,c⟩
 |rangeFunc j k C U _ _=>intro _ l b f a w c;exact c.elim
 |scope C _=>intro _ l b f a w c;exact c.elim
 |label N=>intro _ l b f a w c;exact c.elim
 |goto N=>intro _ l b f a w c;exact c.elim
 |refuse s=>intro _ l b f a w c;exact c.elim
def uL:Nat->List SV->Fr
 |_,[]=>[]
 |i,x::r=>(i,x)::uL (i+1) r
def GD(h:TT)(a:Fr)(b:E):List ResultVar->(List SV->Prop)->Prop
 |[],k=>k []
 | .tmp t::r,k=>bif (iD a t).jQ then GD h a b r λl=>k (iD a t::l)else False
 | .cell p t::r,k=>rd h a b (λx=>bif x.jQ then GD h a b r λl=>k (x::l)else False) (.load t (.tmp p))
def Xx(h:TT)(c:List ResultVar)(a:Fr)(b:E)(R:Value->E->Prop):Prop:=
 GD h a b c λ
  |[x]=>R x.v b
  |l=>R (.tuple (l.map SV.v).toArray) b
def Ti(g:Program)(h:TT)(G:List Nat)(o:Ps)(d:Nat)(c:List ResultVar)(f:Code)(e:List SV)(b:E)(R:Value->E->Prop):Prop:=
 vc g h G d o f (uL 0 e) b λ
  | .normal,a,b=>Xx h c a b R
  | .ret,a,b=>Xx h c a b R
  |_,_,_=>False
def HT:∀(a:List SV)(i t:Nat),(t<i/\iD (uL i a) t=.fW)\/(i<=t/\iD (uL i a) t=a.getD (t -i) .fW)
 |[],i,t=>by
  rcases aX t i with h|h
  .exact Or.inl ⟨h,rfl⟩
  .exact Or.inr ⟨h,by simp[uL,iD]⟩
 |x::r,i,t=>by
  simp only[uL,iD];cases c:Nat.beq i t
  .have f:i≠t:=λe=>by subst e;simp at c
   rcases HT r (i+1) t with⟨d,b⟩|⟨d,b⟩
   .exact Or.inl ⟨V,b⟩
   .refine Or.inr ⟨V,?_⟩;have e:t -i=(t -(i+1))+1:=V;rw[e,List.getD_cons_succ];exact b
  .have:=bt c;subst this;exact Or.inr ⟨ad _,aN⟩
def LY(a:Array Value):ResultVar->Sem Value
 | .tmp t=>pure (a.getD t undef)
 | .cell p t=>do loadVar t (<-asAddr (a.getD p undef))
def Rq(b:Func)(c:Array Value):results b c=(do
 let a<-b.results.mapM (LY c)
 pure (if h:a.size=1 then a[0]else .tuple a)):=by
 unfold results
 congr 2
def Iu{i:Fr}{a:Act}(v:uK g h)(f:kv d i a):∀(D:List ResultVar)(k:List SV->Prop)(w:World),Bx d i w.heap->GD h i w.heap D k->
 ∃p,k p/\(D.mapM (LY a.tmps)).run g w=.ok (p.map SV.v) w
 |[],k,w,_,b=>⟨[],b,aN⟩
 | .tmp t::A,k,w,j,b=>by
  simp only[GD]at b;cases c:(iD i t).jQ
  .rw[c]at b;exact b.elim
  .rw[c]at b;obtain⟨p,s,u⟩:=Iu v f A _ w j b;refine⟨_,s,?_⟩;have z:=(f.aF t).eq c;have r:LY a.tmps (.tmp t)=pure (a.tmps.getD t undef):=rfl;simp only[UM,Sem.run_bind,Sem.run_pure,Result.andThen_ok,u,cO,z,r]
 | .cell q t::A,k,w,j,m=>by
  obtain⟨E,B,n,z,b⟩:=LQ (P:=g) v f j ⟨none,.load t (.tmp q),0,"",#[],none⟩ m;have b:=b w (λC _=>rfl);cases x:E.jQ
  .rw[x]at n;exact n.elim
  rw[x]at n;obtain⟨p,s,u⟩:=Iu v f A _ w j n;refine⟨_,s,?_⟩;have G:∃c o,a.tmps.getD q undef=.pointer (some ⟨c,o,none⟩):=by
   have l:=SV.Ur (f.aF q);simp only[GD,rd,ev]at m;split at m
   .rename_i c o y;rw[y]at l;exact⟨c,o,l⟩
   .rename_i C c o y;rw[y]at l;exact⟨c,o,l⟩
   .exact m.elim
  obtain⟨c,o,y⟩:=G;simp only[execOp,Instr.loadAt,Act.eval,y,Instr.sureAddr,Sem.run_bind,Sem.run_pure,Result.andThen_ok]at b;have F:(loadVar t ⟨c,o,none⟩).run g w=.ok B w:=by
   cases C:(loadVar t ⟨c,o,none⟩).run g w with
   |ok I H=>
    rw[C]at b;simp at b;rw[b.1,b.2]
   |halt e H=>rw[C]at b;simp at b
  have H:B=E.v:=z.eq x;have r:(LY a.tmps (.cell q t)).run g w=.ok B w:=by
   simp only[LY,y,Sem.run_bind,asAddr,Sem.run_pure,Result.andThen_ok,F]
  simp only[UM,Sem.run_bind,Sem.run_pure,Result.andThen_ok,r,u,cO,H]
def uh(z:uK g h)(K:U1 g G)(O:g.follows .mixedOrders=true){y:FuncId}{i:Func}{m:Code}{r:List ResultVar}{a:List SV}{R:Value->E->Prop}
 (N:g.funcs[y]? =some i)(M:i.body=some m)(P:i.ntmps=d)(S:i.results=r.toArray)(A:a.all SV.jQ=true)(X:a.length<=d)(hd:qH m=true)
 (j:Ti g h G o d r m a b R):aO g y (a.map SV.v) b R:=by
 intro w U
 refine calls_of_wp N M ?_
 have L:kv d (uL 0 a) {tmps:=(a.map SV.v).toArray++Array.replicate (i.ntmps -(a.map SV.v).toArray.size) undef,defers:=[]}:=by
  refine⟨by simp[P];omega,rfl,λt=>?_⟩;rcases HT a 0 t with⟨n,_⟩|⟨_,p⟩
  .omega
  .rw[p,XI];rcases aX t a.length with k|s
   .have u:(a[t]).jQ=true:=List.all_eq_true.1 A _ (List.getElem_mem k);have c:a.getD t .fW=a[t]:=by simp[k]
    rw[c];have f:((a.map SV.v).toArray++Array.replicate (i.ntmps -(a.map SV.v).toArray.size) undef).getD t undef=(a[t]).v:=by
     simp[Array.getElem?_append,k]
    rw[f];exact nY _
   .have c:a.getD t .fW=.fW:=by simp[cT s]
    rw[c];trivial
 have v:∀{q x e l},¬lZ (uL 0 a) q x e l:=by
  intro q x e l f;rcases HT a 0 q with⟨n,_⟩|⟨_,p⟩
  .omega
  .unfold lZ at f;rw[p,XI]at f;rcases aX q a.length with k|s
   .have u:(a[q]).jQ=true:=List.all_eq_true.1 A _ (List.getElem_mem k);have c:a.getD q .fW=a[q]:=by simp[k]
    rw[c]at f;rcases f with f|f<;>rw[f]at u<;>simp[SV.jQ]at u
   .have c:a.getD q .fW=.fW:=by simp[cT s]
    rw[c]at f;simp at f
 have I:Bx d (uL 0 a) b:=⟨λ_ _ _ _ j=>absurd j v,λ_ _ _ _ _ _ _ _ _ j=>absurd j v,λ_ _ _ _ j=>absurd j v⟩
 refine Code.wp_mono ?_ (UG z K O w m hd _ b _ _ w j L I U (pK.aA w))
 intro e s k c
 obtain⟨B,H,u,J,T,W,c⟩:=c.aU
 have C:∀(c:Xx h r H k.heap R),s.defers=[]/\∃D,(results i s.tmps).run g k=.ok D k/\∃F,Ending.returned D=.returned F/\pK w k/\R F k.heap:=by
  intro c;refine⟨u.defers,?_⟩;obtain⟨l,n,p⟩:=Iu z u r _ k J c;have Q:(results i s.tmps).run g k=.ok (if j:(l.map SV.v).toArray.size=1 then(l.map SV.v).toArray[0]else .tuple (l.map SV.v).toArray) k:=by
   rw[Rq,S,UW];simp only[Sem.run_bind,Sem.run_map];rw[p];rfl
  refine⟨_,Q,_,rfl,T,?_⟩;cases l with
  |nil=>exact n
  |cons V l=>cases l with
   |nil=>exact n
   |cons Y l=>exact n
 cases e with
 |normal=>exact C c
 |ret=>exact C c
 |exit V=>exact c.elim
 |goto V=>exact c.elim
 |panic m=>exact absurd rfl (B.1 m)
 |outgrown=>exact absurd rfl B.2
end Go.Vc
end
section
namespace Go.Vc
abbrev vi(n:Int):Value:=.int .i64 n
abbrev vb(b:Bool):Value:=.bool b
abbrev vp(b o:Nat):Value:=.pointer (some ⟨b,o,none⟩)
def KR(f:Func):Code:=
 match f.body with
 |some c=>c
 |none=>.skip
end Go.Vc
end
section
namespace Go.Vc
variable{a p:Prop}{m c d:E}{b o k f n:Nat}{v:Value}{l:List Nat}{s:O}{P:Program}{K e:Value->E->Prop}
structure J(m c:E):Prop where
 size:m.size<=c.size
 same:∀b,b<m.size->c[b]? =m[b]?
def J.aA(m:E):J m m:=⟨ad _,λ_ _=>rfl⟩
def J.trans{a b c:E}(h:J a b)(k:J b c):J a c:=
 ⟨bJ h.size k.size,λi d=>(k.same i (aP d h.size)).trans (h.same i d)⟩
def J.push(m:E)(o:Obj):J m (m.push o):=
 ⟨aN,λb a=>by rw[na,ae V]⟩
def J.aL{a:E}(h:J a m)(o:Obj):J a (m.push o):=h.trans (J.push m o)
def J.ai{a:E}(h:J a m)(d:a.size<=b)(o:Nat)(l:List Ce):J a (ai m b o l):=
 ⟨by rw[ax];exact h.size,λj c=>by rw[bg l m b o V];exact h.same j c⟩
def J.af(h:J m c)(a:af m b o=some v):af c b o=some v:=by
 rw[aI (h.same b (mC a))];exact a
def J.iL(h:J m c){l:List Ce}(e:fS m b o l):fS c b o l:=λi a d=>h.af (e i a d)
def cK.ext(h:J m c){e:Nat}{l:List Ce}(a:cK m b e l):cK c b e l:=by
 unfold cK at*;rw[h.same b (Array.getElem?_eq_some_iff.1 a).1];exact a
structure eV{α:Type}(m:E)(sz:Nat)(R:List Ce->α->Prop)(s:O)(l:List α):Prop where
 len:s.len=l.length
 cap:s.len<=s.cap
 gX:s.len<=9223372036854775807
 iL:∀(k:Nat)(x:α),l[k]? =some x->∃cs,R cs x/\fS m s.D (s.off+k*sz) cs
def eV.mono{α:Type}{d:Nat}{R b:List Ce->α->Prop}{l:List α}(h:eV m d R s l)(j:J m c)(g:∀a x,R a x->b a x):eV c d b s l:=
 ⟨h.len,h.cap,h.gX,λk x i=>let⟨a,e,f⟩:=h.iL k x i;⟨a,g _ _ e,j.iL f⟩⟩
def U6(a:List Ce)(n:Int):Prop:=a=[.i n]
abbrev ap(m:E)(s:O)(l:List Int):Prop:=eV m 1 U6 s l
def ap.aF{l:List Int}(h:ap m s l){x:Int}(a:l[k]? =some x):af m s.D (s.off+k*1)=some (vi x):=by
 obtain⟨c,rfl,b⟩:=h.iL k x a;exact b 0 (.i x) rfl
def ap.ext(a:J m c){l:List Int}(h:ap m s l):ap c s l:=h.mono a λ_ _ h=>h
def dG{α:Type}{l:List α}(h:k<l.length):∃x,l[k]? =some x:=⟨l[k],by simp[h]⟩
def cL{α:Type}(l:List α)(k:Nat)(h:k<l.length:=by(omega)):∃x,l[k]? =some x:=dG h
def oh(x:a)(h:a->p:=by(omega)):p:=h x
def O6{b:Prop}(x:a)(y:b)(h:a->b->p:=by(omega)):p:=h x y
def sx(h:a=False:=by(simp))(x:a):p:=(h▸x:False).elim
def aw{α:Type}{l:List α}{x:α}(h:l[k]? =some x):k<l.length:=(List.getElem?_eq_some_iff.1 h).1
def aV{α:Type}{l:List α}{x:α}(h:l[k]? =some x):l.take (k+1)=l.take k++[x]:=by
 rw[List.take_add_one,h];rfl
def bZ{α:Type}{l:List α}(h:l.length<=k):l.take k=l:=nQ h
def HL(P:Program)(f:Nat)(a:List Value)(m:E)(v:Value):Prop:=aO P f a m λb c=>b=v/\J m c
def aO.post{a:List Value}(h:aO P f a m K)(b:∀v c,K v c->e v c):aO P f a m e:=h.mono b
def HL.then{a:List Value}(h:HL P f a m v)(d:∀c,J m c->K v c):aO P f a m K:=
 h.mono λ_ _⟨b,e⟩=>b▸d _ e
def O.BY{t:O}:s.v=t.v<->s=t:=by
 refine⟨λh=>?_,λh=>h▸rfl⟩;cases s<;>cases t<;>simp_all [O.v]
def J.dz(h:J m c)(d:∀b∈l,b<m.size):eF l m c:=λb a=>h.same b (d b a)
def J.lt(h:J m c)(a:b<m.size):b<c.size:=aP a h.size
def J.dg(h:J m c)(a:Vc.af m b o=some v):Vc.af c b o=Vc.af m b o:=by rw[h.af a,a]
def kQ(h:k<n)(a:n<=9223372036854775807):cG ((k:Int)+1)=((k+1:Nat):Int):=by rw[aR V V];rfl
def DM(h:k<n):((n:Int) -((k+1:Nat):Int)).toNat<((n:Int) -(k:Int)).toNat:=V
def dW(g:n<=9223372036854775807){d:(Int->E->Prop)->(Int->E->Nat)->Int->E->Prop}(Q:Nat->E->Prop)(e:Q 0 m)
 (h:∀(k:Nat)(a:E)(I:Int->E->Prop)(μ:Int->E->Nat),k<=n->Q k a->
  (k<n->∀c,Q (k+1) c->I (cG ((k:Int)+1)) c/\μ (cG ((k:Int)+1)) c<μ k a)->d I μ k a):
 ∃(I:Int->E->Prop)(μ:Int->E->Nat),I 0 m/\∀i a,I i a->d I μ i a:=by
 refine⟨λi c=>∃k:Nat,i=k/\k<=n/\Q k c,λi _=>(n -i).toNat,⟨0,rfl,dQ _,e⟩,?_⟩
 rintro i a ⟨k,rfl,f,j⟩
 refine h k a _ _ f j λb c l=>?_
 rw[kQ b g]
 exact⟨⟨k+1,rfl,b,l⟩,DM b⟩
def eB{σ:Type}(l:n<=9223372036854775807){f:σ}{e:(σ->Int->E->Prop)->(σ->Int->E->Nat)->σ->Int->E->Prop}(Q:Nat->σ->E->Prop)(g:Q 0 f m)
 (h:∀(k:Nat)(s:σ)(a:E)(I:σ->Int->E->Prop)(μ:σ->Int->E->Nat),k<=n->Q k s a->
  (k<n->∀b c,Q (k+1) b c->I b (cG ((k:Int)+1)) c/\μ b (cG ((k:Int)+1)) c<μ s k a)->e I μ s k a):
 ∃(I:σ->Int->E->Prop)(μ:σ->Int->E->Nat),I f 0 m/\∀s i a,I s i a->e I μ s i a:=by
 refine⟨λs i c=>∃k:Nat,i=k/\k<=n/\Q k s c,λ_ i _=>(n -i).toNat,⟨0,rfl,dQ _,g⟩,?_⟩
 rintro s i a ⟨k,rfl,j,o⟩
 refine h k s a _ _ j o λd b c p=>?_
 rw[kQ d l]
 exact⟨⟨k+1,rfl,d,p⟩,DM d⟩
def dy(P:Program)(f:Nat)(a:List Value)(m:E)(p:Prop):Prop:=aO P f a m λv c=>∃b:Bool,v=.bool b/\(b=true<->p)/\J m c
def dy.then{a:List Value}(h:dy P f a m p)(g:∀(b:Bool) c,(b=true<->p)->J m c->K (.bool b) c):aO P f a m K:=
 h.mono λ_ _⟨b,e,d,i⟩=>e▸g b _ d i
def dy.aJ{e:List Value}(i:dy P f e m p)(g:J d m)(q:∀b∈l,b<d.size)
 (o:∀(b:Bool) c,(b=true<->p)->J m c->J d c->K (.bool b) c):aO P f e m λv c=>eF l m c/\K v c:=
 i.mono λ_ _⟨b,n,j,a⟩=>⟨a.dz λh k=>g.lt (q h k),n▸o b _ j a (g.trans a)⟩
def HL.aJ{e:List Value}(i:HL P f e m v)(g:J d m)(o:∀b∈l,b<d.size)
 (n:∀c,J m c->J d c->K v c):aO P f e m λv c=>eF l m c/\K v c:=
 i.mono λ_ _⟨k,a⟩=>⟨a.dz λh j=>g.lt (o h j),k▸n _ a (g.trans a)⟩
def aO.aJ{a:List Value}(j:aO P f a m K)(o:J d m)(n:∀b∈l,b<d.size)
 (g:∀v c,K v c->J m c/\e v c):aO P f a m λv c=>eF l m c/\e v c:=
 j.mono λv c h=>⟨(g v c h).1.dz λi k=>o.lt (n i k),(g v c h).2⟩
def eW{b:Bool}(h:b=true<->p)(d:J m c):∃a:Bool,Value.bool b=.bool a/\(a=true<->p)/\J m c:=⟨b,rfl,h,d⟩
def bX(h:¬p)(b:J m c):∃a:Bool,Value.bool false=.bool a/\(a=true<->p)/\J m c:=⟨false,rfl,by simp[h],b⟩
def iY(h:p)(b:J m c):∃a:Bool,Value.bool true=.bool a/\(a=true<->p)/\J m c:=⟨true,rfl,by simp[h],b⟩
def nb{b:Bool}(a:b=true<->p)(h:(!b)=true):¬p:=λc=>by simp[a.2 c]at h
def yb{b:Bool}(a:b=true<->p)(h:(!b)=false):p:=a.1 (by simpa using h)
def fb{b:Bool}(a:b=true<->p)(h:b=false):¬p:=λc=>by simp[a.2 c]at h
def bE{α:Type}{l:List α}{x:α}{p:α->Prop}(c:l[k]? =some x)(h:∀y∈l.take k,p y)(b:p x):∀y∈l.take (k+1),p y:=by
 rw[aV c];intro y a;rcases List.mem_append.1 a with a|a
 .exact h y a
 .simp at a;subst a;exact b
def dh{α:Type}{l:List α}{p:α->Prop}(a:l.length<=k)(h:∀y∈l.take k,p y):∀y∈l,p y:=by rw[<-bZ a];exact h
def aq{α:Type}{l:List α}{x:α}(h:l[k]? =some x):x∈l:=gJ h
end Go.Vc
end
section
namespace Go.Vc
variable{m:E}{s:O}{k:Nat}
structure bB where
 tq:Int
 to:Int
 cons:List (List Int)
structure Instr where
 op:Int
 dst:Int
 bS:Int
 cg:Int
 args:List Int
 eN:List Int
structure dC where
 params:List Int
 cY:List Int
 aT:Int
 ak:Int
 dk:List Instr
structure cV where
 br:List bB
 cE:List dC
def nh(m:E)(a:List Ce)(c:List Int):Prop:=∃f,a=[.s f]/\ap m f c
def iV(m:E)(a:List Ce)(d:bB):Prop:=∃f,a=[.i d.tq,.i d.to,.s f]/\eV m 1 (nh m) f d.cons
def dU(m:E)(b:List Ce)(x:Instr):Prop:=∃a j,b=[.i x.op,.i x.dst,.i x.bS,.i x.cg,.s a,.s j]/\ap m a x.args/\ap m j x.eN
def lK(m:E)(b:List Ce)(p:dC):Prop:=
 ∃a l c,b=[.s a,.s l,.i p.aT,.i p.ak,.s c]/\ap m a p.params/\ap m l p.cY/\eV m 6 (dU m) c p.dk
abbrev pF(m:E)(s:O)(l:List (List Int)):Prop:=eV m 1 (nh m) s l
abbrev cz(m:E)(s:O)(l:List bB):Prop:=eV m 3 (iV m) s l
abbrev ft(m:E)(s:O)(l:List Instr):Prop:=eV m 6 (dU m) s l
abbrev iC(m:E)(s:O)(l:List dC):Prop:=eV m 5 (lK m) s l
structure fC(m:E)(d p:O)(im:cV):Prop where
 br:cz m d im.br
 cE:iC m p im.cE
def nh.ext{m b:E}(g:J m b)(a:List Ce)(c:List Int):nh m a c->nh b a c:=λ⟨f,d,e⟩=>⟨f,d,e.ext g⟩
def pF.ext{m b:E}(a:J m b){s:O}{l:List (List Int)}(h:pF m s l):pF b s l:=h.mono a (nh.ext a)
def iV.ext{m b:E}(g:J m b)(a:List Ce)(c:bB):iV m a c->iV b a c:=λ⟨f,d,e⟩=>⟨f,d,pF.ext g e⟩
def cz.ext{m b:E}(a:J m b){s:O}{l:List bB}(h:cz m s l):cz b s l:=h.mono a (iV.ext a)
def dU.ext{m d:E}(b:J m d)(a:List Ce)(c:Instr):dU m a c->dU d a c:=λ⟨e,j,f,g,h⟩=>⟨e,j,f,g.ext b,h.ext b⟩
def ft.ext{m b:E}(a:J m b){s:O}{l:List Instr}(h:ft m s l):ft b s l:=h.mono a (dU.ext a)
def lK.ext{m d:E}(a:J m d)(b:List Ce)(c:dC):lK m b c->lK d b c:=λ⟨e,l,c,f,g,h,i⟩=>⟨e,l,c,f,g.ext a,h.ext a,ft.ext a i⟩
def iC.ext{m b:E}(a:J m b){s:O}{l:List dC}(h:iC m s l):iC b s l:=h.mono a (lK.ext a)
def fC.ext{m c:E}(a:J m c){d p:O}{b:cV}(h:fC m d p b):fC c d p b:=⟨cz.ext a h.br,iC.ext a h.cE⟩
def pF.aF{l:List (List Int)}(h:pF m s l){x:List Int}(b:l[k]? =some x):
 ∃f,ap m f x/\af m s.D (s.off+k*1)=some (O.v f):=by
 obtain⟨d,⟨f,rfl,a⟩,c⟩:=h.iL k x b
 exact⟨f,a,c 0 (.s f) rfl⟩
def cz.aF{l:List bB}(h:cz m s l){x:bB}(c:l[k]? =some x):
 ∃f,pF m f x.cons/\af m s.D (s.off+k*3)=some (vi x.tq)/\af m s.D (s.off+k*3+1)=some (vi x.to)/\af m s.D (s.off+k*3+2)=some (O.v f):=by
 obtain⟨d,⟨f,rfl,b⟩,a⟩:=h.iL k x c
 exact⟨f,b,a 0 (.i x.tq) rfl,a 1 (.i x.to) rfl,a 2 (.s f) rfl⟩
def ft.aF{l:List Instr}(h:ft m s l){x:Instr}(e:l[k]? =some x):
 ∃b j,ap m b x.args/\ap m j x.eN/\af m s.D (s.off+k*6)=some (vi x.op)/\af m s.D (s.off+k*6+1)=some (vi x.dst)/\af m s.D (s.off+k*6+2)=some (vi x.bS)/\
  af m s.D (s.off+k*6+3)=some (vi x.cg)/\af m s.D (s.off+k*6+4)=some (O.v b)/\af m s.D (s.off+k*6+5)=some (O.v j):=by
 obtain⟨f,⟨b,j,rfl,c,d⟩,a⟩:=h.iL k x e
 exact⟨b,j,c,d,a 0 (.i x.op) rfl,a 1 (.i x.dst) rfl,a 2 (.i x.bS) rfl,a 3 (.i x.cg) rfl,a 4 (.s b) rfl,a 5 (.s j) rfl⟩
def iC.aF{l:List dC}(h:iC m s l){x:dC}(i:l[k]? =some x):
 ∃a b c,ap m a x.params/\ap m b x.cY/\ft m c x.dk/\af m s.D (s.off+k*5)=some (O.v a)/\af m s.D (s.off+k*5+1)=some (O.v b)/\af m s.D (s.off+k*5+2)=some (vi x.aT)/\
  af m s.D (s.off+k*5+3)=some (vi x.ak)/\af m s.D (s.off+k*5+4)=some (O.v c):=by
 obtain⟨j,⟨a,b,c,rfl,e,f,g⟩,d⟩:=h.iL k x i
 exact⟨a,b,c,e,f,g,d 0 (.s a) rfl,d 1 (.s b) rfl,d 2 (.i x.aT) rfl,d 3 (.i x.ak) rfl,d 4 (.s c) rfl⟩
end Go.Vc
end
section
namespace Go.Vc
variable{g a:E}{f:Nat}{s:O}{l:List Ce}{d:List (List Ce)}
structure ig(g a:E)(f sz:Nat)(s:O)(l:List Ce):Prop where
 len:l.length=s.len*sz
 aF:s=.nil\/∃b c tail,s=.mk b 0 s.len c/\g.size<=b/\cK a b f (l++tail)/\(l++tail).length=c*sz/\s.len<=c
def ig.nil(g a:E)(f b:Nat):ig g a f b .nil []:=⟨aN,Or.inl rfl⟩
def ig.new(h:J g a)(f c:Nat)(l:List Ce)(k:Nat)(b:l.length=k*c):ig g (a.push (.cells (bz l) f)) f c (.mk a.size 0 k k) l:=
 ⟨b,Or.inr ⟨a.size,k,[],rfl,h.size,by rw[eg];exact cK.push _ _ _,by simpa using b,ad _⟩⟩
def ig.congr{g a d:E}{f e:Nat}{s:O}{l:List Ce}(h:ig g a f e s l)(c:d[s.D]? =a[s.D]?):ig g d f e s l:=by
 refine⟨h.len,?_⟩;rcases h.aF with b|⟨i,j,tail,b,h2,h3,h4,h5⟩
 .exact Or.inl b
 .refine Or.inr ⟨i,j,tail,b,h2,h3.congr ?_,h4,h5⟩;rw[b]at c;exact c
def ig.lt{g a:E}{f c:Nat}{s:O}{l:List Ce}(h:ig g a f c s l):s=.nil\/s.D<a.size:=by
 rcases h.aF with b|⟨d,e,tail,b,h2,h3,h4,h5⟩
 .exact Or.inl b
 .rw[b];exact Or.inr h3.lt
def ig.ext{c:E}{d:Nat}(h:ig g a f d s l)(e:J a c):ig g c f d s l:=by
 rcases h.lt with b|b
 .subst b;exact⟨h.len,Or.inl rfl⟩
 .exact h.congr (e.same _ b)
def ig.cA{c:E}{d:Nat}(h:ig c a f d s l)(j:g.size<=c.size):ig g a f d s l:=by
 refine⟨h.len,?_⟩;rcases h.aF with b|⟨e,i,tail,b,h2,h3,h4,h5⟩
 .exact Or.inl b
 .exact Or.inr ⟨e,i,tail,b,bJ j h2,h3,h4,h5⟩
def ig.D{c:Nat}(h:ig g a f c s l):s=.nil\/g.size<=s.D:=by
 rcases h.aF with b|⟨d,e,tail,b,h2,h3,h4,h5⟩
 .exact Or.inl b
 .rw[b];exact Or.inr h2
def fS.Nj{b o:Nat}{r:List Ce}(h:fS a b o (l++r)):fS a b o l:=λi d c=>h i d (by rw[az (aw c)];exact c)
def ig.iL{g a:E}{f e:Nat}{s:O}{l:List Ce}(h:ig g a f e s l):fS a s.D s.off l:=by
 rcases h.aF with b|⟨i,c,tail,b,h2,h3,h4,h5⟩
 .have:l=[]:=List.length_eq_zero_iff.1 (by rw[h.len,b];simp);subst this;intro j c d;simp at d
 .rw[b];exact h3.iL.Nj
def Cs(l a tail:List Ce)(h:a.length<=tail.length):jt (l++tail) l.length a=l++a++tail.drop a.length:=by
 apply ic;intro i;rw[wD];simp only[bh];by_cases b:l.length<=i/\i<l.length+a.length/\i<l.length+tail.length
 .rw[ao b,fF,aK b.1,az V]
 .rw[ae b];by_cases c:i<l.length
  .rw[az c,fF,az c]
  .rw[aK V,fF,aK V,aK V,sH];congr 1;omega
def ig.append{zs:List Ce}{v:Nat}{x:O}{d:List Ce}{K:O->E->Prop}(j:ig g a f zs.length s l)(p:J g a)
 (q:d.length=x.len*zs.length)(F:fS a x.D x.off d)(t:(s.len+x.len)*v<=140737488355328)
 (u:∀k n,ig g n f zs.length k (l++d)->J g n->k.len=s.len+x.len->a.size<=n.size->(∀c,c<a.size->(s≠.nil->c≠s.D)->n[c]? =a[c]?)->((s=.nil/\k=.nil)\/(s≠.nil/\k.D=s.D/\k≠.nil)\/k.D=a.size)->K k n):
 jT a f zs v s x K:=by
 refine⟨d,q,F,λC=>?_,λI=>⟨t,l,j.len,j.iL,λi y=>?_⟩⟩
 .rcases j.aF with h|⟨c,i,tail,h,h2,h3,h4,h5⟩
  .subst h
   have w:x.len=0:=by simpa using C
   have A:d=[]:=List.length_eq_zero_iff.1 (by rw[q,w];simp)
   subst A
   refine⟨λB z=>by simp at z,?_⟩
   exact u .nil _ ⟨by rw[eg];exact j.len,Or.inl rfl⟩ (by simpa[ai]using p) (by simp[w]) (ur (ax _ _ _ _).symm) (λc t _=>by simp[ai]) (Or.inl ⟨rfl,rfl⟩)
  .have z:=j.len
   have H:s.cap=i:=by rw[h];rfl
   rw[h]
   simp only[O.jJ,O.nt,O.gL,bW]
   simp only[bh]at h4
   have B:d.length<=tail.length:=by
    have A:(s.len+x.len)*zs.length<=i*zs.length:=dm _ V;rw[gT]at A;omega
   refine⟨h3.fO (by simp only[bh];omega),?_⟩
   have w:=cK.ai (m:=a) (b:=c) (e:=f) (r:=d) (o:=s.len*zs.length) h3
   rw[<-z,Cs l d tail B]at w
   refine u _ _ ⟨?_,Or.inr ⟨c,i,tail.drop d.length,rfl,h2,?_,?_,?_⟩⟩ (p.ai h2 _ _) aN (ur (ax _ _ _ _).symm) (λG _ D=>bg _ _ _ _ ?_) (Or.inr (Or.inl ⟨by rw[h];simp,by rw[h];rfl,aN⟩))
   .simp only[bh,O.gL,gT];omega
   .rw[<-z];exact w
   .simp only[bh,List.length_drop];omega
   .simp only[O.gL];omega
   .have:=D (by rw[h];simp)
    rw[h]at this;exact this
 .refine u _ _ ⟨?_,Or.inr ⟨a.size,i,mT zs (i -(s.len+x.len)),rfl,p.size,cK.push _ _ _,?_,by simpa using y⟩⟩ (p.aL _) aN aN (λc t _=>by rw[na,ae V]) (Or.inr (Or.inr rfl))
  .simp only[bh,O.gL,gT,j.len,q]
  .simp only[bh,rW,j.len,q]
   rw[Nat.sub_mul,<-gT]
   have:(s.len+x.len)*zs.length<=i*zs.length:=dm _ y
   omega
def ap.gC{l:List Int}(h:ig g a f 1 s (l.map Ce.i))(n:l.length<=9223372036854775807):ap a s l:=by
 have i:s.len=l.length:=by have:=h.len;simp at this;omega
 refine⟨i,?_,V,λk x e=>⟨[.i x],rfl,λj d c=>?_⟩⟩
 .rcases h.aF with b|⟨m,d,tail,b,h2,h3,h4,h5⟩
  .rw[b];exact ad _
  .rw[b];exact h5
 .have b:j=0:=by have:=aw c;simp at this;omega
  subst b;simp at c;subst c;have:=h.iL k (.i x) (by simp[e]);simpa using this
def fY{g:Nat}:∀{d:List (List Ce)}(_:∀a∈d,a.length=g){b:Nat}{a:List Ce}(_:d[b]? =some a){i:Nat}{c:Ce}(_:a[i]? =some c),d.flatten[b*g+i]? =some c
 |[],_,b,a,h,_,_,_=>by simp at h
 |x::d,f,0,a,h,i,c,e=>by
  simp at h;subst h;rw[jL,QM,bW,az (aw e)];exact e
 |x::d,f,b+1,a,h,i,c,e=>by
  have k:x.length=g:=f x aZ;rw[jL,aK (by rw[k,gT];omega)];have:=fY (d:=d) (λy l=>f y (ah _ l)) (b:=b) (by simpa using h) e;rw[<-this];congr 1;rw[k,gT];omega
def cy{b:Nat}:∀{d:List (List Ce)},(∀a∈d,a.length=b)->d.flatten.length=d.length*b
 |[],_=>aN
 |x::d,a=>by
  rw[jL,bh,cy (λy c=>a y (ah _ c)),a x aZ,be,gT];omega
structure gV{α:Type}(sz:Nat)(R:List Ce->α->Prop)(d:List (List Ce))(l:List α):Prop where
 len:d.length=l.length
 size:∀cs∈d,cs.length=sz
 dD:∀(j:Nat)(cs:List Ce)(x:α),d[j]? =some cs->l[j]? =some x->R cs x
def gV.nil{α:Type}(a:Nat)(R:List Ce->α->Prop):gV a R [] []:=⟨rfl,aN,aN⟩
def gV.yV{α:Type}{f:Nat}{R:List Ce->α->Prop}{l:List α}(h:gV f R d l){cs:List Ce}{x:α}(i:cs.length=f)(k:R cs x):gV f R (d++[cs]) (l++[x]):=by
 refine⟨by simp[h.len],λe a=>?_,λj e y a b=>?_⟩
 .rcases List.mem_append.1 a with a|a
  .exact h.size e a
  .simp at a;subst a;exact i
 .rcases aX j d.length with c|c
  .rw[az c]at a;rw[az (h.len▸c)]at b;exact h.dD j e y a b
  .rw[aK c]at a;rw[aK (by rw[<-h.len];exact c),<-h.len]at b;have g:j -d.length=0:=by have:=aw a;simp at this;omega
   rw[g]at a b;simp at a b;subst a;subst b;exact k
def gV.mono{α:Type}{c:Nat}{R b:List Ce->α->Prop}{l:List α}(h:gV c R d l)(g:∀a x,R a x->b a x):gV c b d l:=
 ⟨h.len,h.size,λj a x e f=>g _ _ (h.dD j a x e f)⟩
def eV.gC{α:Type}{e:Nat}{R:List Ce->α->Prop}{l:List α}(h:ig g a f e s d.flatten)(c:gV e R d l)(q:0<e)(t:l.length<=9223372036854775807):eV a e R s l:=by
 have p:s.len=l.length:=by
  have b:=h.len;rw[cy c.size]at b;have:=UO q b;rw[<-this,c.len]
 refine⟨p,?_,V,λk x n=>?_⟩
 .rcases h.aF with b|⟨j,i,tail,b,h2,h3,h4,h5⟩
  .rw[b];exact ad _
  .rw[b];exact h5
 .let⟨j,m⟩:=cL d k (by rw[c.len];exact aw n);refine⟨j,c.dD k j x m n,λr i o=>?_⟩;have:=h.iL (k*e+r) i (fY c.size m o);rwa[<-dq]at this
end Go.Vc
end
section
namespace Go.Vc
variable{S c:List Nat}{m a d:E}{b o e:Nat}{l:List Ce}{s:O}
def bI(S:List Nat)(m:E):E:=m.mapIdx λb o=>if b∈S then .cells #[] 0 else o
def Le(M a:E):Prop:=∀b o v,af M b o=some v->af a b o=some v
def eS{v:Value}:af (bI S m) b o=some v<->b∉S/\af m b o=some v:=by
 unfold af bI;rw[XW];cases h:m[b]? with
 |none=>simp
 |some x=>by_cases a:b∈S<;>simp[a]
def Le.aA(m:E):Le m m:=λ_ _ _ h=>h
def Le.trans{a b c:E}(h:Le a b)(k:Le b c):Le a c:=λx o v d=>k x o v (h x o v d)
def J.le(h:J m a):Le m a:=λ_ _ _ b=>h.af b
def bD(S:List Nat)(m:E):Le (bI S m) m:=λ_ _ _ h=>(eS.1 h).2
def pR(h:∀b,b<m.size->b∉S->b∉c/\a[b]? =m[b]?):Le (bI S m) (bI c a):=λb o v i=>by
 let⟨e,d⟩:=eS.1 i;let⟨f,g⟩:=h b (mC d) e;exact eS.2 ⟨f,by rw[aI g];exact d⟩
def J.bI(h:J m a)(d:∀b∈c,b∈S\/m.size<=b):Le (bI S m) (bI c a):=
 pR λb e g=>⟨λf=>(d b f).elim g λh=>V,h.same b e⟩
def J.dj(h:J m a)(S:List Nat):Le (Vc.bI S m) (Vc.bI S a):=h.bI λ_ b=>Or.inl b
def je(m:E)(a:∀b∈c,b∈S):Le (bI S m) (bI c m):=(J.aA m).bI λb d=>Or.inl (a b d)
def Le.iL{M a:E}(h:Le M a)(e:fS M b o l):fS a b o l:=λi c d=>h _ _ _ (e i c d)
def eV.le{α:Type}{d:Nat}{R c:List Ce->α->Prop}{l:List α}(h:eV m d R s l)(j:Le m a)(g:∀b x,R b x->c b x):eV a d c s l:=
 ⟨h.len,h.cap,h.gX,λk x i=>let⟨b,e,f⟩:=h.iL k x i;⟨b,g _ _ e,j.iL f⟩⟩
def ap.le{m a:E}(b:Le m a){s:O}{l:List Int}(h:ap m s l):ap a s l:=eV.le h b λ_ _ h=>h
def nh.le{m a:E}(g:Le m a)(b:List Ce)(c:List Int):nh m b c->nh a b c:=λ⟨f,d,e⟩=>⟨f,d,e.le g⟩
def iV.le{m a:E}(d:Le m a)(b:List Ce)(c:bB):iV m b c->iV a b c:=λ⟨f,e,g⟩=>⟨f,e,eV.le g d (nh.le d)⟩
def cz.le{m a:E}(b:Le m a){s:O}{l:List bB}(h:cz m s l):cz a s l:=eV.le h b (iV.le b)
def Kz(a:b∉S)(h:fS m b o l):fS (bI S m) b o l:=λi c d=>eS.2 ⟨a,h i c d⟩
def eV.Rl{α:Type}{a:Nat}{R:List Ce->α->Prop}{c:List (List Ce)}{l:List α}(o:∀b∈S,b<d.size)(h:ig d m e a s c.flatten)(q:gV a R c l)(r:0<a)(p:l.length<=9223372036854775807):eV (bI S m) a R s l:=by
 have H:=eV.gC h q r p;refine⟨H.len,H.cap,H.gX,λt x i=>?_⟩;let⟨j,k,n⟩:=H.iL t x i;rcases h.D with f|f
 .have g:=H.len;have:=aw i;rw[f]at g;simp at g;omega
 .exact⟨j,k,Kz (λg=>oh (o _ g)) n⟩
def ap.Rl{l:List Int}(k:∀b∈S,b<d.size)(h:ig d m e 1 s (l.map Ce.i))(n:l.length<=9223372036854775807):ap (bI S m) s l:=by
 have H:=ap.gC h n;refine⟨H.len,H.cap,H.gX,λo x f=>?_⟩;let⟨g,i,j⟩:=H.iL o x f;rcases h.D with a|a
 .have c:=H.len;have:=aw f;rw[a]at c;simp at c;omega
 .exact⟨g,i,Kz (λc=>oh (k _ c)) j⟩
end Go.Vc
end
section
namespace Go.Vc
variable{X Y S:List Nat}{a b c m d:E}{f:List Ce}{s:O}{k:Nat}
structure Fz(X:List Nat)(m d:E):Prop where
 size:m.size<=d.size
 same:∀b,b<m.size->b∉X->d[b]? =m[b]?
def Fz.aA(X:List Nat)(m:E):Fz X m m:=⟨ad _,λ_ _ _=>rfl⟩
def Fz.sG(h:Fz X a b)(k:Fz Y b c)(g:∀y∈Y,y∈X\/a.size<=y):Fz X a c:=
 ⟨bJ h.size k.size,λi d e=>(k.same i (aP d h.size) λf=>(g i f).elim e λh=>V).trans (h.same i d e)⟩
def Fz.trans(h:Fz X a b)(k:Fz X b c):Fz X a c:=h.sG k λ_ d=>Or.inl d
def J.fz(h:J m d)(X:List Nat):Fz X m d:=⟨h.size,λb a _=>h.same b a⟩
def Fz.then(h:Fz X a b)(k:J b c):Fz X a c:=h.trans (k.fz X)
def Fz.push{X:List Nat}{a m:E}(h:Fz X a m)(o:Obj):Fz X a (m.push o):=h.then (J.push m o)
def Fz.ext(h:Fz [] m d):J m d:=⟨h.size,λb a=>h.same b a aN⟩
def Fz.DW(h:Fz X m d)(f:∀b∈X,b∈Y\/m.size<=b):Fz Y m d:=⟨h.size,λb a e=>h.same b a λc=>(f b c).elim e λh=>V⟩
def Fz.ai(h:Fz X a m){b:Nat}(c:b∈X\/a.size<=b)(o:Nat)(l:List Ce):Fz X a (ai m b o l):=
 ⟨by rw[ax];exact h.size,λj f d=>by
  have e:j≠b:=λe=>by subst e;exact c.elim d λc=>V
  rw[bg l m b o e];exact h.same j f d⟩
def Fz.bI(h:Fz X m d){a:List Nat}(f:∀b∈X,b∈S)(e:∀b∈a,b∈S\/m.size<=b):Le (bI S m) (bI a d):=
 pR λb g c=>⟨λi=>(e b i).elim c λh=>V,h.same b g λj=>c (f b j)⟩
def Fz.dj(h:Fz X m d)(a:∀b∈X,b∈S):Le (Vc.bI S m) (Vc.bI S d):=h.bI a λ_ h=>Or.inl h
def Fz.dz(h:Fz X m d){l:List Nat}(c:∀b∈l,b<m.size/\b∉X):eF l m d:=λb a=>h.same b (c b a).1 (c b a).2
inductive Ex where
 |mk (op bS:Int) (bF:List Ex)
def Ex.op:Ex->Int| .mk o _ _=>o
def Ex.bS:Ex->Int| .mk _ n _=>n
def Ex.bF:Ex->List Ex| .mk _ _ k=>k
structure MR(β:Type)where
 op:Int
 bS:Int
 cg:Int
 args:List Int
 bF:List β
inductive Bk where
 |mk (aE:List (MR Bk)) (aT:Int)
abbrev cZ:=MR Bk
def Bk.aE:Bk->List cZ| .mk s _=>s
def Bk.aT:Bk->Int| .mk _ r=>r
@[simp] theorem Ex.Wh (o n:Int) (k:List Ex):(Ex.mk o n k).op=o:=rfl
@[simp] theorem Ex.Us (o n:Int) (k:List Ex):(Ex.mk o n k).bS=n:=rfl
@[simp] theorem Ex.Sd (o n:Int) (k:List Ex):(Ex.mk o n k).bF=k:=rfl
@[simp] theorem Bk.j8 (s:List cZ) (r:Int):(Bk.mk s r).aE=s:=rfl
@[simp] theorem Bk.jE (s:List cZ) (r:Int):(Bk.mk s r).aT=r:=rfl
inductive Cc(m:E):List Ce->Ex->Prop
 |mk (op bS:Int) (bF:List Ex) (s:O) (css:Nat->List Ce) (hl:s.len=bF.length) (hc:s.len<=s.cap) (hm:s.len<=9223372036854775807)
  (hr:∀(k:Nat)(x:Ex),bF[k]? =some x->fS m s.D (s.off+k*3) (css k)) (hk:∀(k:Nat)(x:Ex),bF[k]? =some x->Cc m (css k) x):Cc m [.i op,.i bS,.s s] (.mk op bS bF)
inductive rZ(m:E):List Ce->Bk->Prop
 |mk (aE:List (MR Bk)) (r:Int) (s:O) (hl:s.len=aE.length) (hc:s.len<=s.cap) (hm:s.len<=9223372036854775807) (aa ks:Nat->O) (kcs:Nat->Nat->List Ce)
  (hr:∀(k:Nat)(x:MR Bk),aE[k]? =some x->fS m s.D (s.off+k*5) [.i x.op,.i x.bS,.i x.cg,.s (aa k),.s (ks k)]/\ap m (aa k) x.args/\(ks k).len=x.bF.length/\(ks k).len<=(ks k).cap/\(ks k).len<=9223372036854775807)
  (hb:∀(k:Nat)(x:MR Bk)(j:Nat)(b:Bk),aE[k]? =some x->x.bF[j]? =some b->fS m (ks k).D ((ks k).off+j*2) (kcs k j))
  (hk:∀(k:Nat)(x:MR Bk)(j:Nat)(b:Bk),aE[k]? =some x->x.bF[j]? =some b->rZ m (kcs k j) b):rZ m [.s s,.i r] (.mk aE r)
def gK(m:E)(f:List Ce)(x:cZ):Prop:=∃a k,f=[.i x.op,.i x.bS,.i x.cg,.s a,.s k]/\ap m a x.args/\eV m 2 (rZ m) k x.bF
abbrev fI(m:E)(s:O)(l:List Ex):Prop:=eV m 3 (Cc m) s l
abbrev eR(m:E)(s:O)(l:List cZ):Prop:=eV m 5 (gK m) s l
abbrev nT(m:E)(s:O)(l:List Bk):Prop:=eV m 2 (rZ m) s l
def Cc.le(h:Le m d){e:Ex}(a:Cc m f e):Cc d f e:=by
 induction a with
 |mk n bS bF s b g c i a o l=>exact .mk n bS bF s b g c i (λk x j=>h.iL (a k x j)) l
def rZ.le{m d:E}(h:Le m d){f:List Ce}{b:Bk}(a:rZ m f b):rZ d f b:=by
 induction a with
 |mk aE t s o n p e ks r a l u q=>
  exact .mk aE t s o n p e ks r (λk x c=>let⟨g,i,j⟩:=a k x c;⟨h.iL g,i.le h,j⟩) (λk x j b c g=>h.iL (l k x j b c g)) q
def eV.choose{α:Type}{m:E}{a:Nat}{R:List Ce->α->Prop}{s:O}{l:List α}(h:eV m a R s l):
 ∃b:Nat->List Ce,∀(k:Nat)(x:α),l[k]? =some x->R (b k) x/\fS m s.D (s.off+k*a) (b k):=by
 have:∀k:Nat,∃f:List Ce,∀x:α,l[k]? =some x->R f x/\fS m s.D (s.off+k*a) f:=λk=>by
  cases e:l[k]? with
  |none=>exact⟨[],λx c=>by simp at c⟩
  |some x=>obtain⟨f,d⟩:=h.iL k x e;exact⟨f,λy c=>by simp at c;exact c▸d⟩
 exact⟨λk=>Classical.choose (this k),λk=>fP (this k)⟩
def Cc.aU{e:Ex}(h:Cc m f e):∃s,f=[.i e.op,.i e.bS,.s s]/\fI m s e.bF:=by
 cases h with
 |mk l bS bF s b g c i j d=>exact⟨s,rfl,g,c,i,λk x a=>⟨b k,d k x a,j k x a⟩⟩
def Cc.of{b bS:Int}{bF:List Ex}(h:fI m s bF):Cc m [.i b,.i bS,.s s] (.mk b bS bF):=by
 let⟨d,c⟩:=h.choose;exact .mk b bS bF s d h.len h.cap h.gX (λk x a=>(c k x a).2) λk x a=>(c k x a).1
def rZ.aU{b:Bk}(h:rZ m f b):∃s,f=[.s s,.i b.aT]/\eR m s b.aE:=by
 cases h with
 |mk aE w s r p t d ks v u o q=>
  exact⟨s,rfl,r,p,t,λk x a=>let⟨e,g,i,l,n⟩:=u k x a;⟨_,⟨d k,ks k,rfl,g,i,l,n,λj b c=>⟨v k j,q k x j b a c,o k x j b a c⟩⟩,e⟩⟩
def rZ.of{r:Int}{aE:List cZ}(h:eR m s aE):rZ m [.s s,.i r] (.mk aE r):=by
 let⟨n,l⟩:=h.choose;have:∀k:Nat,∃(a c:O)(kc:Nat->List Ce),∀x:cZ,aE[k]? =some x->n k=[.i x.op,.i x.bS,.i x.cg,.s a,.s c]/\ap m a x.args/\(c.len=x.bF.length/\c.len<=c.cap/\c.len<=9223372036854775807)/\
  ∀(j:Nat)(b:Bk),x.bF[j]? =some b->rZ m (kc j) b/\fS m c.D (c.off+j*2) (kc j):=λk=>by
  cases o:aE[k]? with
  |none=>exact⟨.nil,.nil,λ_=>[],λx d=>by simp at d⟩
  |some x=>
   obtain⟨⟨a,c,f,g,e⟩,_⟩:=l k x o
   let⟨kc,p⟩:=e.choose
   exact⟨a,c,kc,λy i=>by simp at i;subst i;exact⟨f,g,⟨e.len,e.cap,e.gX⟩,p⟩⟩
 have H:=λk=>fP (fP (fP (this k)));refine .mk aE r s h.len h.cap h.gX (λk=>Classical.choose (this k)) (λk=>Classical.choose (fP (this k))) (λk=>Classical.choose (fP (fP (this k)))) (λk x d=>?_) (λk x j b d i=>((H k x d).2.2.2 j b i).2) λk x j b d i=>((H k x d).2.2.2 j b i).1;obtain⟨f,g,e,_⟩:=H k x d;exact⟨by rw[<-f];exact(l k x d).2,g,e⟩
def gK.le{m d:E}(h:Le m d){f:List Ce}{x:cZ}:gK m f x->gK d f x:=λ⟨a,k,b,c,e⟩=>⟨a,k,b,c.le h,eV.le e h λ_ _=>rZ.le h⟩
def fI.le{m d:E}(a:Le m d){s:O}{l:List Ex}(h:fI m s l):fI d s l:=eV.le h a λ_ _=>Cc.le a
def eR.le{m d:E}(a:Le m d){s:O}{l:List cZ}(h:eR m s l):eR d s l:=eV.le h a λ_ _=>gK.le a
def nT.le{m d:E}(a:Le m d){s:O}{l:List Bk}(h:nT m s l):nT d s l:=eV.le h a λ_ _=>rZ.le a
def fI.aF{l:List Ex}(h:fI m s l){x:Ex}(b:l[k]? =some x):
 ∃t,fI m t x.bF/\af m s.D (s.off+k*3)=some (vi x.op)/\af m s.D (s.off+k*3+1)=some (vi x.bS)/\af m s.D (s.off+k*3+2)=some (O.v t):=by
 let⟨f,d,a⟩:=h.iL k x b
 obtain⟨t,rfl,c⟩:=d.aU
 exact⟨t,c,a 0 _ rfl,a 1 _ rfl,a 2 _ rfl⟩
def eR.aF{l:List cZ}(h:eR m s l){x:cZ}(e:l[k]? =some x):
 ∃a t,ap m a x.args/\nT m t x.bF/\af m s.D (s.off+k*5)=some (vi x.op)/\af m s.D (s.off+k*5+1)=some (vi x.bS)/\af m s.D (s.off+k*5+2)=some (vi x.cg)/\af m s.D (s.off+k*5+3)=some (O.v a)/\af m s.D (s.off+k*5+4)=some (O.v t):=by
 obtain⟨f,⟨a,t,rfl,c,d⟩,b⟩:=h.iL k x e
 exact⟨a,t,c,d,b 0 _ rfl,b 1 _ rfl,b 2 _ rfl,b 3 _ rfl,b 4 _ rfl⟩
def nT.aF{l:List Bk}(h:nT m s l){x:Bk}(b:l[k]? =some x):
 ∃t,eR m t x.aE/\af m s.D (s.off+k*2)=some (O.v t)/\af m s.D (s.off+k*2+1)=some (vi x.aT):=by
 let⟨f,d,a⟩:=h.iL k x b
 obtain⟨t,rfl,c⟩:=d.aU
 exact⟨t,c,a 0 _ rfl,a 1 _ rfl⟩
def Bk.w:Bk->Nat
 | .mk aE _=>1+(aE.map λs=>1+s.args.length+(s.bF.map Bk.w).sum).sum
decreasing_by
 rename_i s a _ _
 have b:=oY a
 have c:=oY (by assumption:_∈s.bF)
 have d:SizeOf.sizeOf s.bF<SizeOf.sizeOf s:=by cases s;simp;omega
 simp;omega
def MR.w(s:MR Bk):Nat:=1+s.args.length+(s.bF.map Bk.w).sum
def Bk.Zt(b:Bk):b.w=1+(b.aE.map MR.w).sum:=by
 cases b;rw[Bk.w];rfl
def Ex.n:Ex->Nat
 | .mk _ _ bF=>1+(bF.map Ex.n).sum
end Go.Vc
end
section
namespace Go.Vc
variable{S Y S' X:List Nat}{d a c:E}{b k n h tb:Nat}{s x:O}{g cs i:List Ce}{f:List (List Ce)}{K:O->E->Prop}
structure oO{α:Type}(sz:Nat)(R:E->List Ce->α->Prop):Prop where
 le:∀{M M':E}{cs:List Ce}{x:α},Le M M'->R M cs x->R M' cs x
 len:∀{M:E}{cs:List Ce}{x:α},R M cs x->cs.length=sz
def uv(_:E)(cs:List Ce)(n:Int):Prop:=U6 cs n
def uv.mono:oO 1 uv:=⟨λ_ h=>h,λh=>by rw[h];rfl⟩
def Cc.mono:oO 3 Cc:=⟨λh=>Cc.le h,λh=>by obtain⟨s,rfl,_⟩:=h.aU;rfl⟩
def rZ.mono:oO 2 rZ:=⟨λh=>rZ.le h,λh=>by obtain⟨s,rfl,_⟩:=h.aU;rfl⟩
def gK.mono:oO 5 gK:=⟨λh=>gK.le h,λh=>by obtain⟨_,_,rfl,_⟩:=h;rfl⟩
structure Gr{α:Type}(S:List Nat)(d a:E)(b sz:Nat)(R:E->List Ce->α->Prop)(s:O)(l:List α):Prop where
 jm:s≠.nil
 aS:∃f,ig d a b sz s f.flatten/\gV sz (R (bI (s.D::S) a)) f l
def Gr.len{α:Type}{S:List Nat}{d a:E}{b e:Nat}{R:E->List Ce->α->Prop}{s:O}{l:List α}(h:Gr S d a b e R s l)(i:0<e):s.len=l.length:=by
 obtain⟨_,f,g,c⟩:=h;have:=g.len;rw[cy c.size]at this;rw[<-c.len,UO i this]
def Gr.bq{α:Type}{g:Nat}{R:E->List Ce->α->Prop}{l:List α}(h:Gr S d a b g R s l):d.size<=s.D/\s.D<a.size:=by
 let⟨c,f,e,i⟩:=h;exact⟨e.D.resolve_left c,e.lt.resolve_left c⟩
def Gr.new{α:Type}(S:List Nat){d a:E}(h:d.size<=a.size)(b c:Nat)(R:E->List Ce->α->Prop):Gr S d (a.push (.cells (bz []) b)) b c R (.mk a.size 0 0 0) []:=
 ⟨aN,[],(ig.new (J.aA a) b c [] 0 aN).cA h,gV.nil _ _⟩
def Gr.eC{α:Type}{g:Nat}{R:E->List Ce->α->Prop}{l:List α}(o:oO g R)(h:Gr S d a b g R s l)(j:Fz Y a c)(i:∀e∈Y,e∈S/\e<d.size):Gr S d c b g R s l:=by
 have q:=h.bq;let⟨k,f,m,n⟩:=h;refine⟨k,f,m.congr (j.same _ q.2 λp=>oh ((i _ p).2)),n.mono λcs x=>o.le ?_⟩;exact j.dj λe p=>ah _ (i e p).1
def Gr.NV{α:Type}{g:Nat}{R:E->List Ce->α->Prop}{l:List α}(n:oO g R)(h:Gr S d a b g R s l)(i:Fz Y a c)(o:∀e∈Y,e∈S)(q:s.D∉Y):Gr S d c b g R s l:=by
 have r:=h.bq;let⟨j,f,k,m⟩:=h;exact⟨j,f,k.congr (i.same _ r.2 q),m.mono λcs x=>n.le (i.dj λe p=>ah _ (o e p))⟩
def Gr.re{α:Type}{h:Nat}{R:E->List Ce->α->Prop}{l:List α}(o:oO h R)(i:Gr S d a b h R s l)(j:Fz Y a c)(q:∀e∈Y,e∈S)(r:s.D∉Y)(p:∀e∈S',e∈S\/a.size<=e):Gr S' d c b h R s l:=by
 have t:=i.bq;let⟨k,f,m,n⟩:=i;refine⟨k,f,m.congr (j.same _ t.2 r),n.mono λcs x=>o.le (j.bI (λe g=>ah _ (q e g)) λe g=>?_)⟩;rcases List.mem_cons.1 g with g|g
 .exact Or.inl (by rw[g];exact aZ)
 .exact(p e g).imp (ah _) id
def Gr.ext{α:Type}{e:Nat}{R:E->List Ce->α->Prop}{l:List α}(f:oO e R)(h:Gr S d a b e R s l)(g:J a c):Gr S d c b e R s l:=
 h.eC f (g.fz []) aN
def Gr.done{α:Type}{c:Nat}{R:E->List Ce->α->Prop}{l:List α}(j:oO c R)(h:Gr S d a b c R s l)(k:∀e∈S,e<d.size)(o:0<c)(n:l.length<=9223372036854775807):eV (bI S a) c (R (bI S a)) s l:=by
 obtain⟨_,f,g,i⟩:=h;exact eV.Rl k g (i.mono λcs x=>j.le (je a λe m=>ah _ m)) o n
def J.Nj(h:k<=a.size):J (a.extract 0 k) a:=by
 refine⟨bG,λb c=>?_⟩;have d:b<k:=by simp at c;omega
 rw[Array.getElem?_extract];simp;omega
def mD(h:k<=a.size):(a.extract 0 k).size=k:=bG
def Gr.next{α:Type}{F:Nat}{R:E->List Ce->α->Prop}{C D:List α}(G:oO g.length R)(W:0<g.length)
 (y:Gr S d a b g.length R s C)(H:Fz X d a)(u:x.len=f.length)(T:fS a x.D x.off f.flatten)(n:gV g.length (R (bI (s.D::S) a)) f D)(i:(C.length+D.length)*F<=140737488355328)
 (P:∀r c,Gr S d c b g.length R r (C++D)->Fz X d c->(a.size<=c.size/\(r.D=s.D\/a.size<=r.D))->(∀e,e<a.size->e≠s.D->c[e]? =a[e]?)->K r c):jT a b g F s x K:=by
 have Q:=y.len W
 have hy:=y.bq
 let⟨z,w,O,j⟩:=y
 have q:d.size<=a.size:=H.size
 refine ig.append (g:=a.extract 0 d.size) (zs:=g) (d:=f.flatten) (l:=w.flatten) (O.cA (by rw[mD q];exact ad _)) (J.Nj q) ?_ T (by rw[Q,u,n.len];exact i) λr c Y k2 k3 Z k5 B=>?_
 .rw[cy n.size,u]
 have A:∀e,e<a.size->e≠s.D->c[e]? =a[e]? :=λe i k=>k5 e i λ_=>k
 have U:r≠.nil:=by
  rcases B with⟨h,_⟩|⟨_,_,h⟩|h
  .exact absurd h z
  .exact h
  .intro b;rw[b]at h;simp at h;omega
 have L:a.size<=c.size:=Z
 have I:Le (bI (s.D::S) a) (bI (r.D::S) c):=pR λe i k=>by
  simp only[aW,vP]at k;refine⟨?_,A e i k.1⟩;simp only[aW,vP];refine⟨?_,k.2⟩;rcases B with⟨h,_⟩|⟨_,h,_⟩|h
  .exact absurd h z
  .rw[h];exact k.1
  .omega
 refine P r c ⟨U,w++f,?_,?_⟩ ⟨bJ q L,λe i u=>?_⟩ ⟨L,?_⟩ A
 .rw[qX]
  exact Y.cA (by rw[mD q];exact ad _)
 .refine⟨by simp[j.len,n.len],λm o=>?_,λM m N t v=>?_⟩
  .rcases List.mem_append.1 o with o|o
   .exact j.size m o
   .exact n.size m o
  .rcases aX M w.length with p|p
   .rw[az p]at t
    rw[az (j.len▸p)]at v
    exact G.le I (j.dD M m N t v)
   .rw[aK p]at t
    rw[aK (by rw[<-j.len];exact p),<-j.len]at v
    exact G.le I (n.dD _ m N t v)
 .rw[A e (aP i q) V];exact H.same e i u
 .rcases B with⟨h,_⟩|⟨_,h,_⟩|h
  .exact absurd h z
  .exact Or.inl h
  .exact Or.inr V
def Gr.kY{α:Type}{n:Nat}{R:E->List Ce->α->Prop}{m:List α}{k:α}(i:oO g.length R)(z:0<g.length)
 (q:Gr S d a b g.length R s m)(w:Fz X d a)(p:R (bI (s.D::S) a) cs k)(j:(m.length+1)*n<=140737488355328)
 (x:∀r c,Gr S d c b g.length R r (m++[k])->Fz X d c->(a.size<=c.size/\(r.D=s.D\/a.size<=r.D))->(∀f,f<a.size->f≠s.D->c[f]? =a[f]?)->K r c):jT (a.push (.cells (bz cs) b)) b g n s (.mk a.size 0 1 1) K:=by
 have h:=J.push a (.cells (bz cs) b)
 refine Gr.next (f:=[cs]) (D:=[k]) i z (q.ext i h) (w.then h) rfl ?_ ?_ j λr c t u o v=>x r c t u ⟨bJ h.size o.1,o.2.imp id (bJ h.size)⟩ λf j y=>(v f (aP j h.size) y).trans (h.same f j)
 .have:=(cK.push a (e:=b) (l:=cs)).iL
  simpa using this
 .have:=gV.yV (gV.nil g.length (R (bI (s.D::S) (a.push (.cells (bz cs) b))))) (i.len p) (i.le (h.dj _) p)
  simpa using this
def eV.Wk{α:Type}{b:Nat}{R:List Ce->α->Prop}{l:List α}(z:∀cs x,R cs x->cs.length=b)(r:eV a b R s l):
 ∃f,s.len=f.length/\fS a s.D s.off f.flatten/\gV b R f l:=by
 let⟨e,k⟩:=r.choose
 have w:∀(c:Nat)(cs:List Ce),((List.range l.length).map e)[c]? =some cs->c<l.length/\cs=e c:=λc cs d=>by
  simp only[cN,jO]at d;let⟨E,o,B⟩:=d;let⟨t,u⟩:=List.getElem?_eq_some_iff.1 o;simp at t u;subst u;exact⟨t,B.symm⟩
 have m:∀cs∈(List.range l.length).map e,cs.length=b:=λcs D=>by
  let⟨c,d⟩:=List.mem_iff_getElem?.1 D;obtain⟨o,rfl⟩:=w c cs d;let⟨x,h⟩:=dG o;exact z _ _ (k c x h).1
 refine⟨(List.range l.length).map e,by simp[r.len],λi A q=>?_,aN,m,λc cs x d h=>?_⟩
 .rcases ku b with n|n
  .have g:=aw q
   rw[cy m,n]at g;simp at g
  have g:=aw q
  rw[cy m]at g
  simp at g
  have d:i/b<l.length:=Nat.div_lt_of_lt_mul (by rw[Nat.mul_comm];exact g)
  let⟨x,h⟩:=dG d
  have y:i=i/b*b+i%b:=by rw[Nat.mul_comm];exact(Nat.div_add_mod i b).symm
  have H:=Nat.mod_lt i n
  have G:(e (i/b)).length=b:=z _ _ (k _ x h).1
  let⟨F,v⟩:=cL (e (i/b)) (i%b)
  have p:=fY (d:=(List.range l.length).map e) m (b:=i/b) (a:=e (i/b)) (by simp[d]) v
  rw[<-y,q]at p
  simp at p;subst p
  have C:=(k _ x h).2 _ A v
  rw[y,<-dq];exact C
 .obtain⟨_,rfl⟩:=w c cs d
  exact(k c x h).1
def Gr.all{α:Type}{j:Nat}{R:E->List Ce->α->Prop}{l i:List α}(k:oO g.length R)(v:0<g.length)
 (h:Gr S d a b g.length R s l)(t:Fz X d a)(p:eV (bI (s.D::S) a) g.length (R (bI (s.D::S) a)) x i)(q:(l.length+i.length)*j<=140737488355328)
 (u:∀r c,Gr S d c b g.length R r (l++i)->Fz X d c->(a.size<=c.size/\(r.D=s.D\/a.size<=r.D))->(∀e,e<a.size->e≠s.D->c[e]? =a[e]?)->K r c):jT a b g j s x K:=by
 let⟨f,m,n,o⟩:=p.Wk λ_ _ h=>k.len h
 exact Gr.next k v h t m ((bD _ _).iL n) o q u
def Gr.lit{α:Type}{e:Nat}{R:E->List Ce->α->Prop}{l:List α}(j:oO e R)(i:d.size<=a.size)(p:∀g∈S,g<d.size)(k:cs=f.flatten)(m:n=f.length)(h:gV e (R (bI S a)) f l):
 Gr S d (a.push (.cells (bz cs) b)) b e R (.mk a.size 0 n n) l:=by
 subst k m
 refine⟨aN,f,(ig.new (J.aA a) b e f.flatten f.length (cy h.size)).cA i,h.mono λo x=>j.le ?_⟩
 exact(J.push a _).bI λg c=>by
  rcases List.mem_cons.1 c with c|c
  .exact Or.inr (by simp[c])
  .exact Or.inl c
def Gr.nV{α:Type}{c:Nat}{R:E->List Ce->α->Prop}{l:List α}(m:oO c R)(h:Gr S d a b c R s l)(n:s.D∉S)(q:0<c)(p:l.length<=9223372036854775807):eV (bI S a) c (R (bI S a)) s l:=by
 obtain⟨_,f,e,g⟩:=h;have H:=eV.gC e (g.mono λcs x=>m.le (je a λj i=>ah s.D i)) q p;exact⟨H.len,H.cap,H.gX,λk x o=>let⟨cs,i,j⟩:=H.iL k x o;⟨cs,i,Kz n j⟩⟩
def Gr.ne{α:Type}{p:Nat}{R:E->List Ce->α->Prop}{o:List α}(k:Gr S d a b p R s o)(g:cK a h tb i)(n:tb≠b):s.D≠h:=by
 let⟨l,f,m,w⟩:=k;let⟨q,r,tail,j,t,c,u,v⟩:=m.aF.resolve_left l;intro e;rw[j]at e;simp only[O.jJ]at e;subst e;unfold cK at g c;rw[g]at c;simp at c;exact n c.2
def Gr.LG{α β:Type}{q:E}{r c t:Nat}{R:E->List Ce->α->Prop}{g:E->List Ce->β->Prop}{e:O}{o:List α}{p:List β}(j:Gr S d a b r R s o)(k:Gr S' q a c t g e p)(n:c≠b):s.D≠e.D:=by
 let⟨l,f,m,z⟩:=k;let⟨u,v,tail,h,w,i,x,y⟩:=m.aF.resolve_left l;have:=j.ne i n;rw[h];exact this
def Gr.box{α:Type}{L:List Nat}{j y:Nat}{R:E->List Ce->α->Prop}{u:List α}{w:α}{K:E->Prop}(B:oO g.length R)(U:0<g.length)
 (o:Gr S d a b g.length R s u)(C:Fz X d a)(P:R (bI (s.D::S) a) cs w)(k:(u.length+1)*y<=140737488355328)
 (p:cK a h tb i)(hi:j<i.length)(G:tb≠b)(t:d.size<=h/\h∈S)(A:∀e∈L,e<a.size/\e≠h/\e≠s.D)
 (Q:∀r c,Gr S d c b g.length R r (u++[w])->cK c h tb (jt i j [.s r])->Fz X d c->a.size<=c.size->(∀e,e<a.size->e≠s.D->e≠h->c[e]? =a[e]?)->K c):
 af (a.push (.cells (bz cs) b)) h j=af a h j/\
 jT (a.push (.cells (bz cs) b)) b g y s (.mk a.size 0 1 1) λr c=>eF L (a.push (.cells (bz cs) b)) c/\fO c h j 1/\(eF L c (ai c h j [.s r])/\K (ai c h j [.s r])):=by
 have D:=p.lt
 have H:=J.push a (.cells (bz cs) b)
 have hy:=o.bq
 refine⟨aI (H.same h D) j,Gr.kY B U o C P k λr c z I W v=>?_⟩
 have q:cK c h tb i:=p.congr (v h D (kT (o.ne p G)))
 have T:=z.ne q G
 have n:∀e,e≠h->(ai c h j [.s r])[e]? =c[e]? :=λe k=>bg _ _ _ _ k
 have Z:=C.size
 have Y:=t.1
 refine⟨λe k=>?_,q.fO V,λe k=>n e (A e k).2.1,Q r _ ?_ (cK.ai (m:=c) q) (I.ai (Or.inr t.1) _ _) (by rw[ax];exact W.1) λe l N O=>(n e O).trans (v e l N)⟩
 .have l:=A e k
  rw[v e l.1 l.2.2,H.same e l.1]
 .let⟨M,f,g1,g2⟩:=z
  refine⟨M,f,g1.congr (n _ T),g2.mono λcs x=>B.le ?_⟩
  exact pR λe k F=>⟨F,n e λb=>F (by rw[b];exact ah _ t.2)⟩
def ap.lit(b:Nat)(l:List Int)(d:∀c∈S,c<a.size)(c:cs=l.map Ce.i)(f:n=l.length)(e:l.length<=9223372036854775807):ap (bI S (a.push (.cells (bz cs) b))) (.mk a.size 0 n n) l:=by
 subst c f;have h:=ig.new (J.aA a) b 1 (l.map Ce.i) l.length aN;exact ap.Rl d h e
end Go.Vc
end
section
namespace Go.Vc
variable{x y:Operand}{k:SV->Prop}{l h:List Ce}{f:Int->Prop}{r:List Sh}{a:Int}{g:Array (Nat×Operand)}{e:List Oper}{Q:Exit->Fr->E->Prop}{c:Code}
section
variable{P:Program}{T:TT}{G:List Nat}{n:Nat}{A:Ps}{m q:E}{p u:Fr}{b o j i t:Nat}{s:Sh}{d:Option Nat}{v:Value}
def nc(n:Nat):Int:=n
def nce{n:Nat}:nc n=n:=rfl
def VX:TM T p .len [t] [x] k=match fN T t,ev p x with
 |some ⟨.slice _,_,_⟩,.c (.s s)=>k (.c (.i (nc s.len)))
 |_,_=>False:=rfl
def VY{l:List Nat}:TM T p .max l [x,y] k=match ev p x,ev p y with
 | .c (.i a),.c (.i b)=>k (.c (.i (if b>a then b else a)))
 |_,_=>False:=rfl
def VZ{l:List Nat}:TM T p .min l [x,y] k=match ev p x,ev p y with
 | .c (.i a),.c (.i b)=>k (.c (.i (if b<a then b else a)))
 |_,_=>False:=rfl
def Sg(m:E)(k:E->Prop):O1 m k=(let q:=m;k q):=rfl
def pa{α:Type}(x:α)(f:α->Prop):Prop:=f x
def Tl(s:Sh)(f:s.ty->Prop):Prop:=∃x,f x
def U8(s:Sh)(f:s.ty->Prop):Prop:=∀x,f x
def exI:Tl .I f=∃x,pa x f:=rfl
def exU{k:IntKind}:Tl (.U k) f=∃x,pa x f:=rfl
def exB{f:Bool->Prop}:Tl .T f=∃x,pa x f:=rfl
def YF{f:O->Prop}:Tl .S f=∃x,pa x f:=rfl
def exP{f:Nat×Nat->Prop}:Tl .P f=∃x,pa x f:=rfl
def exF{f:Fn×Array Value×Array Value->Prop}:Tl .F f=∃x,pa x f:=rfl
def exM{f:Nat->Prop}:Tl .M f=∃x,pa x f:=rfl
def alI:U8 .I f=∀x,f x:=rfl
def alU{k:IntKind}:U8 (.U k) f=∀x,f x:=rfl
def alB{f:Bool->Prop}:U8 .T f=∀x,f x:=rfl
def Yl{f:O->Prop}:U8 .S f=∀x,f x:=rfl
def alP{f:Nat×Nat->Prop}:U8 .P f=∀x,f x:=rfl
def alF{f:Fn×Array Value×Array Value->Prop}:U8 .F f=∀x,f x:=rfl
def alM{f:Nat->Prop}:U8 .M f=∀x,f x:=rfl
def cU8{x:Int}:kZ (.int .u8 x)=some (.u .u8 x):=rfl
def z0:mT h 0=[]:=rfl
def z1:mT h (n+1)=h++mT h n:=rfl
def tb{a b:Nat}:Nat.testBit a b=(1&&&(a>>>b)!=0):=rfl
def VS{e:Edge}{a:List Edge}:lQ (e::a)=bif Region.binds .any e then 2^e.on|||lQ a else lQ a:=rfl
def b1:Region.binds .any ⟨i,.data⟩=true:=rfl
def b2:Region.binds .any ⟨i,.chain⟩=true:=rfl
def b3:Region.binds .any ⟨i,.guard⟩=true:=rfl
def b4:Region.binds .any ⟨i,.phase⟩=true:=rfl
def b5{x:Departure}:Region.binds .any ⟨i,.gcOnly x⟩=false:=rfl
def b6{x:Departure}:Region.binds .any ⟨i,.textOnly x⟩=false:=rfl
def Sb(c:Ce)(k:List Ce->Prop)(l:List Ce):Prop:=k (c::l)
def Vp(k:SV->Prop)(l:List Ce):Prop:=k (.agg l)
def kld(m:E)(b o j:Nat)(s:Sh)(r:List Sh)(k:List Ce->Prop)(x:s.ty):Prop:=
 af m b (bif j==0 then o else o+j)=some (s.mk x).v/\We m b o (j+1) r (Sb (s.mk x) k)
def YA{k:List Ce->Prop}:We m b o j (s::r) k=Tl s (kld m b o j s r k):=by
 cases j<;>rfl
def klc(m:E)(b o:Nat)(s:Sh)(k:SV->Prop)(x:s.ty):Prop:=af m b o=some (s.mk x).v/\k (.c (s.mk x))
def T9{t:Nat}:Qb T m t b o k=match fN T t with
 |some ⟨.struct _,a,_⟩=>We m b o 0 a (Vp k)
 |some ⟨.cell,[s],_⟩=>Tl s (klc m b o s k)
 |some ⟨.slice _,[_],_⟩=>∃x:O,af m b o=some x.v/\k (.c (.s x))
 |_=>False:=rfl
def ile{b:Int}:Int.le a b=(a<=b):=rfl
def khi(s:O)(z:Nat)(l:Int)(k:SV->Prop)(h:Int):Prop:=Int.le 0 l/\Int.le l h/\Int.le h (nc s.cap)/\k (.c (.s (s.cut l.toNat h.toNat z)))
def klo(p:Fr)(a:Option Operand)(s:O)(z:Nat)(k:SV->Prop)(l:Int):Prop:=Nh p a (nc s.len) (khi s z l k)
def Yy{f:Nat}{mk:Nat->SV}:FY T t f o mk k=match fN T t with
 |some ⟨.struct c,_,_⟩=>match Il c f with
  |some (a,u)=>match fN T u with
   |some b=>bif b.uS||Nat.beq b.sh.length 0 then False else bif a==0 then k (mk o)else k (mk (o+a))
   |none=>False
  |none=>False
 |_=>False:=by
 have h:∀a,(bif a==0 then k (mk o)else k (mk (o+a)))=k (mk (o+a)):=λa=>by cases a<;>rfl
 simp only[h];rfl
def VW{s:O}{n:Int}:Xq T t s n k=match fN T t with
 |some ⟨.slice e,_,_⟩=>match fN T e with
  |some a=>bif a.uS then False else Int.le 0 n/\n<nc s.len/\k (.c (.p s.D (s.off+n.toNat*a.sh.length)))
  |none=>False
 |_=>False:=rfl
def RY{s:O}{b a:Option Operand}:Ry T p t s b a k=match fN T t with
 |some ⟨.slice e,_,_⟩=>match fN T e with
  |some c=>bif c.uS then False else Nh p b 0 (klo p a s c.sh.length k)
  |none=>False
 |_=>False:=rfl
def RU:rd T p m k (.build t g)=match fN T t with
 |some ⟨.struct a,b,_⟩=>bif vA T a then FR T p a (b.map Sh.zero) g.toList (Vp k)else False
 |_=>False:=rfl
def kxc(s:Sh)(r:List Sh)(k:List Ce->Prop)(x:s.ty):Prop:=UU r (Sb (s.mk x) k)
def VU{k:List Ce->Prop}:UU (s::r) k=Tl s (kxc s r k):=rfl
def YN(a:AV)(k:List AV->Prop)(l:List AV):Prop:=k (a::l)
def kxt(T:TT)(r:List Nat)(k:List AV->Prop)(l:List Ce):Prop:=SJ T r (YN (.agg l) k)
def kxs(T:TT)(s:Sh)(r:List Nat)(k:List AV->Prop)(x:s.ty):Prop:=SJ T r (YN (.c (s.mk x)) k)
def VV{r:List Nat}{k:List AV->Prop}:SJ T (t::r) k=match fN T t with
 |some ⟨.struct _,a,_⟩=>UU a (kxt T r k)
 |some ⟨.cell,[s],_⟩=>Tl s (kxs T s r k)
 |some ⟨.slice _,[_],_⟩=>∃x:O,SJ T r (YN (.c (.s x)) k)
 |_=>False:=rfl
def krt(v:Value)(k:SV->Prop)(l:List AV):Prop:=v=.tuple (l.map AV.v).toArray/\k (.XC l)
def krs(v:Value)(k:SV->Prop)(l:List Ce):Prop:=v=.agg (l.map Ce.v).toArray/\k (.agg l)
def krc(v:Value)(s:Sh)(k:SV->Prop)(x:s.ty):Prop:=v=(s.mk x).v/\k (.c (s.mk x))
def V5:Qj T t v k=match fN T t with
 |some ⟨.tuple [],_,_⟩=>k .fW
 |some ⟨.tuple a,_,_⟩=>SJ T a (krt v k)
 |some ⟨.struct _,a,_⟩=>UU a (krs v k)
 |some ⟨.cell,[s],_⟩=>Tl s (krc v s k)
 |some ⟨.slice _,[_],_⟩=>∃x:O,v=x.v/\k (.c (.s x))
 |_=>False:=rfl
def Vq(k:Fr->SV->E->Prop)(p:Fr)(m:E)(x:SV):Prop:=k p x m
def inG(G:List Nat)(g:Nat):Prop:=G.elem g=true
def YL{G:List Nat}{g:Nat}:inG G g=(G.elem g=true):=rfl
def nz(b:Int):Prop:=b≠0
def nze{b:Int}:nz b=(b≠0):=rfl
def V1{b:Int}:sj .quo a b k=(nz b/\k (.c (.i (cG (a.tdiv b))))):=rfl
def V3{b:Int}:sj .rem a b k=(nz b/\k (.c (.i (a.tmod b)))):=rfl
def TZ{c:Nat}{f:Operand}{a:List Operand}{k:Fr->SV->E->Prop}:TP P T G n p m c f a k=match Ue p (a.map (ev p))with
 |none=>False
 |some u=>match ev p f with
  | .c (.fn (.func g) first b)=>bif G.elem g&&a.all (λx=>(ev p x).jQ)then
   aO P g (first.toList++(a.map λx=>(ev p x).v)++b.toList) m λv q=>Az (MP n u []) m q (Qj T c v (Vq k u q))
   else False
  | .c (.fv b)=>bif a.all (λx=>(ev p x).jQ)then
   ∃g,b.1=.func g/\inG G g/\aO P g (b.2.1.toList++(a.map λx=>(ev p x).v)++b.2.2.toList) m λv q=>Az (MP n u []) m q (Qj T c v (Vq k u q))
   else False
  |_=>False:=rfl
def p3(m:E)(k:Fr->SV->E->Prop)(p:Fr)(x:SV):Prop:=k p x m
def p2(m:E)(k:SV->E->Prop)(x:SV):Prop:=k x m
def Ub{k:Fr->SV->E->Prop}:SW n p none m t l k=O1 (m.push (.cells (bz l) t)) λq=>p3 q k p (.c (.p m.size 0)):=rfl
def Uc{j:Nat}{k:Fr->SV->E->Prop}:SW n p (some j) m t l k=match iD p (n+j)with
 | .zR _ _ _=>False
 |_=>O1 (m.push (.cells (bz l) t)) λq=>p3 q k ((n+j,.box m.size t l)::p) (.c (.bp (n+j) m.size 0)):=rfl
def YD{x:SV}{k:Fr->SV->E->Prop}:Pk n p m x l k=match x with
 | .c (.p b o)=>fO m b o l.length/\O1 (ai m b o l) λq=>Az (MP n p []) m q (k p .un q)
 | .c (.bp d b o)=>match iD p d with
  | .box a e c=>bif Nat.ble (o+l.length) c.length then nI a b (O1 (ai m b o l) λq=>p3 q k ((d,.box a e (jt c o l))::p) .un)else False
  | .zR _ _ _=>False
  |_=>fO m b o l.length/\O1 (ai m b o l) λq=>Az (MP n p []) m q (k p .un q)
 |_=>False:=rfl
def YC{b:Nat}{k:Fr->SV->E->Prop}:wr P T G n p m d b k (.makeSlice t x y)=match fN T t,ev p x,ev p y with
 |some ⟨.slice e,_,_⟩,.c (.i l),.c (.i c)=>match fN T e with
  |some a=>bif a.uS then False else Int.le 0 l/\Int.le l c/\Int.le (nc a.bytes*c) 281474976710656/\Int.le c 9223372036854775807/\
   O1 (m.push (.cells (bz (mT (a.sh.map Sh.zero) c.toNat)) e)) λq=>p3 q k p (.c (.s (.mk m.size 0 l.toNat c.toNat)))
  |none=>False
 |_,_,_=>False:=rfl
def YB{a:Nat}{k:Fr->SV->E->Prop}:wr P T G n p m d a k (.makeMap t none)=O1 (m.push (.map #[] 0)) λq=>p3 q k p (.c (.mp m.size)):=rfl
def VT{z:Nat}{s x:O}{k:SV->E->Prop}:Xk m z s x k=∃a:List Ce,a.length=Nat.min x.len s.len*z/\fS m x.D x.off a/\fO m s.D s.off a.length/\
 O1 (ai m s.D s.off a) λq=>p2 q k (.c (.i (nc (Nat.min x.len s.len)))):=rfl
def kbs(p:Fr)(m:E)(e a:Nat)(k:Fr->SV->E->Prop)(l:List Ce):Prop:=match FW p l with
 |some u=>O1 (m.push (.cells (bz l) e)) λq=>p3 q k u (.c (.s (.mk m.size 0 a a)))
 |none=>False
def Yx{c a:Nat}{k:Fr->SV->E->Prop}:wr P T G n p m d c k (.buildSlice t a g)=match fN T t with
 |some ⟨.slice e,_,_⟩=>match fN T e with
  |some b=>bif b.uS||!(Nat.ble (a*b.sh.length) 16777216)then False else
   xD T p b.sh.length (mT (b.sh.map Sh.zero) a) g.toList (kbs p m e a k)
  |none=>False
 |_=>False:=rfl
def kcp(n:Nat)(p:Fr)(m:E)(k:Fr->SV->E->Prop)(x:SV)(q:E):Prop:=Az (MP n p []) m q (k p x q)
def T0{b:Nat}{u:Nat}{c:List Nat}{k:Fr->SV->E->Prop}:wr P T G n p m d b k (.call ⟨.builtin .copy,⟨[x,y]⟩,⟨u::c⟩⟩)=match fN T u,ev p x,ev p y with
 |some ⟨.slice e,_,_⟩,.c (.s s),.c (.s z)=>match fN T e with
  |some a=>bif a.uS then False else Xk m a.sh.length s z (kcp n p m k)
  |none=>False
 |_,_,_=>False:=rfl
def kw(P:Program)(T:TT)(G:List Nat)(n:Nat)(e:List Oper)(d:Option Nat)(jV:List Oper)(k:Fr->E->Prop)(p:Fr)(x:SV)(m:E):Prop:=sN P T G n e jV (uw p d x) m k
def kr(P:Program)(T:TT)(G:List Nat)(n:Nat)(e:List Oper)(d:Option Nat)(jV:List Oper)(k:Fr->E->Prop)(p:Fr)(m:E)(x:SV):Prop:=sN P T G n e jV (uw p d x) m k
def ky(P:Program)(T:TT)(G:List Nat)(n:Nat)(e:List Oper)(o:Oper)(jV:List Oper)(k:Fr->E->Prop)(m:E)(p:Fr):Prop:=
 bif Lv o.op then wr P T G n p m o.dst o.type (kw P T G n e o.dst jV k) o.op else rd T p m (kr P T G n e o.dst jV k p m) o.op
def kn(P:Program)(T:TT)(G:List Nat)(n:Nat)(e:List Oper)(d:Option Nat)(jV:List Oper)(k:Fr->E->Prop)(m:E)(p:Fr):Prop:=sN P T G n e jV (uw p d .un) m k
def V0{o:Oper}{jV:List Oper}{k:Fr->E->Prop}:sN P T G n e (o::jV) p m k=
 bif sI n o.dst then gd e p o.guard (ky P T G n e o jV k m) (kn P T G n e o.dst jV k m)else False:=rfl
abbrev LL:=List (Nat×List (Nat×Nat))
def Z6(P:Program)(T:TT)(G:List Nat)(n:Nat)(e:List Oper)(c a:List Nat)(b done:Nat)(o:Oper)(i:Nat)(m:E)(L:LL)(k:Fr->E->Prop)(p:Fr)(x:SV):Prop:=
 oX P T G n e c a b (done|||2^i) (uw p o.dst x) m ((i,Tm T p o.op)::L) k
def Z9(P:Program)(T:TT)(G:List Nat)(n:Nat)(e:List Oper)(c a:List Nat)(b done:Nat)(o:Oper)(i:Nat)(m:E)(L:LL)(k:Fr->E->Prop)(p:Fr):Prop:=
 rd T p m (Z6 P T G n e c a b done o i m L k p) o.op
def ZC(P:Program)(T:TT)(G:List Nat)(n:Nat)(e:List Oper)(c a:List Nat)(b done:Nat)(o:Oper)(i:Nat)(m:E)(L:LL)(k:Fr->E->Prop)(p:Fr):Prop:=
 oX P T G n e c a b (done|||2^i) (uw p o.dst .un) m L k
def Z7(P:Program)(T:TT)(G:List Nat)(n:Nat)(e:List Oper)(c a:List Nat)(b done:Nat)(o:Oper)(i:Nat)(m:E)(L:LL)(k:Fr->E->Prop)(p:Fr)(x:SV)(q:E):Prop:=
 DT (uy a i) m q L (oX P T G n e c a b (done|||2^i) (uw p o.dst x) q L k)
def dwy(P:Program)(T:TT)(G:List Nat)(n:Nat)(e:List Oper)(c a:List Nat)(b done:Nat)(o:Oper)(i:Nat)(m:E)(L:LL)(k:Fr->E->Prop)(p:Fr):Prop:=
 wr P T G n p m o.dst o.type (Z7 P T G n e c a b done o i m L k) o.op
def Z8(P:Program)(T:TT)(G:List Nat)(n:Nat)(e:List Oper)(c a:List Nat)(b done:Nat)(m:E)(L:LL)(k:Fr->E->Prop)(p:Fr)(i:Nat):Prop:=match Il e i with
 |some o=>bif sI n o.dst then gd e p o.guard (dwy P T G n e c a b done o i m L k) (ZC P T G n e c a b done o i m L k)else False
 |none=>False
def T5{a b:List Nat}{c done:Nat}{L:LL}{k:Fr->E->Prop}:oX P T G n e a b (c+1) done p m L k=match xr done 0 e a with
 |some i=>match Il e i with
  |some o=>bif sI n o.dst then gd e p o.guard (Z9 P T G n e a b c done o i m L k) (ZC P T G n e a b c done o i m L k)else False
  |none=>False
 |none=>match pX done 0 e a with
  |[]=>k p m
  |d=>OE d (Z8 P T G n e a b c done m L k p):=rfl
def TX{f:Nat->Prop}:OE [i] f=f i:=rfl
def TY{r:List Nat}{f:Nat->Prop}:OE (i::j::r) f=(f i/\OE (j::r) f):=rfl
def kq(Q:Exit->Fr->E->Prop)(p:Fr)(m:E):Prop:=Q .normal p m
def V2{e:Array Oper}{a:Bool}:vc P T G n A (.region i e a) p m Q=
 bif a then oX P T G n e.toList (Vw e.toList) (TN [] e.toList) e.toList.length 0 p m [] (kq Q)
 else sN P T G n e.toList e.toList p m (kq Q):=rfl
def kal(t:Nat)(s:Sh)(r:List (Nat×Sh))(I:s.ty->HO r)(p:Fr)(k:Fr->(E->Prop)->Prop)(x:s.ty):Prop:=PE r (I x) ((t,.c (s.mk x))::p) k
def VQ{r:List (Nat×Sh)}{I:s.ty->HO r}{k:Fr->(E->Prop)->Prop}:PE ((t,s)::r) I p k=U8 s (kal t s r I p k):=rfl
def kam(t:Nat)(s:Sh)(r:List (Nat×Sh))(I:s.ty->HO r)(μ:s.ty->OB r)(p:Fr)(k:Fr->(E->Prop)->(E->Nat)->Prop)(x:s.ty):Prop:=PF r (I x) (μ x) ((t,.c (s.mk x))::p) k
def VR{r:List (Nat×Sh)}{I:s.ty->HO r}{μ:s.ty->OB r}{k:Fr->(E->Prop)->(E->Nat)->Prop}:PF ((t,s)::r) I μ p k=U8 s (kam t s r I μ p k):=rfl
def ks(P:Program)(T:TT)(G:List Nat)(n:Nat)(A:Ps)(b:Code)(Q:Exit->Fr->E->Prop):Exit->Fr->E->Prop
 | .normal,u,q=>vc P T G n A b u q Q
 |e,u,q=>Q e u q
def kc(A:Ps)(b:Code)(p:Fr)(l:List (Nat×Sh))(K:HO l)(Q:Exit->Fr->E->Prop):Exit->Fr->E->Prop
 | .normal,u,q=>UT p u (lH A b) (HR l K u q)
 |e,u,q=>Q e u q
def ki(P:Program)(T:TT)(G:List Nat)(n:Nat)(A:Ps)(b:Code)(Q:Exit->Fr->E->Prop)(u:Fr)(a:E->Prop):Prop:=∀q,a q->vc P T G n A b u q Q
def V6{a b:Code}:vc P T G n A (.seq a b) p m Q=match Wg A.Vm b with
 |none=>vc P T G n A a p m (ks P T G n A b Q)
 |some l=>bif qe (oU a) l then∃K:HO l,vc P T G n A a p m (kc A b p l K Q)/\
  PE l K (nP (oU a) (uN n (lH A b) p)) (ki P T G n A b Q)else False:=by
 unfold ks kc ki;rfl
def kb(i:Nat)(Q:Exit->Fr->E->Prop):Exit->Fr->E->Prop
 | .exit j,u,q=>bif Nat.beq j i then Q .normal u q else Q (.exit j) u q
 |e,u,q=>Q e u q
def RT:vc P T G n A (.block i c) p m Q=vc P T G n A c p m (kb i Q):=by
 unfold kb;rfl
def ke(A:Ps)(c:Code)(p:Fr)(l:List (Nat×Sh))(I:HO l)(μ:OB l)(N:Nat)(Q:Exit->Fr->E->Prop):Exit->Fr->E->Prop
 | .normal,a,b=>UT p a (lH A c) (OG l I μ a b N)
 |e,a,b=>Q e a b
def kl(P:Program)(T:TT)(G:List Nat)(n:Nat)(A:Ps)(c:Code)(p:Fr)(l:List (Nat×Sh))(I:HO l)(μ:OB l)(Q:Exit->Fr->E->Prop)(u:Fr)(a:E->Prop)(μ':E->Nat):Prop:=
 ∀q,a q->vc P T G n A c u q (ke A c p l I μ (μ' q) Q)
def Ua:vc P T G n A (.loop c) p m Q=match Wg A.Un c with
 |none=>False
 |some l=>bif qe (oU c) l then∃(I:HO l)(μ:OB l),HR l I p m/\
  PF l I μ (nP (oU c) (uN n (lH A c) p)) (kl P T G n A c p l I μ Q)else False:=by
 unfold kl ke;rfl
def kR(m:E)(R:Value->E->Prop)(l:List SV):Prop:=match l with
 |[x]=>R x.v m
 |l=>R (.tuple (l.map SV.v).toArray) m
def kx(x:SV)(k:List SV->Prop)(l:List SV):Prop:=k (x::l)
def kz(T:TT)(p:Fr)(m:E)(r:List ResultVar)(k:List SV->Prop)(x:SV):Prop:=bif x.jQ then GD T p m r (kx x k)else False
def RW{r:List ResultVar}{k:List SV->Prop}:GD T p m (.tmp t::r) k=bif (iD p t).jQ then GD T p m r (kx (iD p t) k)else False:=rfl
def RX{a:Nat}{r:List ResultVar}{k:List SV->Prop}:GD T p m (.cell a t::r) k=rd T p m (kz T p m r k) (.load t (.tmp a)):=rfl
def kf(T:TT)(a:List ResultVar)(R:Value->E->Prop):Exit->Fr->E->Prop
 | .normal,p,m=>GD T p m a (kR m R)
 | .ret,p,m=>GD T p m a (kR m R)
 |_,_,_=>False
def Yz{b:List ResultVar}{a:List SV}{R:Value->E->Prop}:Ti P T G A n b c a m R=vc P T G n A c (uL 0 a) m (kf T b R):=by
 unfold kf kR;rfl
end
def Tg(_:Prop):Type:=Prop
def Tg.p{q:Prop}(t:Tg q):Prop:=t
def Tg.lf(q:Prop):Tg q:=q
def Tg.pm{a b:Prop}{h:Tg a=Tg b}:Tg.p (Eq.mpr h (Tg.lf b))=b:=rfl
def rg1:List.range 1=[0]:=rfl
def rg2:List.range 2=[0,1]:=rfl
def rg3:List.range 3=[0,1,2]:=rfl
def rg4:List.range 4=[0,1,2,3]:=rfl
def rg5:List.range 5=[0,1,2,3,4]:=rfl
def rg6:List.range 6=[0,1,2,3,4,5]:=rfl
def rg7:List.range 7=[0,1,2,3,4,5,6]:=rfl
def Tg.pm2{a b c:Prop}{h:Tg a=Tg b}{d:Tg b=Tg c}:Tg.p (Eq.mpr h (Eq.mpr d (Tg.lf c)))=c:=rfl
def Wi(_ _:Prop):Type:=Unit
def mkT{a X:Prop}(_:Wi a X)(t:Tg a)(_:t.p=X):True:=trivial
end Go.Vc
end
namespace Go.Proofs.YtghjegjkpepmpaaGreat
open Go.Vc
section
noncomputable abbrev cp:=Tryz.prog
def Xi:TT:=[(0,⟨.tuple [],[],0⟩),
 (3,⟨.cell,[.I],8⟩),
 (4,⟨.cell,[.T],1⟩),
 (5,⟨.cell,[(.U .u8)],1⟩),
 (22,⟨.slice 5,[.S],24⟩),
 (23,⟨.slice 69,[.S],24⟩),
 (24,⟨.slice 43,[.S],24⟩),
 (26,⟨.struct [(0,23),(1,24)],[.S,.S],48⟩),
 (27,⟨.slice 3,[.S],24⟩),
 (28,⟨.slice 45,[.S],24⟩),
 (29,⟨.slice 38,[.S],24⟩),
 (31,⟨.struct [(0,3),(1,3),(2,3),(3,3),(4,27),(5,28),(6,29)],[.I,.I,.I,.I,.S,.S,.S],104⟩),
 (32,⟨.tuple [26,31],[],0⟩),
 (34,⟨.tuple [31,4],[],0⟩),
 (38,⟨.struct [(0,3),(1,3),(2,3),(3,27),(4,27),(5,27)],[.I,.I,.I,.S,.S,.S],96⟩),
 (40,⟨.struct [(0,3),(1,3),(2,3),(3,3),(4,27),(5,27)],[.I,.I,.I,.I,.S,.S],80⟩),
 (41,⟨.slice 40,[.S],24⟩),
 (43,⟨.struct [(0,27),(1,27),(2,3),(3,3),(4,41)],[.S,.S,.I,.I,.S],88⟩),
 (45,⟨.struct [(0,3),(1,3),(2,27)],[.I,.I,.S],40⟩),
 (48,⟨.cell,[.P],8⟩),
 (54,⟨.struct [(0,26),(2,3),(3,31)],[.S,.S,.I,.I,.I,.I,.I,.S,.S,.S],160⟩),
 (55,⟨.cell,[.P],8⟩),
 (57,⟨.struct [(0,26),(2,31)],[.S,.S,.I,.I,.I,.I,.S,.S,.S],152⟩),
 (66,⟨.struct [(0,22),(1,3)],[.S,.I],32⟩),
 (67,⟨.slice 193,[.S],24⟩),
 (69,⟨.struct [(0,3),(1,3),(2,67)],[.I,.I,.S],40⟩),
 (73,⟨.cell,[.P],8⟩),
 (74,⟨.cell,[.P],8⟩),
 (82,⟨.cell,[.F],8⟩),
 (93,⟨.slice 151,[.S],24⟩),
 (95,⟨.struct [(0,23),(1,93)],[.S,.S],48⟩),
 (100,⟨.slice 156,[.S],24⟩),
 (102,⟨.struct [(0,23),(1,100)],[.S,.S],48⟩),
 (103,⟨.tuple [102,4],[],0⟩),
 (106,⟨.tuple [27,4],[],0⟩),
 (111,⟨.tuple [27,27],[],0⟩),
 (116,⟨.slice 45,[.S],24⟩),
 (139,⟨.slice 180,[.S],24⟩),
 (141,⟨.struct [(0,23),(1,139)],[.S,.S],48⟩),
 (147,⟨.slice 149,[.S],24⟩),
 (149,⟨.struct [(0,3),(1,3),(2,147)],[.I,.I,.S],40⟩),
 (151,⟨.struct [(0,27),(1,3),(2,149)],[.S,.I,.I,.I,.S],72⟩),
 (156,⟨.struct [(0,27),(1,27),(2,3)],[.S,.S,.I],56⟩),
 (159,⟨.tuple [3,3],[],0⟩),
 (161,⟨.tuple [3,4],[],0⟩),
 (164,⟨.cell,[.F],8⟩),
 (165,⟨.cell,[.P],8⟩),
 (168,⟨.slice 4,[.S],24⟩),
 (176,⟨.slice 202,[.S],24⟩),
 (178,⟨.struct [(0,176),(1,3)],[.S,.I],32⟩),
 (180,⟨.struct [(0,27),(1,27),(2,3),(3,178)],[.S,.S,.I,.S,.I],88⟩),
 (181,⟨.cell,[.P],8⟩),
 (183,⟨.struct [(0,41)],[.S],24⟩),
 (193,⟨.struct [(0,27)],[.S],24⟩),
 (198,⟨.map 3 3,[.M],8⟩),
 (200,⟨.slice 178,[.S],24⟩),
 (202,⟨.struct [(0,3),(1,3),(2,3),(3,27),(4,200)],[.I,.I,.I,.S,.S],72⟩),
 (205,⟨.cell,[.P],8⟩),
 (206,⟨.tuple [205,4],[],0⟩),
 (209,⟨.struct [(0,27),(1,27),(2,27),(3,27),(4,27),(5,27),(6,27)],[.S,.S,.S,.S,.S,.S,.S],168⟩),
 (218,⟨.tuple [3,193],[],0⟩),
 (237,⟨.slice 27,[.S],24⟩),
 (253,⟨.cell,[.P],8⟩),
 (255,⟨.struct [(0,176),(1,3)],[.S,.I],32⟩)]
abbrev tm:Nat:=4
abbrev QA:Nat:=22
abbrev dp:Nat:=178
abbrev my:Nat:=45
abbrev pA:Nat:=193
abbrev kj:Nat:=69
abbrev bH:Nat:=149
abbrev dS:Nat:=38
abbrev fx:Nat:=151
abbrev vK:Nat:=26
abbrev dZ:Nat:=40
abbrev nB:Nat:=141
abbrev jI:Nat:=43
abbrev kX:Nat:=95
abbrev jX:Nat:=180
abbrev iI:Nat:=31
abbrev gE:Nat:=202
abbrev eE:Nat:=116
abbrev bV:Nat:=54
abbrev qv:Nat:=156
abbrev mz:Nat:=102
abbrev aB:Nat:=3
abbrev yl:Nat:=27
abbrev oI:Nat:=183
abbrev BW:Nat:=209
abbrev lS:Nat:=255
abbrev bM:Nat:=57
abbrev qx:Nat:=66
abbrev UC:Nat:=5
def MF:uK cp Xi:=by
 unfold uK;kernel_rfl
def GL:List Nat:=List.range' 3 307
def YJ:U1 cp GL:=by
 unfold U1;kernel_rfl
def YO:cp.follows .mixedOrders=true:=by kernel_rfl
def nbq(a b:Nat):Nat.beq a b=(a==b):=by rw[sa];simp
def nbl(a b:Nat):Nat.ble a b=(a -b==0):=by rw[sa];simp;omega
def nbt(a b:Nat):Nat.blt a b=(a+1 -b==0):=by rw[sa];simp[Nat.blt];omega
def gel(g:Nat):List.elem g GL=(3 -g==0&&(g -309==0)):=by rw[sa];simp[GL];omega
section
variable{α β:Type}{a:α}{b:β}
def atl(l:List α):(Array.mk l).toList=l:=rfl
end
section
variable(a b c d e f)
def o1:(Oper.mk a b c d e f).dst=a:=rfl
def o2:(Oper.mk a b c d e f).op=b:=rfl
def o3:(Oper.mk a b c d e f).type=c:=rfl
def o5:(Oper.mk a b c d e f).after=e:=rfl
def o6:(Oper.mk a b c d e f).guard=f:=rfl
end
section
variable(a b c)
def a2:(Ps.mk a b c).Un=a:=rfl
def a3:(Ps.mk a b c).Vm=b:=rfl
def a4:(Ps.mk a b c).eC=c:=rfl
def t1:(TI.mk a b c).Ih=a:=rfl
def t2:(TI.mk a b c).sh=b:=rfl
def t3:(TI.mk a b c).bytes=c:=rfl
def g1:(Edge.mk a b).on=a:=rfl
def g2:(Edge.mk a b).ground=b:=rfl
end
def A0:Ps:=⟨[],[],[]⟩
def cI(x:Int):SV:=.c (.i x)
def cS(x:O):SV:=.c (.s x)
def cP(x:Nat×Nat):SV:=.c (.p x.1 x.2)
instance:Coe Int SV:=⟨cI⟩
instance:Coe O SV:=⟨cS⟩
instance:Coe (Nat×Nat) SV:=⟨cP⟩
instance:Coe Int Ce:=⟨.i⟩
instance:Coe O Ce:=⟨.s⟩
def oH(n:Nat){x:TI}(h:fN Xi n=some x:=by cbv):fN Xi n=some x:=h
def tg0:=oH 0
def tg3:=oH 3
def tg4:=oH 4
def tg5:=oH 5
def Y0:=oH 22
def Y1:=oH 23
def Y2:=oH 24
def Y3:=oH 26
def Y4:=oH 27
def Y5:=oH 28
def Y6:=oH 29
def Y7:=oH 31
def Y8:=oH 32
def Y9:=oH 34
def Za:=oH 38
def Zb:=oH 40
def Zc:=oH 41
def Zd:=oH 43
def Ze:=oH 45
def Zf:=oH 48
def Zg:=oH 54
def Zh:=oH 55
def Zi:=oH 57
def Zj:=oH 66
def Zk:=oH 67
def Zl:=oH 69
def Zm:=oH 73
def Zn:=oH 74
def Zo:=oH 82
def Zp:=oH 93
def Zq:=oH 95
def Wm:=oH 100
def Wn:=oH 102
def Wo:=oH 103
def Wp:=oH 106
def Wq:=oH 111
def Wr:=oH 116
def Ws:=oH 139
def Wt:=oH 141
def Wu:=oH 147
def Wv:=oH 149
def Ww:=oH 151
def Wx:=oH 156
def Wy:=oH 159
def Wz:=oH 161
def WA:=oH 164
def WC:=oH 165
def WD:=oH 168
def WE:=oH 176
def WG:=oH 178
def WH:=oH 180
def WI:=oH 181
def WJ:=oH 183
def WK:=oH 193
def WM:=oH 198
def WN:=oH 200
def WO:=oH 202
def WQ:=oH 205
def WR:=oH 206
def WT:=oH 209
def WU:=oH 218
def WV:=oH 237
def WW:=oH 253
def WY:=oH 255
def db(m:E)(R:Value->E->Prop)(A:Ps)(a:List SV){f:FuncId}{b:Go.Func}{X:Prop}{c:Code}{n:Nat}{e:List ResultVar}{g:List Value}(k:cp.funcs[f]? =some b)
 (d:(b.body,b.ntmps,b.results)=(some c,n,Array.mk e):=by cbv)
 (i:a.all SV.jQ=true:=by kernel_rfl)(l:Nat.ble a.length n=true:=by kernel_rfl)(hd:qH c=true:=by kernel_rfl)
 (o:a.map SV.v=g:=by dsimp only[List.map,cI,cS,cP,SV.v,Ce.v])
 (w:Wi (Ti cp Xi GL A n e c a m R) X->True:=by intro w;obtain - :=mkT w (by sym -abstractProof=>simp[gel,A0.eq_1,cI.eq_1,cS.eq_1,cP.eq_1,tg0,tg3,tg4,tg5,Y0,Y1,Y2,Y3,Y4,Y5,Y6,Y7,Y8,Y9,Za,Zb,Zc,Zd,Ze,Zf,Zg,Zh,Zi,Zj,Zk,Zl,Zm,Zn,Zo,Zp,Zq,Wm,Wn,Wo,Wp,Wq,Wr,Ws,Wt,Wu,Wv,Ww,Wx,Wy,Wz,WA,WC,WD,WE,WG,WH,WI,WJ,WK,WM,WN,WO,WQ,WR,WT,WU,WV,WW,WY,nbq,nbl,nbt,atl,o1,o2,o3,o5,o6,a2,a3,a4,t1,t2,t3,g1,g2,cO,fG,df,eH,Ot,List.all_nil,be,eY,List.elem_cons,Oq,Bool.false_and,VK,VJ,Bool.true_or,Oo,MK,Bool.and_true,oC,Option.map_none,iJ,jA,mL,List.flatMap_nil,List.isEmpty_cons,List.isEmpty_nil,List.any_cons,QI,qZ,NB,uL.eq_1,uL.eq_2,vc.eq_1,vc.eq_4,vc.eq_6,vc.eq_7,vc.eq_8,uV.eq_def,YT.eq_def,Wj.eq_def,rq.eq_1,rq.eq_2,LP.eq_def,UT.eq_1,UT.eq_2,uN.eq_1,DC.eq_1,DC.eq_2,lH.eq_1,qe.eq_1,qe.eq_2,oU.eq_def,nP.eq_1,nP.eq_2,PF.eq_1,PE.eq_1,OG.eq_1,OG.eq_2,HR.eq_1,HR.eq_2,Rc.eq_def,Wg.eq_1,DH.eq_def,lk.eq_1,lk.eq_2,oX.eq_1,DT.eq_1,DT.eq_2,LZ.eq_1,LZ.eq_2,pX.eq_def,xr.eq_def,lg.eq_1,oE.eq_1,oE.eq_2,lQ.eq_1,uy.eq_1,uy.eq_2,uy.eq_3,sN.eq_1,zW.eq_1,zW.eq_2,gd.eq_1,gd.eq_2,Ln.eq_1,sI.eq_1,sI.eq_2,Lv.eq_def,wr.eq_1,wr.eq_2,wr.eq_4,wr.eq_6,wr.eq_8,wr.eq_9,wr.eq_10,wr.eq_11,xD.eq_1,xD.eq_2,SJ.eq_1,UU.eq_1,MP.eq_def,Az.eq_def,rd.eq_1,rd.eq_2,rd.eq_3,rd.eq_4,rd.eq_5,rd.eq_6,rd.eq_7,rd.eq_8,rd.eq_9,rd.eq_10,rd.eq_11,rd.eq_12,rd.eq_13,rd.eq_15,Tm.eq_def,VX,VY,VZ,NP.eq_1,Hy.eq_1,Hy.eq_2,OR.eq_1,Nh.eq_1,Nh.eq_2,vA.eq_1,vA.eq_2,FR.eq_1,FR.eq_2,mE.eq_1,mE.eq_2,mE.eq_3,mE.eq_4,mE.eq_5,SV.cells.eq_def,ZI.eq_def,Vr.eq_def,Va.eq_def,sj.eq_1,sj.eq_2,sj.eq_3,sj.eq_6,sj.eq_7,sj.eq_8,sj.eq_9,sj.eq_10,sj.eq_11,sj.eq_12,V1,V3,We.eq_1,Il.eq_1,Il.eq_2,Il.eq_3,lM.eq_def,SV.jQ.eq_def,TI.uS.eq_1,TI.agg.eq_1,Sh.zero.eq_1,Sh.zero.eq_2,Sh.zero.eq_3,Sh.zero.eq_4,Sh.zero.eq_5,Sh.zero.eq_6,Sh.zero.eq_7,ev.eq_1,ev.eq_2,ev.eq_3,ev.eq_4,FV.eq_def,pQ.eq_1,pQ.eq_2,kZ.eq_1,kZ.eq_3,kZ.eq_4,kZ.eq_5,kZ.eq_6,kZ.eq_7,uw.eq_1,uw.eq_2,SV.nb.eq_def,iD.eq_1,iD.eq_2,AV.sv.eq_1,AV.sv.eq_2,SV.v.eq_1,SV.v.eq_2,SV.v.eq_3,SV.v.eq_4,SV.v.eq_5,SV.v.eq_6,SV.v.eq_7,SV.v.eq_8,SV.v.eq_9,AV.v.eq_1,AV.v.eq_2,Ce.v.eq_1,Ce.v.eq_2,Ce.v.eq_3,Ce.v.eq_4,Ce.v.eq_5,Ce.v.eq_6,Ce.v.eq_7,Ce.v.eq_8,Ce.v.eq_9,Ce.v.eq_10,Ce.v.eq_11,Ce.v.eq_12,Ce.v.eq_13,vy.eq_1,vy.eq_2,Ue.eq_1,FW.eq_def,jt.eq_1,jt.eq_2,HO.eq_1,HO.eq_2,OB.eq_1,OB.eq_2,Sh.ty.eq_1,Sh.ty.eq_2,Sh.ty.eq_3,Sh.ty.eq_4,Sh.ty.eq_5,Sh.ty.eq_6,Sh.ty.eq_7,Sh.mk.eq_1,Sh.mk.eq_2,Sh.mk.eq_3,Sh.mk.eq_4,Sh.mk.eq_5,Sh.mk.eq_6,Sh.mk.eq_7,KR.eq_1,SV.Vh.eq_def,AV.Vh.eq_1,AV.Vh.eq_2,GD.eq_1,Vw.eq_1,Vw.eq_2,TN.eq_1,TN.eq_2,kld.eq_1,klc.eq_1,kxc.eq_1,kxs.eq_1,krc.eq_1,kal.eq_1,kam.eq_1,pa.eq_1,p3.eq_1,p2.eq_1,Sb.eq_1,Vp.eq_1,khi.eq_1,klo.eq_1,YN.eq_1,kxt.eq_1,krt.eq_1,krs.eq_1,Vq.eq_1,kbs.eq_1,kcp.eq_1,kw.eq_1,kr.eq_1,ky.eq_1,kn.eq_1,Z6.eq_1,Z9.eq_1,ZC.eq_1,Z7.eq_1,dwy.eq_1,Z8.eq_1,kq.eq_1,ks.eq_def,kc.eq_def,ki.eq_1,kb.eq_def,ke.eq_def,kl.eq_1,kR.eq_def,kx.eq_1,kz.eq_1,kf.eq_def,OE.eq_1,YA,T9,RY,RU,VU,VV,V5,TZ,Yx,T0,V0,T5,TX,TY,V2,V6,RT,Ua,RW,RX,Yz,Yy,VQ,VR,exI,exU,exB,YF,exP,exF,exM,alI,alU,alB,Yl,alP,alF,alM,cU8,z0,z1,tb,VS,b1,b2,b3,b4,b5,b6,Ub,Uc,YD,YC,YB,VT,VW,rg1,rg2,rg3,rg4,rg5,rg6,rg7,jN];exact Tg.lf _) (by refine Tg.pm.trans ?_;dsimp -zeta+instances only[↓Sg,ile,↓YL,nze,nce,HO,OB,Sh.ty,Int.cast_ofNat_Int]);trivial)
 (j:X=Ti cp Xi GL A n e c a m R:=by kernel_rfl)
 :X->aO cp f g m R:=λh=>by
 subst o
 exact uh MF YJ YO k (nE Prod.fst d) (nE (λx=>x.2.1) d) (nE (λx=>x.2.2) d) i (lX l) hd (j▸h)
def aai(m:E)(R:Value->E->Prop)(A:Ps)(a:List SV){f:FuncId}{b:Go.Func}{X:Prop}{c:Code}{n:Nat}{e:List ResultVar}{g:List Value}(k:cp.funcs[f]? =some b)
 (d:(b.body,b.ntmps,b.results)=(some c,n,Array.mk e):=by cbv)
 (i:a.all SV.jQ=true:=by kernel_rfl)(l:Nat.ble a.length n=true:=by kernel_rfl)(hd:qH c=true:=by kernel_rfl)
 (o:a.map SV.v=g:=by dsimp only[List.map,cI,cS,cP,SV.v,Ce.v])
 (w:Wi (Ti cp Xi GL A n e c a m R) X->True:=by intro w;obtain - :=mkT w (by sym -abstractProof=>simp[gel,A0.eq_1,cI.eq_1,cS.eq_1,cP.eq_1,tg0,tg3,tg4,tg5,Y0,Y1,Y2,Y3,Y4,Y5,Y6,Y7,Y8,Y9,Za,Zb,Zc,Zd,Ze,Zf,Zg,Zh,Zi,Zj,Zk,Zl,Zm,Zn,Zo,Zp,Zq,Wm,Wn,Wo,Wp,Wq,Wr,Ws,Wt,Wu,Wv,Ww,Wx,Wy,Wz,WA,WC,WD,WE,WG,WH,WI,WJ,WK,WM,WN,WO,WQ,WR,WT,WU,WV,WW,WY,nbq,nbl,nbt,atl,o1,o2,o3,o5,o6,a2,a3,a4,t1,t2,t3,g1,g2,cO,fG,df,eH,Ot,List.all_nil,be,eY,List.elem_cons,Oq,Bool.false_and,VK,VJ,Bool.true_or,Oo,MK,Bool.and_true,oC,Option.map_none,iJ,jA,mL,List.flatMap_nil,List.isEmpty_cons,List.isEmpty_nil,List.any_cons,QI,qZ,NB,uL.eq_1,uL.eq_2,vc.eq_1,vc.eq_4,vc.eq_6,vc.eq_7,vc.eq_8,uV.eq_def,YT.eq_def,Wj.eq_def,rq.eq_1,rq.eq_2,LP.eq_def,UT.eq_1,UT.eq_2,uN.eq_1,DC.eq_1,DC.eq_2,lH.eq_1,qe.eq_1,qe.eq_2,oU.eq_def,nP.eq_1,nP.eq_2,PF.eq_1,PE.eq_1,OG.eq_1,OG.eq_2,HR.eq_1,HR.eq_2,Rc.eq_def,Wg.eq_1,DH.eq_def,lk.eq_1,lk.eq_2,oX.eq_1,DT.eq_1,DT.eq_2,pX.eq_def,xr.eq_def,lg.eq_1,oE.eq_1,oE.eq_2,lQ.eq_1,uy.eq_1,uy.eq_2,uy.eq_3,sN.eq_1,zW.eq_1,zW.eq_2,gd.eq_1,gd.eq_2,Ln.eq_1,sI.eq_1,sI.eq_2,Lv.eq_def,wr.eq_1,wr.eq_2,wr.eq_4,wr.eq_6,wr.eq_8,wr.eq_9,wr.eq_10,wr.eq_11,xD.eq_1,xD.eq_2,SJ.eq_1,UU.eq_1,MP.eq_def,Az.eq_def,rd.eq_1,rd.eq_2,rd.eq_3,rd.eq_4,rd.eq_5,rd.eq_6,rd.eq_7,rd.eq_8,rd.eq_9,rd.eq_10,rd.eq_11,rd.eq_12,rd.eq_13,rd.eq_15,Tm.eq_def,VX,VY,VZ,NP.eq_1,Hy.eq_1,Hy.eq_2,OR.eq_1,Nh.eq_1,Nh.eq_2,vA.eq_1,vA.eq_2,FR.eq_1,FR.eq_2,mE.eq_1,mE.eq_2,mE.eq_3,mE.eq_4,mE.eq_5,SV.cells.eq_def,ZI.eq_def,Vr.eq_def,Va.eq_def,sj.eq_1,sj.eq_2,sj.eq_3,sj.eq_6,sj.eq_7,sj.eq_8,sj.eq_9,sj.eq_10,sj.eq_11,sj.eq_12,V1,V3,We.eq_1,Il.eq_1,Il.eq_2,Il.eq_3,lM.eq_def,SV.jQ.eq_def,TI.uS.eq_1,TI.agg.eq_1,Sh.zero.eq_1,Sh.zero.eq_2,Sh.zero.eq_3,Sh.zero.eq_4,Sh.zero.eq_5,Sh.zero.eq_6,Sh.zero.eq_7,ev.eq_1,ev.eq_2,ev.eq_3,ev.eq_4,FV.eq_def,pQ.eq_1,pQ.eq_2,kZ.eq_1,kZ.eq_3,kZ.eq_4,kZ.eq_5,kZ.eq_6,kZ.eq_7,uw.eq_1,uw.eq_2,SV.nb.eq_def,iD.eq_1,iD.eq_2,AV.sv.eq_1,AV.sv.eq_2,SV.v.eq_1,SV.v.eq_2,SV.v.eq_3,SV.v.eq_4,SV.v.eq_5,SV.v.eq_6,SV.v.eq_7,SV.v.eq_8,SV.v.eq_9,AV.v.eq_1,AV.v.eq_2,Ce.v.eq_1,Ce.v.eq_2,Ce.v.eq_3,Ce.v.eq_4,Ce.v.eq_5,Ce.v.eq_6,Ce.v.eq_7,Ce.v.eq_8,Ce.v.eq_9,Ce.v.eq_10,Ce.v.eq_11,Ce.v.eq_12,Ce.v.eq_13,vy.eq_1,vy.eq_2,Ue.eq_1,FW.eq_def,jt.eq_1,jt.eq_2,HO.eq_1,HO.eq_2,OB.eq_1,OB.eq_2,Sh.ty.eq_1,Sh.ty.eq_2,Sh.ty.eq_3,Sh.ty.eq_4,Sh.ty.eq_5,Sh.ty.eq_6,Sh.ty.eq_7,Sh.mk.eq_1,Sh.mk.eq_2,Sh.mk.eq_3,Sh.mk.eq_4,Sh.mk.eq_5,Sh.mk.eq_6,Sh.mk.eq_7,KR.eq_1,SV.Vh.eq_def,AV.Vh.eq_1,AV.Vh.eq_2,GD.eq_1,Vw.eq_1,Vw.eq_2,TN.eq_1,TN.eq_2,kld.eq_1,klc.eq_1,kxc.eq_1,kxs.eq_1,krc.eq_1,kal.eq_1,kam.eq_1,pa.eq_1,p3.eq_1,p2.eq_1,Sb.eq_1,Vp.eq_1,khi.eq_1,klo.eq_1,YN.eq_1,kxt.eq_1,krt.eq_1,krs.eq_1,Vq.eq_1,kbs.eq_1,kcp.eq_1,kw.eq_1,kr.eq_1,ky.eq_1,kn.eq_1,Z6.eq_1,Z9.eq_1,ZC.eq_1,Z7.eq_1,dwy.eq_1,Z8.eq_1,kq.eq_1,ks.eq_def,kc.eq_def,ki.eq_1,kb.eq_def,ke.eq_def,kl.eq_1,kR.eq_def,kx.eq_1,kz.eq_1,kf.eq_def,OE.eq_1,YA,T9,RY,RU,VU,VV,V5,TZ,Yx,T0,V0,T5,TX,TY,V2,V6,RT,Ua,RW,RX,Yz,Yy,VQ,VR,exI,exU,exB,YF,exP,exF,exM,alI,alU,alB,Yl,alP,alF,alM,cU8,z0,z1,tb,VS,b1,b2,b3,b4,b5,b6,Ub,Uc,YD,YC,YB,VT,VW];simp[cO,fG,jN,LZ.eq_1,LZ.eq_2,rg1,rg2,rg3,rg4,rg5,rg6,rg7];exact Tg.lf _) (by refine Tg.pm2.trans ?_;dsimp -zeta+instances only[↓Sg,ile,↓YL,nze,nce,HO,OB,Sh.ty,Int.cast_ofNat_Int]);trivial)
 (j:X=Ti cp Xi GL A n e c a m R:=by kernel_rfl)
 :X->aO cp f g m R:=λh=>by
 subst o
 exact uh MF YJ YO k (nE Prod.fst d) (nE (λx=>x.2.1) d) (nE (λx=>x.2.2) d) i (lX l) hd (j▸h)
end
section
open Tryz
variable{m:E}{R:Value->E->Prop}
variable{a b c d e f g h p q r u v w x y:O}{i j k l n o s t z A B C D F G H:Int}
def vB(a:O):=db m R A0 [a] func4
def Ac(a:O):=db m R ⟨[],[(4,[(6,.P)])],[(4,[26,25,24])]⟩ [.agg [a,b],.agg [i,j,k,l,c,d,e]] func5
def AH(a:O):=db m R A0 [.agg [a,b],.agg [i,j,k,l,c,d,e]] func6
def yT(i:Int):=db m R A0 [.agg [i,j,k,l,a,b,c],.agg [n,o,s,t,d,e,f]] func7
def yY(p:Nat×Nat):=db m R A0 [p] func8
def Bp(a:O):=db m R A0 [a] func9
def yK(a:O):=db m R A0 [.agg [a,b],.agg [i,j,k,l,c,d,e]] func10
def CC(a:O):=db m R ⟨[(3,[(3,.I),(8,.I)])],[],[]⟩ [a] func11
def yM(i:Int):=db m R ⟨[(3,[(20,.I)])],[],[(3,[52,53])]⟩ [.agg [i,j,k,l,a,b,c]] func12
def wj(p:Nat×Nat):=db m R ⟨[],[(5,[(4,.T)])],[(5,[91])]⟩ [p] func13
def zy(a:O):=db m R ⟨[(8,[(5,.I)])],[(5,[])],[(5,[93,92]),(8,[93,92])]⟩ [.agg [a,b],.agg [i,j,k,l,c,d,e]] func14
def AW(i:Int):=db m R ⟨[(3,[(4,.I)])],[(2,[(3,.P)])],[(2,[58,57]),(3,[58,57])]⟩ [.agg [i,j,k,l,a,b,c]] func15
def wR(p:Nat×Nat):=db m R A0 [p] func16
def Ao(a:O):=db m R ⟨[(4,[(5,.I)])],[],[]⟩ [a,b] func17
def An(a:O):=db m R ⟨[(4,[(5,.I)])],[],[]⟩ [a,b] func18
def xC(a:O):=db m R ⟨[(4,[(5,.I)])],[],[]⟩ [a,b] func19
def CJ(p:Nat×Nat):=db m R A0 [p] func20
end
section
open Tryz
variable{m:E}{R:Value->E->Prop}
variable{a b c d e f g h p q r u v w x y:O}{i j k l n o s t z A B C D F G H:Int}
def zr(a:O):=db m R ⟨[(4,[(3,.I)])],[],[(4,[30])]⟩ [.agg [a,b]] func21
def zo(p:Nat×Nat):=db m R A0 [p,.agg [i,j,k,l,a,b,c]] func22
def Bd(p:Nat×Nat):=db m R A0 [p,.agg [a,b]] func23
def yJ(a:O):=db m R ⟨[(5,[(20,.I)]),(13,[(66,.I)])],[(12,[])],[(5,[82,80]),(12,[85,82,80]),(13,[85,82,80])]⟩ [.agg [a,b]] func24
def yR(a:O):=db m R ⟨[(10,[(95,.I)]),(20,[(158,.I)])],[(3,[]),(16,[]),(24,[])],[(3,[191,190]),(10,[191,190]),(16,[197,191,190]),(20,[191,190]),(24,[191,190])]⟩ [.agg [a,b],.agg [i,j,k,l,c,d,e]] func25
def tR(a:O):=db m R A0 [a] func26
def Af(a:O):=db m R ⟨[(3,[(10,.I)])],[],[]⟩ [a] func27
def mS(a:O):=db m R A0 [a] func28
def xz(p q:Nat×Nat):=db m R ⟨[(4,[(28,.I)]),(14,[(65,.I)])],[(13,[])],[(4,[212,211]),(13,[212,211]),(14,[212,211])]⟩ [p,q,.agg [i,j,k,l,a,b]] func29
def yP(p q:Nat×Nat):=db m R ⟨[(3,[(24,.I)])],[],[(3,[353])]⟩ [p,q,.agg [i,j,k,l,a,b]] func30
def EU(i:Int):=db m R A0 [i,j,k] func31
def yW(a:O):=db m R ⟨[(2,[(3,.I)])],[],[]⟩ [a] func32
def BN(a:O):=db m R ⟨[(4,[(3,.I)]),(10,[(5,.I)])],[(3,[])],[]⟩ [a] func33
def zq(a:O):=db m R A0 [.agg [a,b],.agg [i,j,k,l,c,d,e],n] func34
def Db(i:Int):=db m R ⟨[(3,[(4,.I)]),(6,[(5,.I)]),(14,[(7,.I)])],[],[(3,[101]),(6,[101]),(14,[101])]⟩ [.agg [i,j,k,l,a,b,c]] func35
def xN(i:Int):=db m R ⟨[(4,[(5,.I)])],[],[(4,[44])]⟩ [.agg [i,j,k,l,a,b,c]] func36
def nO(a:O):=db m R A0 [a] func37
def CR(a:O):=db m R ⟨[(3,[(3,.S),(4,.I)])],[],[]⟩ [a] func38
end
section
open Tryz
variable{m:E}{R:Value->E->Prop}
variable{a b c d e f g h p q r u v w x y:O}{i j k l n o s t z A B C D F G H:Int}
def Ha(i:Int):=db m R A0 [i] func39
def Dl(i:Int):=db m R ⟨[(3,[(6,.I)])],[],[(3,[42])]⟩ [.agg [i,j,k,a,b,c],d] func40
def Fl(a:O):=db m R ⟨[(4,[(5,.S),(6,.I)])],[(3,[(30,.T)])],[(3,[70,69]),(4,[70,69])]⟩ [.agg [a,b],.agg [i,j,k,l,c,d]] func41
def uF(p:Nat×Nat):=db m R ⟨[],[(3,[])],[(3,[226,225])]⟩ [p,.agg [i,j,k,a,b,c],.agg [l,n,o,s,d,e],f] func42
def tX(p:Nat×Nat):=db m R A0 [p,.agg [i,j,k,a,b,c],.agg [l,n,o,s,d,e]] func43
def Am(i:Int):=db m R A0 [.agg [i,j,a],.agg [k,l,b]] func44
def yS(i:Int):=db m R A0 [.agg [i,j,k,a,b,c],.agg [l,n,o,d,e,f]] func45
def Bc(p:Nat×Nat):=db m R A0 [p] func46
def xW(p:Nat×Nat):=db m R A0 [p,i] func47
def AM(p:Nat×Nat):=db m R ⟨[(3,[(6,.I)])],[],[(3,[57,56,55])]⟩ [p,.agg [a,b]] func48
def zm(p:Nat×Nat):=db m R A0 [p,.agg [a,b],i] func49
def BT(a:O):=db m R ⟨[(4,[(3,.I)])],[],[(4,[65])]⟩ [.agg [a,b]] func50
def xZ(a:O):=db m R ⟨[(3,[(4,.I)])],[],[(3,[37,36])]⟩ [.agg [a,b]] func51
def BQ(a:O):=db m R ⟨[(5,[(6,.I)])],[],[(5,[62,61])]⟩ [.agg [a,b],.agg [c,d,i,j,e]] func52
def zk(p:Nat×Nat):=db m R A0 [p,a] func53
def tf(p:Nat×Nat):=db m R A0 [p,a] func54
def zp(a:O):=db m R A0 [.agg [a,b],i] func55
def xU(p:Nat×Nat):=db m R ⟨[(2,[(5,.I)])],[],[]⟩ [p,i] func56
end
section
open Tryz
variable{m:E}{R:Value->E->Prop}
variable{a b c d e f g h p q r u v w x y:O}{i j k l n o s t z A B C D F G H:Int}
def Ai(a:O):=db m R ⟨[(5,[(18,.I)])],[],[(5,[43,42])]⟩ [.agg [a,b]] func57
def pT(a:O):=db m R ⟨[(6,[(88,.I)])],[(5,[])],[(5,[147,146,145,144]),(6,[147,146,145,144])]⟩ [.agg [a,b],.agg [c,d,i,j,e],k,.agg [l,n,o,s,f,g]] func58
def Ic(i:Int):=db m R A0 [i] func59
def xy(a:O):=db m R ⟨[(3,[(26,.I)]),(8,[(37,.I)]),(21,[(12,.S),(73,.I)]),(28,[(12,.S),(13,.I)]),(33,[(12,.S),(127,.I)])],[(17,[])],[(8,[165]),(33,[175])]⟩ [a] func60
def pC(s:O)(f:Fn×Array Value×Array Value):=db m R A0 [s,.c (.fv f)] func61
def wt(i:Int):=db m R A0 [i] func62
def yN(a:O):=db m R ⟨[(7,[(63,.I)])],[],[(7,[97,95,94])]⟩ [.agg [a,b],.agg [i,j,k,c,d,e]] func63
def xu(i:Int):=db m R ⟨[(2,[(17,.I)])],[(9,[])],[(2,[82]),(9,[82])]⟩ [.agg [i,j,k,a,b,c],d,e,f] func64
def nu(a:O):=db m R A0 [a] func65
def sT(p:Nat×Nat):=db m R ⟨[(15,[(4,.S),(5,.S),(31,.I)])],[],[(15,[62])]⟩ [p,.agg [i,j,k,l,a,b]] func66
def wq(i:Int):=db m R A0 [i] func67
def ux(p:Nat×Nat):=db m R A0 [p,i] func68
def vw(p:Nat×Nat):=db m R A0 [i,p] func69
def Ek(a:O):=db m R A0 [a] func70
def sV(p q:Nat×Nat):=db m R A0 [p,q,.agg [i,j,k,l,a,b]] func71
def rH(p q:Nat×Nat):=db m R ⟨[(14,[(10,.S),(74,.I)])],[],[(14,[125,121])]⟩ [p,q,.agg [i,j,k,l,a,b]] func72
def tF(p q:Nat×Nat):=db m R A0 [p,q,.agg [i,j,k,l,a,b]] func73
def Ab(p:Nat×Nat):=db m R A0 [p,i,j,k] func74
end
section
open Tryz
variable{m:E}{R:Value->E->Prop}
variable{a b c d e f g h p q r u v w x y:O}{i j k l n o s t z A B C D F G H:Int}
def sq(p q:Nat×Nat):=db m R A0 [p,q,.agg [i,j,k,l,a,b]] func75
def vu(p:Nat×Nat):=db m R A0 [p,i,a] func76
def xw(p:Nat×Nat):=db m R ⟨[(3,[(13,.I)])],[],[]⟩ [p,a] func77
def Ag(p:Nat×Nat):=db m R ⟨[(1,[(4,.S)])],[],[]⟩ [p,i] func78
def wi(p q:Nat×Nat):=db m R ⟨[(5,[(39,.I)])],[],[(5,[58])]⟩ [p,q,.agg [i,j,k,l,a,b]] func79
def wo(i:Int):=db m R A0 [i] func80
def tT(a:O):=db m R ⟨[(2,[(8,.I)])],[],[]⟩ [a,i] func81
def Gh(a:O):=db m R ⟨[(6,[(6,.S),(28,.I)])],[],[]⟩ [a,i] func82
def wh(p:Nat×Nat):=db m R ⟨[(9,[(63,.I)])],[(7,[(9,.I)])],[(7,[111]),(9,[114,111])]⟩ [p,i,a,.agg [j,k,l,n,b,c]] func83
def vv(a:Nat×Nat)(w:Int)(eC:Bool):=db m R ⟨[(13,[(69,.I)])],[(5,[])],[]⟩ [a,w,.c (.t eC)] func84
def sU(p:Nat×Nat):=db m R A0 [p,i] func85
def BK(a:O):=db m R ⟨[(6,[(5,.I)])],[],[(6,[59])]⟩ [a,.agg [i,j,b]] func86
def Hg(a:O):=db m R ⟨[(3,[(4,.I)]),(6,[(5,.I)])],[],[]⟩ [a] func87
def Bg(a:O):=db m R ⟨[(4,[(4,.I),(5,.T)]),(7,[(4,.I),(5,.T),(6,.I)])],[],[]⟩ [a] func88
def BR(a:O):=db m R ⟨[(2,[(5,.I)])],[],[(2,[53])]⟩ [a,.agg [i,j,k,b,c,d]] func89
def Bi(i:Int):=db m R A0 [i] func90
def Dm(i:Int):=db m R ⟨[(3,[(4,.I)]),(7,[(6,.I)])],[],[(3,[61]),(7,[65,61])]⟩ [.agg [i,j,k,l,a,b,c]] func91
def sK(i:Int):=db m R A0 [i] func92
end
section
open Tryz
variable{m:E}{R:Value->E->Prop}
variable{a b c d e f g h p q r u v w x y:O}{i j k l n o s t z A B C D F G H:Int}
def EZ(a:O):=db m R A0 [.agg [a,b],.agg [i,j,k,l,c,d],n] func93
def wT(a:O):=db m R ⟨[(2,[(3,.I)])],[],[]⟩ [a] func94
def Kp(i:Int):=db m R A0 [i] func95
def yX(i:Int):=db m R ⟨[(2,[(5,.I)])],[],[(2,[26,25])]⟩ [.agg [i,j,k,a,b,c],.agg [l,n,o,s,d,e]] func96
def tc(p:Nat×Nat):=db m R A0 [p,.agg [i,j,k,a,b,c],.agg [l,n,o,s,d,e]] func97
def sZ(p:Nat×Nat):=db m R ⟨[(2,[(7,.I)])],[],[(2,[51,50])]⟩ [p,.agg [i,j,k,a,b,c],.agg [l,n,o,s,d,e]] func98
def EG(a:O):=db m R ⟨[(2,[(3,.I)])],[],[]⟩ [a] func99
def ta(p:Nat×Nat):=db m R A0 [p,i] func100
def Hb(a:O):=db m R A0 [a,i] func101
def uE(p:Nat×Nat):=db m R A0 [p,i] func102
def tW(p:Nat×Nat):=db m R A0 [p,.agg [i,j,k,a,b,c],.agg [l,n,o,s,d,e]] func103
def J9(a:O):=db m R ⟨[(2,[(5,.I)])],[],[]⟩ [a,i] func104
def uY(a:O):=db m R ⟨[(5,[(5,.S),(6,.I)])],[],[]⟩ [a,i] func105
def uH(p:Nat×Nat):=db m R A0 [p,i,j] func106
def Km(i:Int):=db m R A0 [i,j,k] func107
def sD(p:Nat×Nat):=db m R ⟨[],[(5,[(8,.I)])],[(5,[75,74])]⟩ [p,.agg [i,j,k,a,b,c],.agg [l,n,o,s,d,e],t] func108
def CQ(a:O):=db m R ⟨[(3,[(3,.I),(4,.I)])],[],[]⟩ [a] func109
def vG(p:Nat×Nat):=db m R ⟨[],[(10,[(6,.I),(7,.S)])],[(10,[128,127])]⟩ [p,.agg [i,j,k,a,b,c],.agg [l,n,o,s,d,e]] func110
end
section
open Tryz
variable{m:E}{R:Value->E->Prop}
variable{a b c d e f g h p q r u v w x y:O}{i j k l n o s t z A B C D F G H:Int}
def vH(p:Nat×Nat):=db m R A0 [p,.agg [i,j,k,a,b,c],l] func111
def vI(p:Nat×Nat):=db m R ⟨[(1,[(4,.I)])],[],[]⟩ [p,a] func112
def px(p:Nat×Nat):=db m R A0 [p,i] func113
def A2(a:O):=db m R ⟨[(2,[(5,.S)])],[],[]⟩ [a,b] func114
def td(p:Nat×Nat):=db m R ⟨[(4,[(8,.I)])],[],[(4,[111,110])]⟩ [p,.agg [i,j,k,a,b,c],.agg [l,n,o,s,d,e]] func115
def uG(p:Nat×Nat):=db m R A0 [p,i,j] func116
def CY(a:O):=db m R ⟨[(3,[(5,.I),(6,.I)])],[],[]⟩ [a,i] func117
def EQ(a:O):=db m R ⟨[(3,[(4,.I)])],[],[(3,[75,74])]⟩ [.agg [a,b]] func118
def wG(p:Nat×Nat):=db m R ⟨[],[(4,[]),(6,[]),(9,[]),(11,[])],[(4,[37]),(6,[37]),(9,[37]),(11,[37])]⟩ [p] func119
def BH(a:O):=db m R ⟨[(3,[(4,.I)])],[],[(3,[45,44])]⟩ [.agg [a,b]] func120
def AU(a:O):=db m R ⟨[(3,[(4,.I)]),(8,[(6,.S),(7,.I)])],[],[(3,[62,61]),(8,[65,62,61])]⟩ [.agg [a,b]] func121
def AL(p:Nat×Nat):=db m R A0 [p,.agg [i,j,k,l,a,b]] func122
def CI(p:Nat×Nat):=db m R A0 [p] func123
def zn(p:Nat×Nat):=db m R A0 [p,.agg [i,j,k,l,a,b]] func124
def zA(a:O):=db m R ⟨[(4,[(3,.I)])],[],[]⟩ [a] func125
def CH(a:O):=db m R ⟨[(2,[(5,.I)])],[],[]⟩ [a,b] func126
def BP(a:O):=db m R ⟨[(2,[(5,.I)])],[],[]⟩ [a,b] func127
def zt(a:O):=db m R ⟨[(4,[(9,.I)])],[(10,[])],[(4,[241,238,237]),(10,[241,238,237])]⟩ [.agg [a,b],.agg [c,d,i,j,e],k] func128
end
section
open Tryz
variable{m:E}{R:Value->E->Prop}
variable{a b p d e f g h r u v w x y z B:O}{i j k l q o s t C D F G H I J K:Int}
def ER(a:O):=db m R A0 [.agg [a,b],i,j,p,d] func129
def Aj(a:O):=db m R ⟨[(4,[(39,.I)]),(9,[(64,.I)])],[],[(9,[108])]⟩ [a,b] func130
def oR(p q:Nat×Nat):=db m R A0 [i,p,q] func131
def oT(p:Nat×Nat):=db m R A0 [i,p] func132
def qO(b c:O)(d e f g:Int)(h i:O)(a:Fn×Array Value×Array Value):=db m R A0 [.agg [b,c],.agg [d,e,f,g,h,i],.c (.fv a)] func133
def sA(a:O):=db m R A0 [.agg [a,b],.agg [i,j,k,l,p,d]] func134
def Ae(a:O):=db m R ⟨[(6,[(48,.I)])],[(5,[])],[(5,[69]),(6,[69])]⟩ [a,.agg [i,j,b]] func135
def Gm(a:O):=db m R A0 [a,i] func136
def qR(s:O)(f:Fn×Array Value×Array Value):=db m R ⟨[(2,[(8,.I)])],[],[]⟩ [s,.c (.fv f)] func137
def rQ(a:O):=db m R A0 [a,i] func138
def Ad(i:Int):=db m R A0 [i] func139
def nW(e:Nat×Nat)(i:Int)(n:Int)(c:O)(m:E)(R:Value->E->Prop):Prop:=
 let k:E:=m.push (.cells (bz [.i i,.i n,.s c]) 45)
 nI m.size m.size (
 ((i==(1:Int))=true->
 R (vb true) k)/\
 ((i==(1:Int))=false->
 let v:E:=k.push (.map #[] 0)
 nI m.size m.size (
 ∃(o:Int->E->Prop)(μ0:Int->E->Nat),
 o (0:Int) v/\
 (∀(b:Int)(f:E),o b f->
 ((decide (b<(c.len:Int)))=true->
 (0:Int)<=b/\b<(c.len:Int)/\
 ∃t:Int,af f c.D (c.off+Int.toNat b*1)=some (vi t)/\
 ∃u:O,af f e.1 (e.2+3+5)=some (O.v u)/\
 aO cp 136 [O.v u,vi t] f λw g=>
 eF [m.size] f g/\
 ∃d:Int,∃q:Bool,w=.tuple #[vi d,vb q]/\
 (q=true->
 ∃l,DL g k.size l/\
 ∃s,DL g k.size s/\
 ∀a:E,DL a k.size (JX s d (cG ((vz l d)+(1:Int))))->a.size=g.size->(∀j,j≠k.size->a[j]? =g[j]?)->
 eF [m.size] g a/\
 ∃h:O,af a e.1 (e.2+3+5)=some (O.v h)/\
 (0:Int)<=d/\d<(h.len:Int)/\
 ∃r:Int,af a h.D (h.off+Int.toNat d*3)=some (vi r)/\
 ∃p,DL a k.size p/\
 af a h.D (h.off+Int.toNat d*3)=af a h.D (h.off+Int.toNat d*3)/\
 af a e.1 (e.2+3+5)=af a e.1 (e.2+3+5)/\
 ((decide ((cG (r+(vz p d)))>(999999:Int)))=true->
 R (vb false) a)/\
 ((decide ((cG (r+(vz p d)))>(999999:Int)))=false->
 pE (SV.box m.size 45 [.i i,.i n,.s c]) (SV.box m.size 45 [.i i,.i n,.s c]) (
 o (cG (b+(1:Int))) a/\μ0 (cG (b+(1:Int))) a<μ0 b f)))/\
 (q=false->
 pE (SV.box m.size 45 [.i i,.i n,.s c]) (SV.box m.size 45 [.i i,.i n,.s c]) (
 o (cG (b+(1:Int))) g/\μ0 (cG (b+(1:Int))) g<μ0 b f)))/\
 ((decide (b<(c.len:Int)))=false->
 R (vb true) f)))))
def sW(a:Nat×Nat)(b:Int)(d:Int)(e:O)(m:E)(R:Value->E->Prop)(f:nW a b d e m R):aO cp 140 [vp a.1 a.2,.agg #[vi b,vi d,O.v e]] m R:=
 uh (o:=⟨[(5,[(17,.I)])],[],[(5,[54])]⟩) (d:=51) (r:=[.tmp 4]) (a:=[.c (.p a.1 a.2),.agg [.i b,.i d,.s e]]) MF YJ YO Tryz.func140 (m:=KR Tryz.f140) (by kernel_rfl) (by kernel_rfl) (by kernel_rfl) (by kernel_rfl) aN (by kernel_rfl) (Eq.mp (by kernel_rfl) f)
def tS(a:O):=db m R ⟨[(4,[(13,.I)])],[],[]⟩ [a,b] func141
def yQ(a:O):=db m R ⟨[(3,[(3,.S),(8,.I)])],[],[]⟩ [a] func142
def JU(i:Int):=db m R A0 [i,j,k] func143
def yO(p:Nat×Nat):=db m R A0 [p,i,a] func144
def Ah(p:Nat×Nat):=db m R ⟨[(1,[(2,.I)])],[],[]⟩ [p] func145
def CE(a:O):=db m R A0 [.agg [a,b],i,j] func146
end
section
open Tryz
variable{m:E}{R:Value->E->Prop}
variable{a b c d e f g h p q r u v w x y:O}{i j k l n o s t z A B C D F G H:Int}
def Hd(a:O):=db m R A0 [a,i] func147
def AJ(a:O):=db m R ⟨[(2,[(5,.I)])],[],[]⟩ [a,b] func148
def EO(i:Int):=db m R A0 [i] func149
def sE(p:Nat×Nat):=db m R ⟨[(2,[(5,.I)]),(6,[(6,.I),(7,.I)])],[],[]⟩ [p,a] func150
def zj(a:O):=db m R ⟨[(3,[(3,.S),(4,.I)])],[],[]⟩ [a] func151
def Dr(a:O):=db m R ⟨[(4,[(5,.I)])],[],[]⟩ [a,b] func152
def Fw(i:Int):=db m R ⟨[(3,[(5,.S),(6,.I)])],[],[(3,[28])]⟩ [.agg [i,j,k,a,b,c],d] func153
def ID(i:Int):=db m R A0 [i] func154
def Ba(a:O):=db m R ⟨[(2,[(3,.I)])],[],[]⟩ [a] func155
def Jb(a:O):=db m R A0 [a,i,j,b] func156
def vd(a:O):=db m R A0 [a,b] func157
def uI(p:Nat×Nat):=db m R A0 [p,i] func158
def Kv(a:O):=db m R ⟨[(2,[(3,.I)])],[],[]⟩ [a] func159
def rV(p:Nat×Nat):=db m R ⟨[(3,[(7,.S),(8,.I)])],[],[(3,[42])]⟩ [p,.agg [i,j,k,l,a,b],c] func160
def Jj(i:Int):=db m R A0 [i] func161
def AT(a:O):=db m R ⟨[(3,[(3,.S),(4,.I)]),(7,[(5,.S),(6,.I)])],[],[]⟩ [a] func162
def xV(i:Int):=db m R ⟨[(3,[(5,.S),(6,.I)])],[],[]⟩ [i,j] func163
def vD(p:Nat×Nat):=db m R ⟨[(2,[(3,.S),(4,.S),(10,.I)])],[(17,[])],[(2,[104,103]),(17,[108,104,103])]⟩ [p,.agg [a,b],.agg [c,i],d,e] func164
end
section
open Tryz
variable{m:E}{R:Value->E->Prop}
variable{a b c d e f g h p q r u v w x y:O}{i j k l n o s t z A B C D F G H:Int}
def xL(p:Nat×Nat):=db m R A0 [p,.agg [i,j,k,l,a,b]] func165
def Hh(a:O):=db m R ⟨[(3,[(5,.I),(6,.I)]),(7,[(5,.I),(7,.I)])],[],[]⟩ [a,i] func166
def xJ(p:Nat×Nat):=db m R A0 [p] func167
def J7(p:Nat×Nat):=db m R ⟨[(9,[(10,.S),(11,.I)])],[],[(9,[108,106,105])]⟩ [p,.agg [a,b]] func168
def AO(a:O):=db m R ⟨[(3,[(4,.I)])],[],[(3,[38,37])]⟩ [.agg [a,b]] func169
def yd(a:O):=db m R ⟨[(3,[(4,.I)])],[],[(3,[40,39])]⟩ [.agg [a,b]] func170
def Hj(a:O):=db m R ⟨[(3,[(4,.I)])],[],[(3,[40,39])]⟩ [.agg [a,b]] func171
def Dx(a:O):=db m R ⟨[(3,[(3,.S),(4,.I)])],[],[]⟩ [a] func172
def rT(i:Int):=db m R A0 [.agg [i,j,k,l,a,b]] func173
def Bb(p:Nat×Nat):=db m R A0 [p] func174
def Mf(a:O):=db m R A0 [a] func175
def BL(a:O):=db m R ⟨[(6,[(6,.I)]),(12,[(7,.I)])],[],[(6,[105]),(12,[105])]⟩ [a,i] func176
def EL(a:O):=db m R ⟨[(2,[(5,.I)])],[],[]⟩ [a,i] func177
def rR(a:O):=db m R A0 [a,i] func178
def Dn(a:O):=db m R A0 [.agg [a,b],i,j,k] func179
def zw(a:O):=db m R ⟨[(4,[(9,.I)])],[],[]⟩ [a,i,j,k] func180
def yL(a:O):=db m R ⟨[(4,[(14,.I)]),(9,[(56,.I)]),(15,[(76,.I)])],[(8,[])],[(8,[110]),(9,[110]),(15,[110])]⟩ [a] func181
def Cz(a:O):=db m R ⟨[(2,[(9,.I)])],[],[]⟩ [a,b] func182
end
section
open Tryz
variable{m:E}{R:Value->E->Prop}
variable{a b c d e f g h p q r u v w x y:O}{i j k l n o s t z A B C D F G H:Int}
def Gl(a:O):=db m R A0 [a,i] func183
def CD(a:O):=db m R A0 [a,i] func184
def Ak(a:O):=db m R A0 [a,i] func185
def mu(s:O)(f:Fn×Array Value×Array Value):=db m R ⟨[(2,[(8,.I)])],[],[]⟩ [s,.c (.fv f)] func186
def wg(i:Int):=db m R A0 [.agg [i,j,a]] func187
def uC(p:Nat×Nat):=db m R ⟨[(17,[(16,.S),(17,.S),(18,.I)]),(22,[(20,.I)]),(33,[(23,.I)])],[],[(17,[215,214]),(22,[215,214]),(33,[215,214])]⟩ [p,.agg [a,b],.agg [i,j,k,c,d],e,f] func188
def Da(a:O):=db m R ⟨[(3,[(5,.S),(6,.I)])],[],[]⟩ [a,i] func189
def Bw(p:Nat×Nat):=db m R A0 [p] func190
def EN(a:O):=db m R ⟨[(3,[(4,.I)])],[],[(3,[38,37])]⟩ [.agg [a,b]] func191
def Kd(a:O):=db m R ⟨[(3,[(4,.I)])],[],[(3,[41,40])]⟩ [.agg [a,b]] func192
def xP(a:O):=db m R ⟨[(5,[(9,.I)])],[],[(5,[67])]⟩ [.agg [a,b],i,j] func193
def wN(p:Nat×Nat):=db m R ⟨[(1,[(1,.I)])],[],[]⟩ [p,i] func194
def Ff(a:O):=db m R A0 [.agg [a,i],j,.agg [k,l,n,b,c]] func195
def CV(i:Int):=db m R A0 [i,j] func196
def yh(a:O):=db m R A0 [.agg [a,b],i,.agg [c,j]] func197
def Dz(a:O):=db m R A0 [.agg [a,b,i,c,j],.agg [d,k]] func198
def xI(a:O):=db m R ⟨[(4,[(3,.S),(4,.S),(5,.I)]),(13,[(7,.S),(8,.I)])],[],[(4,[74,73]),(13,[78,74,73])]⟩ [.agg [a,i]] func199
def wV(a:O):=db m R ⟨[(3,[(2,.I),(8,.I)]),(9,[(10,.S),(12,.I)])],[],[(3,[113,111,110]),(9,[116,113,111,110])]⟩ [.agg [a,b],.agg [c,i],j] func200
end
end Go.Proofs.YtghjegjkpepmpaaGreat
