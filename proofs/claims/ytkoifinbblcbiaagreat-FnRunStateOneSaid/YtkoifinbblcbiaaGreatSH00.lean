/- Part of a proof. -/
import Derived.KernelRfl
import Derived.Laws.Append
import Derived.Laws.Cells
import Derived.Laws.Entries
import Derived.Laws.IdiomCopy
import Derived.Orders
import Derived.OrdersHeld
import Derived.Still
import Derived.Tactics
import Derived.Test.YtkoifinbblcbiaaGreatProg
set_option linter.all false
set_option maxHeartbeats 8000000
set_option maxRecDepth 100000
namespace Go.Vc
def ad:=@Nat.le_refl
def ae:=@if_neg
def ai:=@List.mem_cons_of_mem
def aj:=@beq_eq_false_iff_ne
def an:=@if_pos
def ar:=@decide_eq_true_eq
def ax:=@List.getElem?_append_left
def aI:=@beq_iff_eq
def aK:=@List.getElem?_append_right
def aO:=@Nat.lt_of_lt_of_le
def aV:=@List.mem_cons
def aW:=@Nat.lt_or_ge
def aZ:=@List.length_cons
def be:=@List.length_append
def bg:=@List.mem_cons_self
def bq:=@Nat.eq_of_beq_eq_true
def br:=@Bool.or_eq_false_iff
def bG:=@decide_eq_false_iff_not
def bJ:=@Nat.le_trans
def bK:=@List.mem_append_left
def bM:=@Bool.and_eq_true
def bR:=@Bool.or_eq_true
def bT:=@Nat.zero_add
def cv:=@List.getElem?_set_ne
def cD:=@List.mem_or_eq_of_mem_set
def cJ:=@List.getElem?_map
def cK:=@List.map_cons
def cN:=@List.getElem?_eq_none
def cZ:=@List.cons_append
def dg:=@Nat.mul_le_mul_right
def di:=@Nat.add_assoc
def dk:=@List.take_append_drop
def dw:=@Int.le_refl
def dx:=@Nat.zero_le
def dy:=@List.getElem?_set_self
def dB:=@List.mem_of_mem_take
def dI:=@List.getElem?_take_of_lt
def dQ:=@Classical.byContradiction
def dR:=@Classical.em
def dY:=@List.append_nil
def dZ:=@List.length_map
def eg:=@List.length_set
def eE:=@List.mem_append_right
def eF:=@List.nil_append
def eS:=@Nat.mul_one
def eW:=@List.length_nil
def eX:=@Nat.not_lt_zero
def fw:=@List.dropLast_concat_getLast
def fx:=@List.map_append
def fy:=@List.take_length
def fG:=@List.append_assoc
def fH:=@List.map_nil
def fO:=@Classical.choose_spec
def fV:=@List.getD_eq_getElem?_getD
def gH:=@List.getLast?_eq_some_getLast
def gP:=@List.length_take
def gS:=@Nat.add_mul
def gY:=@List.ext_getElem?
def il:=@List.getElem?_cons_succ
def iB:=@List.mem_of_getElem?
def iC:=@List.set_cons_zero
def iP:=@bne_eq_false_iff_eq
def iR:=@Bool.not_eq_true'
def jg:=@Nat.min_eq_left
def jt:=@Bool.false_eq_true
def ju:=@List.set_cons_succ
def jH:=@List.flatten_cons
def jI:=@List.getElem?_set
def jJ:=@Nat.add_zero
def jK:=@Option.map_eq_some_iff
def jL:=@cond_true
def jO:=@Option.some.inj
def jU:=@Array.getElem?_setIfInBounds_ne
def j8:=@List.not_mem_nil
def j9:=@Nat.eq_zero_or_pos
def kH:=@Ne.symm
def kJ:=@gt_iff_lt
def lI:=@List.getElem?_take
def lJ:=@List.mem_singleton
def lK:=@Array.getElem?_modify
def lL:=@List.getElem?_toArray
def lM:=@Nat.le_of_ble_eq_true
def mG:=@List.flatMap_cons
def mO:=@cond_false
def mS:=@Array.getElem?_push
def mT:=@List.length_reverse
def nu:=@List.map_toArray
def nF:=@List.take_append_of_le_length
def nO:=@List.take_of_length_le
def nP:=@Nat.lt_of_le_of_lt
def ov:=@Option.map_some
def oA:=@congrArg
def oJ:=@ge_iff_le
def oY:=@List.sizeOf_lt_of_mem
def pA:=@Nat.le_succ_of_le
def qv:=@Int.tdiv_eq_ediv_of_nonneg
def qx:=@Nat.succ_mul
def qB:=@List.drop_eq_getElem_cons
def qU:=@List.flatten_append
def qV:=@List.length_take_le
def qW:=@List.replicate_succ
def rU:=@List.set_eq_of_length_le
def rV:=@if_false
def sE:=@List.getElem?_drop
def sL:=@List.getElem?_cons_zero
def uj:=@Int.toNat_natCast
def um:=@List.findIdx_lt_length_of_exists
def uo:=@List.map_set
def uq:=@Nat.le_of_eq
def vQ:=@Option.getD_some
def vR:=@bne_iff_ne
def vS:=@not_or
def xc:=@List.mem_of_mem_drop
def zQ:=@Array.getD_eq_getD_getElem?
def Cf:=@Array.ext_getElem?
def Ch:=@or_false
def Ec:=@List.size_toArray
def Ed:=@Option.some.injEq
def HJ:=@Nat.add_sub_cancel_left
def HK:=@Nat.le_of_not_lt
def Jr:=@Array.getElem?_eq_none
def Js:=@Int.lt_or_le
def Jt:=@List.drop_of_length_le
def JT:=@Bool.eq_iff_iff
def MJ:=@Bool.not_false
def MK:=@List.set_append_left
def ML:=@List.take_take
def MM:=@Nat.mul_le_mul
def MO:=@if_true
def Nz:=@List.getElem?_range
def NA:=@List.replicate_zero
def NE:=@List.take_succ_cons
def NF:=@Nat.testBit_two_pow
def Ou:=@Bool.not_true
def Ov:=@Bool.true_and
def Ow:=@List.all_cons
def Ox:=@List.map_take
def Oy:=@Prod.mk.injEq
def PC:=@List.set_eq_take_append_cons_drop
def QI:=@List.any_nil
def QJ:=@List.reverse_cons
def QK:=@Nat.le_of_lt
def QL:=@Nat.sub_self
def QM:=@Nat.zero_mul
def Tk:=@List.range_succ
def Tn:=@Iff.rfl
def Tp:=@dif_pos
def UJ:=@List.mapM_cons
def UK:=@Nat.eq_of_mul_eq_mul_right
def UL:=@Nat.testBit_or
def US:=@Array.mapM_eq_mapM_toList
def UT:=@List.exists_mem_of_ne_nil
def VF:=@Array.getElem?_replicate
def VG:=@Bool.false_or
def VH:=@Bool.or_false
def VI:=@List.eq_of_mem_replicate
def XG:=@List.map_map
def XH:=@List.mem_map
def XI:=@List.set_set
def XJ:=@Nat.sub_zero
def XY:=@Array.getElem?_mapIdx
def XZ:=@Array.getElem?_toList
def X0:=@List.set_append_right
def Ya:=@Nat.ble_eq_true_of_le
def Zq:=@Int.add_mul
def ZG:=@Array.length_toList
def ZH:=@Array.toList_zipIdx
def aah:=@Array.foldl_toList
def aai:=@Bool.not_eq_false'
theorem dit{p A B:Prop}{i:Decidable p}(f:p->A)(g:¬p->B):(decide p=true->A)/\(decide p=false->B):=⟨λh=>f (of_decide_eq_true h),λh=>g (of_decide_eq_false h)⟩
theorem V{p:Prop}(h:p:=by omega):p:=h
theorem aL{p:Prop}(h:p:=by simp):p:=h
theorem bh{p:Prop}(h:p:=by decide):p:=h
theorem bF{p:Prop}(h:p:=by simp;omega):p:=h
end Go.Vc
section
namespace Go.Vc
variable{n:Nat}{a:Act}
abbrev E:=Array Obj
def af(m:E)(b o:Nat):Option Value:=
 match m[b]? with
 |some (.cells c _ _)=>c[o]?
 |_=>none
def vZ(m:E)(b o:Nat):Bool:=
 match m[b]? with
 |some (.cells _ _ (c,a))=>c<=o&&o<a
 |_=>false
def rI(m:E)(b o:Nat)(v:Value):E:=
 m.modify b λ
  | .cells c e f=>.cells (c.setIfInBounds o v) e f
  |x=>x
def Ac(w:World)(b o:Nat):w.cell? ⟨b,o,none⟩=af w.heap b o:=by
 simp only[World.cell?,af];cases h:w.heap[b]? with
 |none=>rfl
 |some x=>cases x<;>simp
def Q8(w:World)(b o:Nat):w.frozen? ⟨b,o,none⟩=vZ w.heap b o:=by
 simp only[World.frozen?,vZ];cases h:w.heap[b]? with
 |none=>rfl
 |some x=>cases x<;>simp
def Pc(w:World)(b o:Nat)(v:Value):(w.setCell ⟨b,o,none⟩ v).heap=rI w.heap b o v:=by
 simp only[World.setCell,rI];congr 1
structure pI(w w':World):Prop where
 os:w'.os=w.os
 tape:w'.tape=w.tape
 output:w'.output=w.output
def pI.az(w:World):pI w w:=⟨rfl,rfl,rfl⟩
def pI.trans{a b c:World}(h:pI a b)(k:pI b c):pI a c:=⟨k.os.trans h.os,k.tape.trans h.tape,k.output.trans h.output⟩
def aN(P:Program)(f:FuncId)(b:List Value)(m:E)(K:Value->E->Prop):Prop:=
 ∀w:World,w.heap=m->Calls P f b.toArray w λe a=>∃v,e=.returned v/\pI w a/\K v a.heap
def aN.mono{P:Program}{f:FuncId}{b:List Value}{m:E}{K a:Value->E->Prop}(h:aN P f b m K)
 (e:∀v c,K v c->a v c):aN P f b m a:=
 λw i=>(h w i).mono λ_ _⟨v,d,g,c⟩=>⟨v,d,g,e _ _ c⟩
inductive O where
 |nil
 |mk (b o len cap:Nat)
 |Af (b o sp:Nat)
def O.v:O->Value
 | .nil=>.slice none 0 0
 | .mk b o l c=>.slice (some ⟨b,o,none⟩) l c
 | .Af b o a=>.slice (some ⟨b,o,some a⟩) 0 0
def O.len:O->Nat
 | .nil=>0
 | .mk _ _ l _=>l
 | .Af _ _ _=>0
def O.cap:O->Nat
 | .nil=>0
 | .mk _ _ _ c=>c
 | .Af _ _ _=>0
def O.D:O->Nat
 | .nil=>0
 | .mk b _ _ _=>b
 | .Af b _ _=>b
def O.off:O->Nat
 | .nil=>0
 | .mk _ o _ _=>o
 | .Af _ o _=>o
@[simp] theorem O.Sg (b o sp:Nat):(O.Af b o sp).len=0:=rfl
@[simp] theorem O.Vd (b o sp:Nat):(O.Af b o sp).cap=0:=rfl
@[simp] theorem O.O1:O.nil.len=0:=rfl
@[simp] theorem O.Ve:O.nil.cap=0:=rfl
@[simp] theorem O.Zw:O.nil.D=0:=rfl
@[simp] theorem O.ZC:O.nil.off=0:=rfl
@[simp] theorem O.gJ (b o l c:Nat):(O.mk b o l c).len=l:=rfl
@[simp] theorem O.OM (b o l c:Nat):(O.mk b o l c).cap=c:=rfl
@[simp] theorem O.jF (b o l c:Nat):(O.mk b o l c).D=b:=rfl
@[simp] theorem O.nh (b o l c:Nat):(O.mk b o l c).off=o:=rfl
def O.Gv:O->Bool
 | .nil=>true
 | .mk _ _ _ _=>false
 | .Af _ _ _=>false
@[simp] theorem O.XT:O.nil.Gv=true:=rfl
@[simp] theorem O.XS (b o sp:Nat):(O.Af b o sp).Gv=false:=rfl
@[simp] theorem O.YI (b o l c:Nat):(O.mk b o l c).Gv=false:=rfl
def O.cr:O->Option Addr
 | .nil=>none
 | .mk b o _ _=>some ⟨b,o,none⟩
 | .Af b o a=>some ⟨b,o,some a⟩
def O.XE(s:O):s.v=.slice s.cr s.len s.cap:=by cases s<;>rfl
inductive Ce where
 |i (n:Int)
 |u (k:IntKind) (n:Int)
 |t (x:Bool)
 |s (x:O)
 |p (b o:Nat)
 |pn
 |fn (f:Fn) (first captured:Array Value)
 |fv (q:Fn×Array Value×Array Value)
 |nf
 |str (x:ByteArray)
 |mp (b:Nat)
 |mn
 |bp (k b o:Nat)
def Ce.v:Ce->Value
 | .i n=>.int .i64 n
 | .u k n=>.int k n
 | .t x=>.bool x
 | .s x=>x.v
 | .p b o=>.pointer (some ⟨b,o,none⟩)
 | .pn=>.pointer none
 | .fn f a c=>.func f a c
 | .fv q=>.func q.1 q.2.1 q.2.2
 | .nf=>.nilFunc
 | .str x=>.string x
 | .mp b=>.map (some b)
 | .mn=>.map none
 | .bp _ b o=>.pointer (some ⟨b,o,none⟩)
inductive AV where
 |c (x:Ce)
 |agg (l:List Ce)
def AV.v:AV->Value
 | .c x=>x.v
 | .agg l=>.agg (l.map Ce.v).toArray
inductive SV where
 |c (x:Ce)
 |tt
 |ff
 |agg (l:List Ce)
 |XD (l:List AV)
 |un
 |fX
 |box (b e:Nat) (l:List Ce)
 |zZ (b e:Nat) (l:List Ce)
def SV.v:SV->Value
 | .c x=>x.v
 | .tt=>.bool true
 | .ff=>.bool false
 | .agg l=>.agg (l.map Ce.v).toArray
 | .XD l=>.tuple (l.map AV.v).toArray
 | .un=>undef
 | .fX=>undef
 | .box _ _ _=>undef
 | .zZ _ _ _=>undef
def SV.Is:SV->Value->Prop
 | .fX,_=>True
 | .box _ _ _,_=>True
 | .zZ _ _ _,_=>True
 |s,v=>v=s.v
def AV.sv:AV->SV
 | .c x=>.c x
 | .agg l=>.agg l
def AV.aaf(x:AV):x.sv.v=x.v:=by cases x<;>rfl
abbrev Fr:=List (Nat×SV)
def iu:Fr->Nat->SV
 |[],_=>.fX
 |(u,x)::r,t=>bif Nat.beq u t then x else iu r t
def SV.nb:SV->SV
 | .box _ _ _=>.fX
 | .zZ _ _ _=>.fX
 |x=>x
def uw(a:Fr)(d:Option Nat)(x:SV):Fr:=
 match d with
 |some d=>(d,x.nb)::a
 |none=>a
def SV.Uo{x:SV}{v:Value}(h:x.Is v):x.nb.Is v:=by
 cases x<;>first|exact h|trivial
def Ce.lO(x:Ce):x.v.cells=#[x.v]:=by
 cases x with
 |s y=>cases y<;>rfl
 |_=>rfl
def kN:Value->Option Ce
 | .int .i64 n=>some (.i n)
 | .int k n=>some (.u k n)
 | .bool x=>some (.t x)
 | .slice none 0 0=>some (.s .nil)
 | .pointer none=>some .pn
 | .nilFunc=>some .nf
 | .string x=>some (.str x)
 |_=>none
def NU{x:Value}{c:Ce}(h:kN x=some c):c.v=x:=by
 unfold kN at h;split at h<;>simp at h<;>subst h<;>rfl
def pO:List Value->Option (List Ce)
 |[]=>some []
 |v::b=>match kN v,pO b with
  |some c,some a=>some (c::a)
  |_,_=>none
def Lb:∀{b:List Value}{a:List Ce},pO b=some a->a.map Ce.v=b
 |[],_,h=>by simp[pO]at h;subst h;rfl
 |v::b,a,h=>by
  simp only[pO]at h;split at h
  .rename_i e f c d;simp at h;subst h;simp[NU c,Lb d]
  .simp at h
def FZ:Value->SV
 | .bool true=>.tt
 | .bool false=>.ff
 | .agg a=>match pO a.toList with
  |some l=>.agg l
  |none=>.fX
 | .tuple a=>bif a.toList.isEmpty then .un else .fX
 |v=>match kN v with
  |some c=>.c c
  |none=>.fX
def QX(x:Value):(FZ x).Is x:=by
 unfold FZ;split
 .rfl
 .rfl
 .rename_i a;split
  .rename_i l b;show Value.agg a=.agg (l.map Ce.v).toArray;rw[Lb b]
  .trivial
 .rename_i a;cases h:a.toList.isEmpty
  .trivial
  .show Value.tuple a=undef;have:a=#[]:=by simpa using h
   rw[this];rfl
 .split
  .rename_i c a;exact(NU a).symm
  .trivial
def ev(a:Fr):Operand->SV
 | .tmp t=>(iu a t).nb
 | .const v=>FZ v
 | .global g=>.c (.p g 0)
 | .func f=>.c (.fn (.func f) #[] #[])
structure ka(n:Nat)(fr:Fr)(a:Act):Prop where
 size:a.tmps.size=n
 defers:a.defers=[]
 aH:∀t,(iu fr t).Is (a.tmps.getD t undef)
def ka.ev{b:Fr}(h:ka n b a)(x:Operand):(ev b x).Is (a.eval x):=by
 cases x with
 |tmp t=>exact SV.Uo (h.aH t)
 |const v=>exact QX v
 |global g=>rfl
 |func f=>rfl
def ka.put{n:Nat}{b:Fr}{a:Act}(h:ka n b a){d:Option Nat}{x:SV}{v:Value}(g:x.Is v)(hd:∀t,d=some t->t<n):
 ka n (uw b d x) (a.put d v):=by
 cases d with
 |none=>exact h
 |some d=>
  refine⟨by simpa[Act.put]using h.size,h.defers,λt=>?_⟩
  have f:d<a.tmps.size:=by rw[h.size];exact hd d rfl
  simp only[uw,iu,Act.put]
  by_cases e:d=t
  .subst e
   simp only[Nat.beq_refl,jL]
   simpa[f]using SV.Uo g
  .have:Nat.beq d t=false:=by
    cases c:Nat.beq d t
    .rfl
    .exact absurd (bq c) e
   simp only[this,mO]
   have:=h.aH t
   simpa[jU e]using this
def ka.cons{b:Fr}(h:ka n b a)(t:Nat){x:SV}(c:∀v,x.Is v):ka n ((t,x)::b) a:=by
 refine⟨h.size,h.defers,λu=>?_⟩;simp only[iu];cases d:Nat.beq t u
 .exact h.aH u
 .exact c _
def ka.fX{b:Fr}(h:ka n b a)(t:Nat):ka n ((t,.fX)::b) a:=by
 refine⟨h.size,h.defers,λu=>?_⟩;simp only[iu];cases c:Nat.beq t u
 .exact h.aH u
 .trivial
end Go.Vc
end
section
namespace Go.Vc
variable{P:Program}{t b e:Nat}
inductive Sh where
 |I
 |U (k:IntKind)
 |T
 |S
 |P
 |F
 |M
 deriving DecidableEq
abbrev Sh.ty:Sh->Type
 | .I=>Int
 | .U _=>Int
 | .T=>Bool
 | .S=>O
 | .P=>Nat×Nat
 | .F=>Fn×Array Value×Array Value
 | .M=>Nat
abbrev Sh.mk:(s:Sh)->s.ty->Ce
 | .I,n=>.i n
 | .U k,n=>.u k n
 | .T,x=>.t x
 | .S,x=>.s x
 | .P,q=>.p q.1 q.2
 | .F,v=>.fv v
 | .M,b=>.mp b
def Sh.zero:Sh->Ce
 | .I=>.i 0
 | .U k=>.u k 0
 | .T=>.t false
 | .S=>.s .nil
 | .P=>.pn
 | .F=>.nf
 | .M=>.mn
inductive TK where
 |cell
 |slice (elem:Nat)
 |struct (offs:List (Nat×Nat))
 |tuple (ts:List Nat)
 |map (key elem:Nat)
structure TI where
 Ij:TK
 sh:List Sh
 bytes:Nat
abbrev TT:=List (Nat×TI)
def fL:TT->Nat->Option TI
 |[],_=>none
 |(u,x)::r,t=>bif Nat.beq u t then some x else fL r t
def Pe:Sh->Value->Bool
 | .I,.int .i64 0=>true
 | .U k,.int a 0=>decide (k=a)
 | .T,.bool false=>true
 | .S,.slice none 0 0=>true
 | .P,.pointer none=>true
 | .F,.nilFunc=>true
 | .M,.map none=>true
 |_,_=>false
def Pf{s:Sh}{v:Value}(h:Pe s v=true):v=s.zero.v:=by
 unfold Pe at h;split at h<;>first|rfl|(simp at h;subst h;rfl)|simp at h
def FE:List Value->List Sh->Bool
 |[],[]=>true
 |v::b,s::a=>Pe s v&&FE b a
 |_,_=>false
def Cd:∀{b:List Value}{a:List Sh},FE b a=true->b=a.map λs=>s.zero.v
 |[],[],_=>rfl
 |v::b,s::a,h=>by
  simp only[FE,bM]at h;simp[Pf h.1,Cd h.2]
 |[],_::_,h=>by simp[FE]at h
 |_::_,[],h=>by simp[FE]at h
def N3:List Field->List (Nat×Nat)->Bool
 |[],[]=>true
 |f::a,(o,t)::r=>Nat.beq f.offset o&&Nat.beq f.type t&&N3 a r
 |_,_=>false
def LP:∀{a:List Field}{b:List (Nat×Nat)},N3 a b=true->a.map (λf=>(f.offset,f.type))=b
 |[],[],_=>rfl
 |f::a,(o,t)::r,h=>by
  simp only[N3,bM]at h;simp[bq h.1.1,bq h.1.2,LP h.2]
 |[],_::_,h=>by simp[N3]at h
 |_::_,[],h=>by simp[N3]at h
def AA:TypeDesc->List Sh->Bool
 | .bool,[.T]=>true
 | .int .i64,[.I]=>true
 | .int k,[.U k']=>decide (k=k')
 | .pointer _,[.P]=>true
 | .func ..,[.F]=>true
 |_,_=>false
def Cm(i:TypeInfo)(a:TI)(b:Bool):Bool:=
 Nat.beq i.size a.sh.length&&Nat.beq i.bytes a.bytes&&
 (match i.zero with
  |some (.agg c)=>b&&FE c.toList a.sh
  |some z=>!b&&FE [z] a.sh
  |none=>false)
def YT(t:Nat):Nat:=t+1000000
def Vg(P:Program)(t:Nat):Bool:=
 match P.underlying t with
 |some (.struct a)=>a.toList.all (λf=>f.name != "_")&&!P.stoodInHeld t&&!P.eqGuardType P.depth t
 |_=>false
def yM(P:Program)(t:Nat)(a:TI):Bool:=
 match a.Ij with
 | .tuple _=>if t<1000000 then true else Vg P (t -1000000)
 | .slice e=>match P.info? t,P.underlying t with
  |some i,some (.slice b)=>Nat.beq e b&&Cm i a false
  |_,_=>false
 | .struct d=>match P.info? t,P.underlying t with
  |some i,some (.struct c)=>N3 c.toList d&&Cm i a true
  |_,_=>false
 | .map k e=>match P.info? t,P.underlying t with
  |some i,some (.map c b)=>Nat.beq k c&&Nat.beq e b&&Cm i a false
  |_,_=>false
 | .cell=>match P.info? t,P.underlying t with
  |some i,some d=>AA d a.sh&&Cm i a false
  |_,_=>false
def uN(P:Program)(T:TT):Prop:=T.all (λx=>yM P x.1 x.2)=true
def Qy:∀{T:TT}{t:Nat}{b:TI},fL T t=some b->(t,b)∈T
 |[],_,_,h=>by simp[fL]at h
 |(u,x)::r,t,b,h=>by
  simp only[fL]at h;cases a:Nat.beq u t
  .rw[a]at h;exact ai _ (Qy h)
  .rw[a]at h;have:=bq a;simp at h;subst h;subst this;exact bg
def uN.yM{T:TT}(h:uN P T){a:TI}(b:fL T t=some a):yM P t a=true:=
 List.all_eq_true.1 h _ (Qy b)
def uN.cmp{T:TT}(h:uN P T){l:List Nat}{c:List Sh}(a:fL T (YT t)=some ⟨.tuple l,c,b⟩):Vg P t=true:=by
 have:=h.yM a;simp only[Go.Vc.yM]at this;rw[ae (by unfold YT;omega),show YT t -1000000=t by unfold YT;omega]at this;exact this
structure KQ(P:Program)(t:Nat)(ti:TI)(agg:Bool):Prop where
 aam:∃i,P.info? t=some i/\i.size=ti.sh.length/\i.bytes=ti.bytes/\
  ∃z,i.zero=some z/\z.cells.toList=(ti.sh.map λs=>s.zero.v)/\(agg=false->∀cs,z≠.agg cs)
def sU{g:TI}{i:TypeInfo}{c:Bool}(j:P.info? t=some i)(h:Cm i g c=true):KQ P t g c:=by
 simp only[Cm,bM]at h;refine⟨i,j,bq h.1.1,bq h.1.2,?_⟩;have a:=h.2;split at a
 .rename_i d b;simp only[bM]at a;exact⟨_,b,by simpa[Value.cells]using Cd a.2,λf=>by rw[f]at a;simp at a⟩
 .rename_i z f b;simp only[bM]at a;refine⟨_,b,?_,λ_ d e=>f d (by rw[e])⟩;have:=Cd a.2;rw[<-this];cases z<;>first|rfl|exact(f _ rfl).elim
 .simp at a
def ku{a:List Sh}(h:yM P t ⟨.slice e,a,b⟩=true):P.underlying t=some (.slice e)/\KQ P t ⟨.slice e,a,b⟩ false:=by
 simp only[yM]at h;split at h
 .rename_i i f c d;simp only[bM]at h;have:=bq h.1;subst this;exact⟨d,sU c h.2⟩
 .simp at h
def Cx{k:Nat}{a:List Sh}(h:yM P t ⟨.map k e,a,b⟩=true):P.underlying t=some (.map k e)/\KQ P t ⟨.map k e,a,b⟩ false:=by
 simp only[yM]at h;split at h
 .rename_i j l i f g;simp only[bM]at h;have c:=bq h.1.1;have d:=bq h.1.2;subst c;subst d;exact⟨g,sU f h.2⟩
 .simp at h
def np{c:List (Nat×Nat)}{d:List Sh}(h:yM P t ⟨.struct c,d,b⟩=true):
 (∃a,P.underlying t=some (.struct a)/\a.toList.map (λf=>(f.offset,f.type))=c)/\KQ P t ⟨.struct c,d,b⟩ true:=by
 simp only[yM]at h
 split at h
 .rename_i i a e f
  simp only[bM]at h
  exact⟨⟨a,f,LP h.1⟩,sU e h.2⟩
 .simp at h
def ou{a:List Sh}(h:yM P t ⟨.cell,a,b⟩=true):
 (∃d,P.underlying t=some d/\AA d a=true)/\KQ P t ⟨.cell,a,b⟩ false:=by
 simp only[yM]at h
 split at h
 .rename_i i d c e
  simp only[bM]at h
  exact⟨⟨d,e,h.1⟩,sU c h.2⟩
 .simp at h
def TI.agg(a:TI):Bool:=match a.Ij with| .struct _=>true|_=>false
def TI.uU(a:TI):Bool:=match a.Ij with| .tuple _=>true|_=>false
def kE{T:TT}(f:uN P T){d:TI}(g:fL T t=some d)(j:d.uU=false)(w:World):
 (sizeOf t).run P w=.ok d.sh.length w:=by
 have h:=f.yM g
 obtain⟨Ij,k,b⟩:=d
 have:∃i,P.info? t=some i/\i.size=k.length:=by
  cases Ij with
  |cell=>obtain⟨_,⟨i,a,c,_⟩⟩:=ou h;exact⟨i,a,c⟩
  |slice e=>obtain⟨_,⟨i,a,c,_⟩⟩:=ku h;exact⟨i,a,c⟩
  |map l e=>obtain⟨_,⟨i,a,c,_⟩⟩:=Cx h;exact⟨i,a,c⟩
  |struct o=>obtain⟨_,⟨i,a,c,_⟩⟩:=np h;exact⟨i,a,c⟩
  |tuple l=>simp[TI.uU]at j
 obtain⟨i,a,c⟩:=this
 simp[sizeOf,typeInfo,a,c]
def GK{T:TT}(g:uN P T){f:TI}(j:fL T t=some f)(k:f.uU=false):
 ∃i,i.bytes=f.bytes/\i.size=f.sh.length/\(∀w,(typeInfo t).run P w=.ok i w)/\P.info? t=some i:=by
 have h:=g.yM j
 obtain⟨Ij,l,b⟩:=f
 have:∃i,P.info? t=some i/\i.size=l.length/\i.bytes=b:=by
  cases Ij with
  |cell=>obtain⟨_,⟨i,a,c,d,_⟩⟩:=ou h;exact⟨i,a,c,d⟩
  |slice e=>obtain⟨_,⟨i,a,c,d,_⟩⟩:=ku h;exact⟨i,a,c,d⟩
  |map m e=>obtain⟨_,⟨i,a,c,d,_⟩⟩:=Cx h;exact⟨i,a,c,d⟩
  |struct o=>obtain⟨_,⟨i,a,c,d,_⟩⟩:=np h;exact⟨i,a,c,d⟩
  |tuple m=>simp[TI.uU]at k
 obtain⟨i,a,c,d⟩:=this
 exact⟨i,d,c,λw=>by simp[typeInfo,a],a⟩
def wC{T:TT}(m:uN P T){k:TI}(n:fL T t=some k)(o:k.uU=false):
 ∃z,z.cells.toList=k.sh.map (λs=>s.zero.v)/\(∀w,(zeroValue t).run P w=.ok z w)/\(k.agg=false->∀a,z≠.agg a):=by
 have h:=m.yM n
 obtain⟨Ij,l,b⟩:=k
 have:∃i,P.info? t=some i/\∃z,i.zero=some z/\z.cells.toList=(l.map λs=>s.zero.v)/\((TI.mk Ij l b).agg=false->∀a,z≠.agg a):=by
  cases Ij with
  |cell=>obtain⟨_,⟨i,a,g,j,z,c,d,f⟩⟩:=ou h;exact⟨i,a,z,c,d,λ_=>f rfl⟩
  |slice e=>obtain⟨_,⟨i,a,g,j,z,c,d,f⟩⟩:=ku h;exact⟨i,a,z,c,d,λ_=>f rfl⟩
  |map p e=>obtain⟨_,⟨i,a,g,j,z,c,d,f⟩⟩:=Cx h;exact⟨i,a,z,c,d,λ_=>f rfl⟩
  |struct p=>obtain⟨_,⟨i,a,g,j,z,c,d,f⟩⟩:=np h;exact⟨i,a,z,c,d,λh=>by simp[TI.agg]at h⟩
  |tuple d=>simp[TI.uU]at o
 obtain⟨i,a,z,g,j,c⟩:=this
 exact⟨z,j,λw=>by simp[zeroValue,typeInfo,a,g],c⟩
def Iy{T:TT}(d:uN P T){a:TI}(f:fL T t=some a)(g:a.uU=false)(w:World):
 (isAgg t).run P w=.ok a.agg w:=by
 have h:=d.yM f
 obtain⟨Ij,j,b⟩:=a
 cases Ij with
 |cell=>
  obtain⟨⟨i,hd,c⟩,_⟩:=ou h
  unfold AA at c
  split at c<;>first|(simp at c;done)|simp[isAgg,run_underlying hd,TI.agg]
 |slice e=>obtain⟨hd,_⟩:=ku h;simp[isAgg,run_underlying hd,TI.agg]
 |map k e=>obtain⟨hd,_⟩:=Cx h;simp[isAgg,run_underlying hd,TI.agg]
 |struct o=>obtain⟨⟨c,hd,_⟩,_⟩:=np h;simp[isAgg,run_underlying hd,TI.agg]
 |tuple c=>simp[TI.uU]at g
end Go.Vc
end
section
namespace Go.Vc
def lA:SV->Option Bool
 | .tt=>some true
 | .ff=>some false
 | .c (.t x)=>some x
 |_=>none
def SV.jM:SV->Bool
 | .fX=>false
 | .box _ _ _=>false
 | .zZ _ _ _=>false
 |_=>true
def cQ(n:Int):Int:=IntKind.i64.wrap n
def Io{α:Type}:List α->Nat->Option α
 |[],_=>none
 |x::_,0=>some x
 |_::r,n+1=>Io r n
def pU{α:Type}:∀(l:List α)(n:Nat),Io l n=l[n]?
 |[],_=>by simp[Io]
 |x::_,0=>by simp[Io]
 |_::r,n+1=>by simp[Io,pU r n]
def V9(m:E)(b o:Nat):Nat->List Sh->(List Ce->Prop)->Prop
 |_,[],k=>k []
 |j,s::r,k=>∃x:s.ty,af m b (o+j)=some (s.mk x).v/\V9 m b o (j+1) r λl=>k (s.mk x::l)
def VD(a b:Int):Int:=cQ ((a%18446744073709551616).toNat^^^(b%18446744073709551616).toNat:Nat)
def rZ(c:BinOp)(a b:Int)(k:SV->Prop):Prop:=
 match c with
 | .add=>k (.c (.i (cQ (a+b))))
 | .sub=>k (.c (.i (cQ (a -b))))
 | .mul=>k (.c (.i (cQ (a*b))))
 | .quo=>b≠0/\k (.c (.i (cQ (a.tdiv b))))
 | .rem=>b≠0/\k (.c (.i (a.tmod b)))
 | .xor=>k (.c (.i (VD a b)))
 | .eql=>k (.c (.t (a==b)))
 | .neq=>k (.c (.t (a !=b)))
 | .lss=>k (.c (.t (decide (a<b))))
 | .leq=>k (.c (.t (decide (a<=b))))
 | .gtr=>k (.c (.t (decide (a>b))))
 | .geq=>k (.c (.t (decide (a>=b))))
 |_=>False
def U8(c:BinOp)(a b:Bool)(k:SV->Prop):Prop:=
 match c with
 | .eql=>k (.c (.t (a==b)))
 | .neq=>k (.c (.t (!(a==b))))
 |_=>False
def Vq(a:BinOp)(s:O)(k:SV->Prop):Prop:=
 match a with
 | .eql=>k (.c (.t s.Gv))
 | .neq=>k (.c (.t (!s.Gv)))
 |_=>False
def ZF(a:UnOp)(x:SV)(k:SV->Prop):Prop:=
 match a,x with
 | .not,.tt=>k .ff
 | .not,.ff=>k .tt
 | .not,.c (.t b)=>k (.c (.t (!b)))
 | .neg,.c (.i n)=>k (.c (.i (cQ (0 -n))))
 |_,_=>False
def O.cut(x:O)(a d e:Nat):O:=
 match x with
 | .nil=>.nil
 | .mk b o _ c=>.mk b (if c=a then o else o+a*e) (d -a) (c -a)
 | .Af b o c=>.Af b o c
def SV.cells:SV->Option (List Ce)
 | .c x=>some [x]
 | .tt=>some [.t true]
 | .ff=>some [.t false]
 | .agg l=>some l
 |_=>none
def mq(l:List Ce)(b:Nat)(a:List Ce):List Ce:=
 match b,l with
 |0,l=>match a,l with
  |[],l=>l
  |n::a,_::l=>n::mq l 0 a
  |_::_,[]=>[]
 |b+1,x::l=>x::mq l b a
 |_+1,[]=>[]
termination_by structural l
def FW(T:TT)(c:Fr)(e:List (Nat×Nat)):List Ce->List (Nat×Operand)->(List Ce->Prop)->Prop
 |a,[],k=>k a
 |a,(i,x)::r,k=>
  match Io e i,(ev c x).cells with
  |some (d,t),some b=>
   match fL T t with
   |some f=>bif !f.uU&&Nat.beq b.length f.sh.length&&Nat.ble (d+b.length) a.length then FW T c e (mq a d b) r k else False
   |none=>False
  |_,_=>False
def vC(T:TT):List (Nat×Nat)->Bool
 |[]=>true
 |(_,t)::r=>(match fL T t with|some a=>!a.uU|none=>false)&&vC T r
def Nh(a:Fr)(x:Option Operand)(d:Int)(k:Int->Prop):Prop:=
 match x with
 |none=>k d
 |some x=>match ev a x with
  | .c (.i n)=>k n
  |_=>False
def Xr(T:TT)(t:Nat)(s:O)(n:Int)(k:SV->Prop):Prop:=
 match fL T t with
 |some ⟨.slice e,_,_⟩=>match fL T e with
  |some a=>bif a.uU then False else 0<=n/\n<(s.len:Int)/\k (.c (.p s.D (s.off+n.toNat*a.sh.length)))
  |none=>False
 |_=>False
def Qd(T:TT)(m:E)(t b o:Nat)(k:SV->Prop):Prop:=
 match fL T t with
 |some ⟨.struct _,a,_⟩=>V9 m b o 0 a λl=>k (.agg l)
 |some ⟨.cell,[s],_⟩=>∃x:s.ty,af m b o=some (s.mk x).v/\k (.c (s.mk x))
 |some ⟨.slice _,[_],_⟩=>∃x:O,af m b o=some x.v/\k (.c (.s x))
 |_=>False
def Rv(T:TT)(a:Fr)(t:Nat)(s:O)(d c:Option Operand)(k:SV->Prop):Prop:=
 match fL T t with
 |some ⟨.slice e,_,_⟩=>match fL T e with
  |some b=>bif b.uU then False else
   Nh a d 0 λl=>Nh a c (s.len:Int) λh=>0<=l/\l<=h/\h<=(s.cap:Int)/\k (.c (.s (s.cut l.toNat h.toNat b.sh.length)))
  |none=>False
 |_=>False
def OU(T:TT)(t f:Nat)(l:List Ce)(k:SV->Prop):Prop:=
 match fL T t with
 |some ⟨.struct c,_,_⟩=>match Io c f with
  |some (b,u)=>match fL T u with
   |some a=>bif a.uU then False else bif a.agg then k (.agg ((l.drop b).take a.sh.length))else(match Io l b with|some x=>k (.c x)|none=>False)
   |none=>False
  |none=>False
 |_=>False
def Gc(T:TT)(t f o:Nat)(mk:Nat->SV)(k:SV->Prop):Prop:=
 match fL T t with
 |some ⟨.struct c,_,_⟩=>match Io c f with
  |some (b,u)=>match fL T u with
   |some a=>bif a.uU||Nat.beq a.sh.length 0 then False else k (mk (o+b))
   |none=>False
  |none=>False
 |_=>False
def MU(a b:Nat)(k:Prop):Prop:=a=b/\k
def aD(b:Nat)(k:Prop):MU b b k=k:=by simp[MU]
def HA:List Ce->Nat->Nat->Option (List Ce)
 |_,_,0=>some []
 |l,o,n+1=>match Io l o,HA l (o+1) n with
  |some c,some r=>some (c::r)
  |_,_=>none
def NR(T:TT)(t:Nat)(a:List Ce)(o:Nat)(k:SV->Prop):Prop:=
 match fL T t with
 |some ⟨.struct _,b,_⟩=>match HA a o b.length with
  |some l=>k (.agg l)
  |none=>False
 |some ⟨.cell,[_],_⟩=>match Io a o with
  |some c=>k (.c c)
  |none=>False
 |some ⟨.slice _,[_],_⟩=>match Io a o with
  |some c=>k (.c c)
  |none=>False
 |some ⟨.map _ _,[_],_⟩=>match Io a o with
  |some c=>k (.c c)
  |none=>False
 |_=>False
def TN(T:TT)(c:Fr)(d:Builtin)(e:List Nat)(f:List Operand)(k:SV->Prop):Prop:=
 match d,e,f with
 | .len,[t],[x]=>match fL T t,ev c x with
  |some ⟨.slice _,_,_⟩,.c (.s s)=>k (.c (.i (s.len:Int)))
  |_,_=>False
 | .max,_,[x,y]=>match ev c x,ev c y with
  | .c (.i a),.c (.i b)=>k (.c (.i (if b>a then b else a)))
  |_,_=>False
 | .min,_,[x,y]=>match ev c x,ev c y with
  | .c (.i a),.c (.i b)=>k (.c (.i (if b<a then b else a)))
  |_,_=>False
 |_,_,_=>False
def XR(T:TT):Nat->List (Nat×Nat)->List Ce->List Ce->Option Bool
 |_,[],[],[]=>some true
 |i,(o,u)::c,.i a::l,.i b::r=>bif Nat.beq o i then match fL T u,XR T (i+1) c l r with
  |some ⟨.cell,[.I],_⟩,some z=>some (a==b&&z)
  |_,_=>none else none
 |_,_,_,_=>none
def eqA(T:TT)(t:Nat)(l r:List Ce)(k:SV->Prop):Prop:=
 match fL T (YT t),fL T t with
 |some ⟨.tuple _,_,_⟩,some ⟨.struct a,_,_⟩=>match XR T 0 a l r with
  |some z=>k (.c (.t z))
  |none=>False
 |_,_=>False
def rd(T:TT)(a:Fr)(m:E)(k:SV->Prop):Op->Prop
 | .move x| .assign x=>k (ev a x)
 | .pick d c b=>match ev a d with
  | .tt=>k (ev a c)
  | .ff=>k (ev a b)
  | .c (.t x)=>match lA (ev a c),lA (ev a b)with
   |some y,some z=>k (.c (.t (bif x then y else z)))
   |_,_=>False
  |_=>False
 | .nilCheck x=>match ev a x with
  | .c (.p b o)=>k (.c (.p b o))
  | .c (.bp q b o)=>k (.c (.bp q b o))
  | .c (.fn (.func f) c d)=>k (.c (.fn (.func f) c d))
  | .c (.fv q)=>∃g,q.1=.func g/\k (.c (.fv q))
  |_=>False
 | .binOp d t x y _=>match ev a x,ev a y with
  | .c (.i c),.c (.i b)=>rZ d c b k
  | .c (.s s),.c (.s .nil)=>match fL T t with
   |some ⟨.slice _,_,_⟩=>Vq d s k
   |_=>False
  | .agg l,.agg r=>match d with
   | .eql=>eqA T t l r k
   |_=>False
  |sx,e=>match fL T t,lA sx,lA e with
   |some ⟨.cell,[.T],_⟩,some c,some b=>U8 d c b k
   |_,_,_=>False
 | .unOp d _ x=>ZF d (ev a x) k
 | .convert s t x=>match fL T s,fL T t,ev a x with
  |some ⟨.cell,[_],_⟩,some ⟨.cell,[.I],_⟩,.c (.u _ n)=>k (.c (.i (cQ n)))
  |_,_,_=>False
 | .fieldAddr t x f=>match ev a x with
  | .c (.p b o)=>Gc T t f o (λo=>.c (.p b o)) k
  | .c (.bp q b o)=>Gc T t f o (λo=>.c (.bp q b o)) k
  |_=>False
 | .field t x f=>match ev a x with
  | .agg l=>OU T t f l k
  |_=>False
 | .indexAddr t x i=>match ev a x,ev a i with
  | .c (.s s),.c (.i n)=>Xr T t s n k
  |_,_=>False
 | .load t x=>match ev a x with
  | .c (.p b o)=>Qd T m t b o k
  | .c (.bp q b o)=>match iu a q with
   | .box c _ d=>MU c b (NR T t d o k)
   | .zZ c _ d=>MU c b (NR T t d o k)
   |_=>Qd T m t b o k
  |_=>False
 | .extract x i=>match ev a x with
  | .XD l=>match Io l i with
   |some y=>k y.sv
   |none=>False
  |_=>False
 | .slice t x c b none=>match ev a x with
  | .c (.s s)=>Rv T a t s c b k
  |_=>False
 | .build t c=>match fL T t with
  |some ⟨.struct b,d,_⟩=>bif vC T b then FW T a b (d.map Sh.zero) c.toList λl=>k (.agg l)else False
  |_=>False
 | .call ⟨.builtin c,b,d⟩=>TN T a c d.toList b.toList k
 |_=>False
def lP(a:Fr)(q b e:Nat)(l:List Ce):Prop:=iu a q=.box b e l\/iu a q=.zZ b e l
structure Bx(n:Nat)(fr:Fr)(m:E):Prop where
 D:∀q b e l,lP fr q b e l->m[b]? =some (.cells (l.map Ce.v).toArray e)
 OO:∀q q' b e l b' e' l',q≠q'->lP fr q b e l->lP fr q' b' e' l'->b≠b'
 key:∀q b e l,lP fr q b e l->n<=q
def Tm(T:TT)(c:Fr):Op->List (Nat×Nat)
 | .load t x=>match ev c x,fL T t with
  | .c (.p b o),some a=>(List.range a.sh.length).map λj=>(b,o+j)
  | .c (.bp _ b o),some a=>(List.range a.sh.length).map λj=>(b,o+j)
  |_,_=>[]
 |_=>[]
end Go.Vc
end
section
namespace Go.Vc
variable{s:SV}{b:Bool}
def SV.Is.eq{v:Value}(h:s.Is v)(a:s.jM=true):v=s.v:=by
 cases s<;>first|exact h|simp[SV.jM]at a
def nW(s:SV):s.Is s.v:=by cases s<;>first|rfl|trivial
def ka.eq{n:Nat}{b:Fr}{a:Act}(h:ka n b a){x:Operand}{s:SV}(c:Vc.ev b x=s)(d:s.jM=true):a.eval x=s.v:=by
 have:=h.ev x;rw[c]at this;exact this.eq d
def xh(h:lA s=some b):s.jM=true/\s.v=.bool b:=by
 unfold lA at h;split at h<;>simp_all [SV.jM,SV.v,Ce.v]
def ka.Zy{n:Nat}{c:Fr}{a:Act}(h:ka n c a){x:Operand}(d:lA (Vc.ev c x)=some b):a.eval x=.bool b:=by
 rw[h.eq rfl (xh d).1,(xh d).2]
def vY(b o n:Nat):(⟨b,o,none⟩:Addr).add n=⟨b,o+n,none⟩:=by
 unfold Addr.add;split
 .rename_i h;subst h;rfl
 .rfl
def Cr:∀(l:List Ce)(a:Nat)(b:List Ce)(i:Nat),a+b.length<=l.length->
 (mq l a b)[i]? =if a<=i/\i<a+b.length then b[i -a]? else l[i]?
 |[],0,[],i,_=>by simp[mq]
 |[],0,_::_,_,h=>by simp at h
 |[],_+1,_,_,h=>by simp at h
 |x::l,0,[],i,_=>by simp[mq]
 |x::l,0,n::b,i,h=>by
  simp only[mq];cases i with
  |zero=>simp
  |succ i=>
   have:=Cr l 0 b i (by simp at h;omega);simp only[il,this];simp
 |x::l,a+1,b,i,h=>by
  simp only[mq];cases i with
  |zero=>simp
  |succ i=>
   have:=Cr l a b i (by simp at h;omega);simp only[il,this];have e:(i+1 -(a+1))=i -a:=V;simp only[e];congr 1;simp;omega
def NW(c:List Value):∀(k a:Nat)(b:Array Value)(i:Nat),
 ((c.zipIdx k).foldl (λ(d:Array Value)(p:Value×Nat)=>d.setIfInBounds (a+p.2) p.1) b)[i]? =
  if a+k<=i/\i<a+k+c.length/\i<b.size then c[i -(a+k)]? else b[i]? :=by
 induction c with
 |nil=>intro k a b i;simp;intro h;omega
 |cons v c g=>
  intro k a b i
  simp only[List.zipIdx_cons,List.foldl_cons,g,Array.size_setIfInBounds,aZ]
  by_cases d:i=a+k
  .subst d
   by_cases e:a+k<b.size
   .simp[e];try omega
   .simp[e];try omega
  .have:¬(a+k=i):=λf=>d f.symm
   rw[jU this]
   by_cases e:a+k<=i/\i<a+k+(c.length+1)/\i<b.size
   .rw[an e,an V]
    have:i -(a+k)=(i -(a+(k+1)))+1:=V
    rw[this,il]
   .rw[ae e,ae V]
def pN{l:List Ce}(h:s.cells=some l):s.jM=true/\s.v.cells=(l.map Ce.v).toArray:=by
 cases s with
 |c x=>simp[SV.cells]at h;subst h;exact⟨rfl,by simp[SV.v,Ce.lO]⟩
 |tt=>simp[SV.cells]at h;subst h;exact⟨rfl,rfl⟩
 |ff=>simp[SV.cells]at h;subst h;exact⟨rfl,rfl⟩
 |agg a=>simp[SV.cells]at h;subst h;exact⟨rfl,rfl⟩
 |XD _=>simp[SV.cells]at h
 |un=>simp[SV.cells]at h
 |fX=>simp[SV.cells]at h
 |box _ _ _=>simp[SV.cells]at h
 |zZ _ _ _=>simp[SV.cells]at h
end Go.Vc
end
section
namespace Go.Vc
variable{x y:Operand}{c:TypeId}{h b f o:Nat}{g:List Ce}
variable{e:Program}{T:TT}
def pd(e:Program)(T:TT)(b:Fr)(m:E)(a:Act)(o:Oper)(k:SV->Prop):Prop:=
 ∃x v,k x/\x.Is v/\∀w:World,(∀q∈Tm T b o.op,af w.heap q.1 q.2=af m q.1 q.2)->(execOp a.eval o).run e w=.ok (.value v) w
section
variable{n:Nat}{i:Fr}{a:Act}{j:E}{k:SV->Prop}{q:Option Tmp}{v:TypeId}{u:String}{p:Array Edge}{r:Option (Nat×Bool)}
def Uf(b:ka n i a)(h:k (ev i x)):pd e T i j a ⟨q,.move x,v,u,p,r⟩ k:=
 ⟨_,_,h,b.ev x,λw _=>by simp[execOp]⟩
def SS(b:ka n i a)(h:k (ev i x)):pd e T i j a ⟨q,.assign x,v,u,p,r⟩ k:=
 ⟨_,_,h,b.ev x,λw _=>by simp[execOp]⟩
def Rc(c:ka n i a){f:Operand}(h:rd T i j k (.pick f x y)):pd e T i j a ⟨q,.pick f x y,v,u,p,r⟩ k:=by
 simp only[rd]at h;split at h
 .rename_i d;exact⟨_,_,h,c.ev x,λw _=>by simp[execOp,c.eq d rfl,SV.v,asBool]⟩
 .rename_i d;exact⟨_,_,h,c.ev y,λw _=>by simp[execOp,c.eq d rfl,SV.v,asBool]⟩
 .rename_i b d;split at h
  .rename_i m o g l;refine⟨_,_,h,nW _,λw _=>?_⟩;simp[execOp,c.eq d rfl,SV.v,Ce.v,asBool,c.Zy g,c.Zy l];try (cases b<;>rfl)
  .exact h.elim
 .exact h.elim
def Lp(d:ka n i a)(h:rd T i j k (.nilCheck x)):pd e T i j a ⟨q,.nilCheck x,v,u,p,r⟩ k:=by
 simp only[rd]at h;split at h
 .rename_i b o c;exact⟨_,_,h,nW _,λw _=>by simp[execOp,d.eq c rfl,SV.v,Ce.v]⟩
 .rename_i m b o c;exact⟨_,_,h,nW _,λw _=>by simp[execOp,d.eq c rfl,SV.v,Ce.v]⟩
 .rename_i f g l c;exact⟨_,_,h,nW _,λw _=>by simp[execOp,d.eq c rfl,SV.v,Ce.v]⟩
 .rename_i m c;obtain⟨s,g,l⟩:=h;exact⟨_,_,l,nW _,λw _=>by simp[execOp,d.eq c rfl,SV.v,Ce.v,g]⟩
 .exact h.elim
def U9{a:BinOp}{x y:Int}(h:rZ a x y k):∃s v,k s/\s.Is v/\∀w:World,(binOp a c (.int .i64 x) (.int .i64 y)).run e w=.ok v w:=by
 cases a<;>simp only[rZ]at h
 case quo=>exact⟨_,_,h.2,nW _,λw=>by simp[binOp,Op.intDiv,h.1,SV.v,Ce.v,cQ]⟩
 case rem=>exact⟨_,_,h.2,nW _,λw=>by simp[binOp,Op.intDiv,h.1,SV.v,Ce.v]⟩
 case xor=>exact⟨_,_,h,nW _,λw=>by simp[binOp,Op.intBits,SV.v,Ce.v,cQ,VD,IntKind.bits];rfl⟩
 all_goals exact⟨_,_,h,nW _,λw=>by simp[binOp,Op.intArith,Op.intCmp,SV.v,Ce.v,cQ]⟩
def PZ(a:BinOp)(c:TypeId)(d f:Operand)(b:IntKind)(x:Int)(y:Value)(w:World):(eqGuard a c d f (.int b x) y).run e w=.ok () w:=by
 cases a<;>simp[eqGuard]
def OS(a:BinOp)(c:TypeId)(b d:Operand)(x:Bool)(y:Value)(w:World):(eqGuard a c b d (.bool x) y).run e w=.ok () w:=by
 cases a<;>simp[eqGuard]
def Q2(hd:e.underlying c=some .bool)(x y:Bool)(w:World):(Op.equal c (.bool x) (.bool y)).run e w=.ok (x==y) w:=by
 have:Op.equal c (.bool x) (.bool y)=Op.equalIn (9999+1) c (.bool x) (.bool y):=rfl;rw[this];generalize 9999=h;simp[Op.equalIn,run_underlying hd]
def JW{a:TypeId}(hd:e.underlying c=some (.slice a))(s:O)(w:World):(Op.equal c s.v (.slice none 0 0)).run e w=.ok s.Gv w:=by
 have:Op.equal c s.v (.slice none 0 0)=Op.equalIn (9999+1) c s.v (.slice none 0 0):=rfl;rw[this];generalize 9999=h;cases s<;>simp[Op.equalIn,run_underlying hd,O.v]
def P1(hd:e.underlying c=some (.int .i64))(x y:Int)(w:World):(Op.equalIn (h+1) c (.int .i64 x) (.int .i64 y)).run e w=.ok (x==y) w:=by
 simp[Op.equalIn,run_underlying hd]
def Qh(d:uN e T){u:Nat}(f:fL T u=some ⟨.cell,[.I],b⟩){a:Array Value}{c:Nat}{v:Value}(h:a[c]? =some v)(w:World):(part u a c).run e w=.ok v w:=by
 simp[part,Iy d f rfl,TI.agg,h]
def Uc(n:uN e T){X Y:Array Value}(A:World):∀(j:List Field)(i:Nat)(l:List (Nat×Nat))(g r:List Ce)(z:Bool),j.map (λf=>(f.offset,f.type))=l->(∀f∈j,f.name≠ "_")->
 (∀k d,g[k]? =some d->X[i+k]? =some d.v)->(∀k d,r[k]? =some d->Y[i+k]? =some d.v)->XR T i l g r=some z->
 (forIn (m:=Sem) j ((none,()):Option Bool×PUnit) λf _=>do
  if f.name≠ "_" then
   if !(<-Op.equalIn (h+1) f.type (<-part f.type X f.offset) (<-part f.type Y f.offset))then pure (.done (some false,()))else pure (.yield (none,()))
  else pure (.yield (none,()))).run e A=.ok (if z=true then(none,())else(some false,())) A:=by
 intro j
 induction j with
 |nil=>
  intro i l g r z u v p q c
  subst u
  cases g<;>cases r<;>simp[XR]at c
  subst c
  simp
 |cons f j K=>
  intro i l g r z u v p q c
  subst u
  simp only[cK]at c
  unfold XR at c
  split at c
  .simp at*
  .rename_i i _ _ _ _ o N l a g b r C
   obtain⟨⟨rfl,rfl⟩,rfl⟩:=by simpa using C
   cases s:Nat.beq f.offset i
   .rw[s]at c;simp at c
   .rw[s]at c;simp only[jL]at c
    have x:=bq s
    split at c
    .rename_i M L w J
     simp only[Ed]at c
     obtain⟨⟨B,D,y⟩,_⟩:=ou (n.yM w)
     have F:B=.int .i64:=by unfold AA at y;split at y<;>simp_all
     subst F
     have H:X[f.offset]? =some (.int .i64 a):=by have:=p 0 (.i a) rfl;rw[x];exact this
     have I:Y[f.offset]? =some (.int .i64 b):=by have:=q 0 (.i b) rfl;rw[x];exact this
     have G:=K (i+1) _ g r L rfl (λt E=>v t (ai _ E)) (λk d t=>by have:=p (k+1) d (by simpa using t);rw[<-this];congr 1;omega) (λk d t=>by have:=q (k+1) d (by simpa using t);rw[<-this];congr 1;omega) J
     rw[List.forIn_cons,Sem.run_bind,an (v f bg)]
     simp only[Sem.run_bind,Qh n w H,Qh n w I,Result.andThen_ok,P1 D]
     cases t:(a==b)
     .rw[t]at c;subst c;simp
     .rw[t]at c;simp only[Ov]at c;subst c
      simp only[Ou,jt,rV,Sem.run_pure,Result.andThen_ok]
      exact G
    .simp at c
  .simp at c
def OT(j:uN e T){a:Array Field}(p:e.underlying c=some (.struct a))(o:e.stoodInHeld c=false)(n:∀f∈a.toList,f.name≠ "_"){r:List Ce}{z:Bool}
 (l:XR T 0 (a.toList.map λf=>(f.offset,f.type)) g r=some z)(w:World):(Op.equal c (.agg (g.map Ce.v).toArray) (.agg (r.map Ce.v).toArray)).run e w=.ok z w:=by
 have:Op.equal c (.agg (g.map Ce.v).toArray) (.agg (r.map Ce.v).toArray)=Op.equalIn (9998+1+1) c (.agg (g.map Ce.v).toArray) (.agg (r.map Ce.v).toArray):=rfl
 rw[this]
 generalize 9998=h
 rw[Op.equalIn]
 simp only[Sem.run_bind,run_underlying p,Result.andThen_ok]
 have m:=Uc j (h:=h) (X:=(g.map Ce.v).toArray) (Y:=(r.map Ce.v).toArray) w a.toList 0 _ g r z rfl n (λk i b=>by simp[b]) (λk i b=>by simp[b]) l
 have b:(program:Sem Program).run e w=.ok e w:=rfl
 rw[b,Result.andThen_ok,ae (by simp[o]),Sem.run_bind,<-Array.forIn_toList,m]
 cases z<;>rfl
def SI(h:Vg e c=true):∃a,e.underlying c=some (.struct a)/\(∀f∈a.toList,f.name≠ "_")/\e.stoodInHeld c=false/\e.eqGuardType e.depth c=false:=by
 unfold Vg at h;split at h
 .rename_i a b;simp only[bM,List.all_eq_true,vR,iR]at h;exact⟨a,b,h.1.1,h.1.2,h.2⟩
 .cases h
def PY(h:e.eqGuardType e.depth c=false)(f g:Operand)(a b:Array Value)(w:World):(eqGuard .eql c f g (.agg a) (.agg b)).run e w=.ok () w:=by
 have d:(program:Sem Program).run e w=.ok e w:=rfl;simp only[eqGuard,Sem.run_bind];simp[d,h]
def MT(a:BinOp)(c:TypeId)(b d:Operand)(s:O)(y:Value)(w:World):(eqGuard a c b d s.v y).run e w=.ok () w:=by
 cases s<;>cases a<;>simp[eqGuard,O.v]
def P5(m:uN e T)(d:ka n i a){z:BinOp}{D:TypeId}(b:rd T i j k (.binOp z c x y D)):pd e T i j a ⟨q,.binOp z c x y D,v,u,p,r⟩ k:=by
 simp only[rd]at b;split at b
 .rename_i L M f l;obtain⟨s,E,A,w,C⟩:=U9 (e:=e) (c:=c) b;refine⟨s,E,A,w,λB _=>?_⟩;simp only[execOp,d.eq f rfl,d.eq l rfl,SV.v,Ce.v,Sem.run_bind];simp[PZ,C]
 .rename_i s f l;split at b
  .rename_i I J H A;have w:=(ku (m.yM A)).1;have F:a.eval x=s.v:=d.eq f rfl;have G:a.eval y=.slice none 0 0:=d.eq l rfl;cases z<;>simp only[Vq]at b
   all_goals
    first
    |exact b.elim
    |exact⟨_,_,b,nW _,λB _=>by
     have C:∀o:BinOp,o=.eql\/o=.neq->binOp o c s.v (.slice none 0 0)=(if o=.eql then(do pure (.bool (<-Op.equal c s.v (.slice none 0 0))))else(do pure (.bool (!(<-Op.equal c s.v (.slice none 0 0)))))):=by
      intro o E;rcases E with rfl|rfl<;>cases s<;>rfl
     simp only[execOp,F,G,Sem.run_bind,MT,Result.andThen_ok];rw[C _ aL];simp[JW w,SV.v,Ce.v]⟩
  .exact b.elim
 .rename_i g N f l;split at b
  .unfold eqA at b;split at b
   .rename_i G A;split at b
    .rename_i R C;obtain⟨O,w,J,K,H⟩:=SI (m.cmp G);obtain⟨⟨Q,s,I⟩,_⟩:=np (m.yM A);rw[w]at s;obtain rfl:=(TypeDesc.struct.inj (jO s));rw[<-I]at C;refine⟨_,_,b,nW _,λB _=>?_⟩;have E:a.eval x=.agg (g.map Ce.v).toArray:=d.eq f rfl;have F:a.eval y=.agg (N.map Ce.v).toArray:=d.eq l rfl;simp only[execOp,E,F,Sem.run_bind,PY H,Result.andThen_ok,binOp,OT m w K J C];rfl
    .exact b.elim
   .exact b.elim
  .exact b.elim
 .split at b
  .rename_i L M w f l;obtain⟨⟨h,hd,A⟩,_⟩:=ou (m.yM w);have s:h=.bool:=by
    cases h<;>simp_all [AA]
   subst s;cases z<;>simp only[U8]at b
   all_goals
    first
    |exact b.elim
    |exact⟨_,_,b,nW _,λB _=>by
     simp only[execOp,d.Zy f,d.Zy l,Sem.run_bind,OS,Result.andThen,binOp,Q2 hd];rfl⟩
  .exact b.elim
def MY(d:uN e T)(l:ka n i a){s:TypeId}(b:rd T i j k (.convert s c x)):pd e T i j a ⟨q,.convert s c x,v,u,p,r⟩ k:=by
 simp only[rd]at b;split at b
 .rename_i B b1 b2 z A t w y;obtain⟨⟨h,hd,_⟩,_⟩:=ou (d.yM t);obtain⟨⟨g,m,f⟩,_⟩:=ou (d.yM w);have o:g=.int .i64:=by unfold AA at f;split at f<;>simp_all
  subst o;exact⟨_,_,b,nW _,λC _=>by
   simp only[execOp,l.eq y rfl,SV.v,Ce.v,Sem.run_bind];simp[convert,run_underlying hd,run_underlying m,Conv.intToInt,cQ]⟩
 .exact b.elim
def Re(b:ka n i a){f:UnOp}(h:rd T i j k (.unOp f c x)):pd e T i j a ⟨q,.unOp f c x,v,u,p,r⟩ k:=by
 simp only[rd]at h;generalize d:ev i x=sx at h;unfold ZF at h;split at h
 .exact⟨_,_,h,nW _,λw _=>by simp[execOp,b.eq d rfl,SV.v,Op.unary]⟩
 .exact⟨_,_,h,nW _,λw _=>by simp[execOp,b.eq d rfl,SV.v,Op.unary]⟩
 .exact⟨_,_,h,nW _,λw _=>by simp[execOp,b.eq d rfl,SV.v,Ce.v,Op.unary]⟩
 .exact⟨_,_,h,nW _,λw _=>by simp[execOp,b.eq d rfl,SV.v,Ce.v,Op.unary,Op.intArith,cQ]⟩
 .exact h.elim
def DM(l:uN e T)(L:ka n i a){mk:Nat->SV}(E:∀o,(mk o).v=.pointer (some ⟨b,o,none⟩))(J:a.eval x=.pointer (some ⟨b,o,none⟩))(h:Gc T c f o mk k):
 pd e T i j a ⟨q,.fieldAddr c x f,v,u,p,r⟩ k:=by
 unfold Gc at h
 split at h
 .rename_i N O K H
  split at h
  .rename_i M P s
   split at h
   .rename_i g I
    cases d:(g.uU||Nat.beq g.sh.length 0)
    .rw[d]at h
     simp only[br]at d
     obtain⟨⟨z,C,D⟩,_⟩:=np (l.yM H)
     rw[pU,<-D,cJ]at s
     obtain⟨y,A,m⟩:=Option.map_eq_some_iff.1 s
     simp only[Oy]at m
     obtain⟨rfl,rfl⟩:=m
     have G:=λw=>kE l I d.1 w
     have F:g.sh.length≠0:=λt=>by rw[t]at d;simp at d
     refine⟨_,_,h,nW _,λw _=>?_⟩
     have B:z[f]? =some y:=by simpa using A
     rw[E]
     simp[execOp,Instr.fieldAt,J,run_underlying C,B,Instr.sureAddr,fieldPlace,G,F,vY]
    .rw[d]at h;exact h.elim
   .exact h.elim
  .exact h.elim
 .exact h.elim
def JX(l:uN e T)(d:ka n i a)(h:rd T i j k (.fieldAddr c x f)):pd e T i j a ⟨q,.fieldAddr c x f,v,u,p,r⟩ k:=by
 simp only[rd]at h;split at h
 .rename_i b o g;exact DM l d (λo=>rfl) (d.eq g rfl) h
 .rename_i m b o g;exact DM l d (λo=>rfl) (d.eq g rfl) h
 .exact h.elim
def P7(l:uN e T)(m:ka n i a)(h:rd T i j k (.field c x f)):pd e T i j a ⟨q,.field c x f,v,u,p,r⟩ k:=by
 simp only[rd]at h;split at h
 .rename_i g C;unfold OU at h;split at h
  .rename_i N O L K;split at h
   .rename_i M P A;split at h
    .rename_i E B;cases b:E.uU
     .rw[b]at h;obtain⟨⟨G,z,I⟩,_⟩:=np (l.yM K);rw[pU,<-I,cJ]at A;obtain⟨F,H,s⟩:=Option.map_eq_some_iff.1 A;simp only[Oy]at s;obtain⟨rfl,rfl⟩:=s;have J:=λw=>kE l B b w;have o:=λw=>Iy l B b w;have t:G[f]? =some F:=by simpa using H
      cases d:E.agg
      .simp only[d,mO]at h;split at h
       .rename_i y D;refine⟨_,_,h,nW _,λw _=>?_⟩;rw[pU]at D;simp[execOp,Instr.field,m.eq C rfl,SV.v,run_underlying z,t,asAgg,part,o,d,D]
       .exact h.elim
      .simp only[d,mO,jL]at h;refine⟨_,_,h,nW _,λw _=>?_⟩;simp[execOp,Instr.field,m.eq C rfl,SV.v,run_underlying z,t,asAgg,part,o,d,J,List.map_drop,Ox]
     .rw[b]at h;exact h.elim
    .exact h.elim
   .exact h.elim
  .exact h.elim
 .exact h.elim
def JY(l:uN e T)(g:ka n i a)(h:rd T i j k (.indexAddr c x y)):pd e T i j a ⟨q,.indexAddr c x y,v,u,p,r⟩ k:=by
 simp only[rd]at h;split at h
 .rename_i E J C D;unfold Xr at h;split at h
  .rename_i I L G A;split at h
   .rename_i F t;cases f:F.uU
    .rw[f]at h;obtain⟨m,d,s⟩:=h;have B:=(ku (l.yM A)).1;have z:=λw=>kE l t f w;cases E with
     |nil=>simp[O.len]at d;omega
     |Af _ _ _=>simp[O.len]at d;omega
     |mk b o K H=>
      refine⟨_,_,s,nW _,λw _=>?_⟩;simp only[O.len]at d;simp[execOp,Instr.indexAt,g.eq C rfl,g.eq D rfl,SV.v,Ce.v,O.v,asIntOf,run_underlying B,m,d,z,vY,O.D,O.off]
    .rw[f]at h;exact h.elim
   .exact h.elim
  .exact h.elim
 .exact h.elim
def Qc:∀(d:List Sh)(b o a:Nat)(k:List Ce->Prop),V9 j b o a d k->∃g,k g/\g.length=d.length/\∀i,i<d.length->af j b (o+a+i)=(g[i]?).map Ce.v
 |[],_,_,_,_,h=>⟨[],h,rfl,λi c=>by simp at c⟩
 |s::r,b,o,a,k,h=>by
  obtain⟨x,n,h⟩:=h;obtain⟨g,l,m,f⟩:=Qc r b o (a+1) _ h;refine⟨s.mk x::g,l,by simp[m],λi c=>?_⟩;cases i with
  |zero=>simpa using n
  |succ i=>
   have:=f i (by simpa using c);have e:o+(a+1)+i=o+a+(i+1):=V;rw[e]at this;simpa using this
def mZ(B:uN e T)(S:ka n i a)(I:a.eval x=.pointer (some ⟨b,o,none⟩)){f:TI}(H:fL T c=some f)(G:f.uU=false)
 (K:∀d,d<f.sh.length->(b,o+d)∈Tm T i (.load c x))(E:g.length=f.sh.length)(L:∀z,z<f.sh.length->af j b (o+z)=(g[z]?).map Ce.v)
 {s:SV}(U:s.jM=true)(O:(f.agg=true/\s.v=.agg (g.map Ce.v).toArray)\/(f.agg=false/\∃m,g=[m]/\s.v=m.v))(N:k s):
 pd e T i j a ⟨q,.load c x,v,u,p,r⟩ k:=by
 refine⟨s,s.v,N,nW _,λl R=>?_⟩
 have Q:=kE B H G l
 have C:=Iy B H G l
 have D:∀d,d<f.sh.length->af l.heap b (o+d)=(g[d]?).map Ce.v:=λd h=>by rw[R (b,o+d) (K d h),L d h]
 rcases O with⟨t,y⟩|⟨t,m,y,J⟩
 .have F:=run_loadCells_list (P:=e) (w:=l) ⟨b,o,none⟩ (g.map Ce.v) (λd V h=>by
   rw[vY,Ac];have M:d<f.sh.length:=by
    rcases aW d f.sh.length with A|A
    .exact A
    .rw[cN bF]at h;simp at h
   rw[D d M,<-cJ,h])
  simp only[dZ]at F
  simp only[execOp,Instr.loadAt,I,Instr.sureAddr,loadVar,Sem.run_bind,Sem.run_pure,C,t,Result.andThen_ok,Q,MO]
  simp[<-E,F,y]
 .subst y
  have A:=D 0 (by rw[<-E];simp)
  simp at A
  simp only[execOp,Instr.loadAt,I,Instr.sureAddr,loadVar,Sem.run_bind,Sem.run_pure,C,t,Result.andThen_ok]
  simp[Ac,A,J]
def JA(C:uN e T)(B:ka n i a)(D:a.eval x=.pointer (some ⟨b,o,none⟩))
 (A:∀d f,fL T c=some d->f<d.sh.length->(b,o+f)∈Tm T i (.load c x))(h:Qd T j c b o k):pd e T i j a ⟨q,.load c x,v,u,p,r⟩ k:=by
 unfold Qd at h
 split at h
 .rename_i H I F d
  obtain⟨g,w,G,E⟩:=Qc _ _ _ _ _ h
  exact mZ C B D d rfl (λf t=>A _ f d t) G (λz m=>by simpa using E z m) (s:=.agg g) rfl (Or.inl ⟨rfl,rfl⟩) w
 .rename_i G F d
  obtain⟨y,E,w⟩:=h
  exact mZ C B D d rfl (λf t=>A _ f d t) (g:=[G.mk y]) rfl (λz m=>by
   have:z=0:=by simpa using m
   subst this;exact E) (s:=.c (G.mk y)) rfl (Or.inr ⟨rfl,_,rfl,rfl⟩) w
 .rename_i G H F d
  obtain⟨y,E,w⟩:=h
  exact mZ C B D d rfl (λf t=>A _ f d t) (g:=[.s y]) rfl (λz m=>by
   have:z=0:=by simpa using m
   subst this;exact E) (s:=.c (.s y)) rfl (Or.inr ⟨rfl,_,rfl,rfl⟩) w
 .exact h.elim
def MD:∀{a:List Ce}{b o:Nat}{g:List Ce},HA a o b=some g->g.length=b/\∀i,i<b->a[o+i]? =g[i]?
 |a,0,o,g,h=>by simp[HA]at h;subst h;simp
 |a,b+1,o,g,h=>by
  simp only[HA]at h;split at h
  .rename_i j r c f;simp at h;subst h;obtain⟨d,e⟩:=MD f;refine⟨by simp[d],λi k=>?_⟩;cases i with
   |zero=>rw[pU]at c;simpa using c
   |succ i=>
    have:=e i V;rw[show o+(i+1)=o+1+i by omega];simpa using this
  .simp at h
def Jz(C:uN e T)(B:ka n i a){H:Nat}{G:List Ce}(E:a.eval x=.pointer (some ⟨b,o,none⟩))
 (A:∀d m,fL T c=some d->m<d.sh.length->(b,o+m)∈Tm T i (.load c x))(I:j[b]? =some (.cells (G.map Ce.v).toArray H))(h:NR T c G o k):
 pd e T i j a ⟨q,.load c x,v,u,p,r⟩ k:=by
 have D:∀f,af j b f=(G[f]?).map Ce.v:=λf=>by simp[af,I]
 unfold NR at h
 split at h
 .rename_i K L F d
  split at h
  .rename_i g J
   obtain⟨t,w⟩:=MD J
   exact mZ C B E d rfl (λm z=>A _ m d z) t (λf y=>by rw[D,w f y]) (s:=.agg g) rfl (Or.inl ⟨rfl,rfl⟩) h
  .exact h.elim
 .rename_i J F d
  split at h
  .rename_i t w
   rw[pU]at w
   exact mZ C B E d rfl (λm z=>A _ m d z) (g:=[t]) rfl (λf y=>by
    have:f=0:=by simpa using y
    subst this;rw[D];simp[w]) (s:=.c t) rfl (Or.inr ⟨rfl,_,rfl,rfl⟩) h
  .exact h.elim
 .rename_i H J F d
  split at h
  .rename_i t w
   rw[pU]at w
   exact mZ C B E d rfl (λm z=>A _ m d z) (g:=[t]) rfl (λf y=>by
    have:f=0:=by simpa using y
    subst this;rw[D];simp[w]) (s:=.c t) rfl (Or.inr ⟨rfl,_,rfl,rfl⟩) h
  .exact h.elim
 .rename_i L K J F d
  split at h
  .rename_i t w
   rw[pU]at w
   exact mZ C B E d rfl (λm z=>A _ m d z) (g:=[t]) rfl (λf y=>by
    have:f=0:=by simpa using y
    subst this;rw[D];simp[w]) (s:=.c t) rfl (Or.inr ⟨rfl,_,rfl,rfl⟩) h
  .exact h.elim
 .exact h.elim
def Rb(l:uN e T)(d:ka n i a)(B:Bx n i j)(h:rd T i j k (.load c x)):pd e T i j a ⟨q,.load c x,v,u,p,r⟩ k:=by
 simp only[rd]at h;split at h
 .rename_i b o f;exact JA l d (d.eq f rfl) (λm g A z=>by simp only[Tm,f,A];exact List.mem_map.2 ⟨g,List.mem_range.2 z,rfl⟩) h
 .rename_i C b o f;have w:∀m g,fL T c=some m->g<m.sh.length->(b,o+g)∈Tm T i (.load c x):=λm g A z=>by simp only[Tm,f,A];exact List.mem_map.2 ⟨g,List.mem_range.2 z,rfl⟩
  split at h
  .rename_i D t s y;obtain⟨rfl,h⟩:=h;exact Jz l d (d.eq f rfl) w (B.D C _ t s (Or.inl y)) h
  .rename_i D t s y;obtain⟨rfl,h⟩:=h;exact Jz l d (d.eq f rfl) w (B.D C _ t s (Or.inr y)) h
  .exact JA l d (d.eq f rfl) w h
 .exact h.elim
end
end Go.Vc
end
section
namespace Go.Vc
variable{x:Operand}{t:TypeId}
variable{P:Program}{T:TT}
section
variable{n:Nat}{b:Fr}{a:Act}{m:E}{k:SV->Prop}{d:Option Tmp}{g:TypeId}{f:String}{c:Array Edge}{e:Option (Nat×Bool)}
def MZ(l:ka n b a){j:Nat}(h:rd T b m k (.extract x j)):pd P T b m a ⟨d,.extract x j,g,f,c,e⟩ k:=by
 simp only[rd]at h;split at h
 .rename_i p o;split at h
  .rename_i y i;refine⟨_,_,h,nW _,λw _=>?_⟩;rw[pU]at i;rw[AV.aaf];have:a.eval x=.tuple (p.map AV.v).toArray:=l.eq o rfl;simp[execOp,Instr.extract,this,i]
  .exact h.elim
 .exact h.elim
def Oa(c:ka n b a){x:Option Operand}{d:Int}{k:Int->Prop}(h:Nh b x d k):
 (x=none/\k d)\/∃y i,x=some y/\a.eval y=.int .i64 i/\k i:=by
 unfold Nh at h
 split at h
 .exact Or.inl ⟨rfl,h⟩
 .rename_i y
  split at h
  .rename_i i e
   exact Or.inr ⟨y,i,rfl,c.eq e rfl,h⟩
  .exact h.elim
def pY(k:IntKind)(i:Int)(y:Nat)(c:BoundsCode)(a:0<=i)(b:i<=y)(w:World):(Instr.sliceBound (.int k i) y c).run P w=.ok i.toNat w:=by
 simp[Instr.sliceBound,asIntOf,a,b]
def Yq(b o l c a d e:Nat):(O.cut (.mk b o l c) a d e).v=.slice (if c=a then some ⟨b,o,none⟩else(some (⟨b,o,none⟩:Addr)).map (·.add (a*e))) (d -a) (c -a):=by
 show Value.slice _ _ _=_;simp only[vY,ov];split<;>rfl
def P8(J:uN P T)(r:ka n b a){A y:Option Operand}(i:rd T b m k (.slice t x A y none)):pd P T b m a ⟨d,.slice t x A y none,g,f,c,e⟩ k:=by
 simp only[rd]at i;split at i
 .rename_i s G;unfold Rv at i;split at i
  .rename_i v N M L;split at i
   .rename_i B K;cases D:B.uU
    .rw[D]at i;have F:=(ku (J.yM L)).1;have E:=λw=>kE J K D w;have z:∀(l h:Int),0<=l->l<=h->h<=(s.cap:Int)->
      (∀w:World,(Instr.sliceBounds true s.len s.cap (A.map a.eval) (y.map a.eval) none).run P w=.ok (l.toNat,h.toNat,s.cap) w)->
      ∀w:World,(execOp a.eval ⟨d,.slice t x A y none,g,f,c,e⟩).run P w=.ok (.value (Ce.s (s.cut l.toNat h.toNat B.sh.length)).v) w:=by
      intro l h o p j q w
      cases s with
      |nil=>
       simp only[O.cap,O.len]at q j
       have:h=0:=V
       have:l=0:=V
       subst this;subst h
       simp[execOp,Instr.sliceAt,r.eq G rfl,SV.v,Ce.v,O.v,run_underlying F,Instr.slice,q,E,O.cut]
      |Af u C H=>
       simp only[O.cap,O.len]at q j
       have:h=0:=V
       have:l=0:=V
       subst this;subst h
       simp[execOp,Instr.sliceAt,r.eq G rfl,SV.v,Ce.v,O.v,run_underlying F,Instr.slice,q,E,O.cut]
      |mk u I H C=>
       simp only[O.cap,O.len]at q
       have v:(Ce.s ((O.mk u I H C).cut l.toNat h.toNat B.sh.length)).v=_:=Yq u I H C l.toNat h.toNat B.sh.length
       rw[v]
       have:a.eval x=.slice (some ⟨u,I,none⟩) H C:=r.eq G rfl
       simp[execOp,Instr.sliceAt,this,run_underlying F,Instr.slice,q,E]
     simp only[mO]at i;rcases Oa r i with⟨rfl,C⟩|⟨Q,l,rfl,H,C⟩<;>rcases Oa r C with⟨rfl,o,p,j,u⟩|⟨R,h,rfl,I,o,p,j,u⟩
     .exact⟨_,_,u,nW _,λw _=>z _ _ o p j (λw=>by simp[Instr.sliceBounds]) w⟩
     .exact⟨_,_,u,nW _,λw _=>z _ _ o p j (λw=>by simp[Instr.sliceBounds,I,pY _ _ _ _ (by omega:0<=h) j]) w⟩
     .exact⟨_,_,u,nW _,λw _=>z _ _ o p j (λw=>by simp[Instr.sliceBounds,H,pY _ _ _ _ o p]) w⟩
     .exact⟨_,_,u,nW _,λw _=>z _ _ o p j (λw=>by
       have v:l<=(h.toNat:Int):=V;simp[Instr.sliceBounds,I,H,pY _ _ _ _ (by omega:0<=h) j,pY _ _ _ _ o v]) w⟩
    .rw[D]at i;exact i.elim
   .exact i.elim
  .exact i.elim
 .exact i.elim
def KZ(w:uN P T)(q:ka n b a)(p:List (Nat×Nat))(ji:Nat->Option (Nat×Nat))
 (r:∀i d t f,Io p i=some (d,t)->fL T t=some f->f.uU=false->ji i=some (d,f.sh.length)):
 ∀(s:List (Nat×Operand))(c:List Ce)(k:List Ce->Prop),FW T b p c s k->
  ∃l,k l/\Instr.fill ji (c.map Ce.v).toArray (s.map λe=>(e.1,a.eval e.2))=some (l.map Ce.v).toArray
 |[],c,k,h=>⟨c,h,rfl⟩
 |(i,x)::H,c,k,h=>by
  simp only[FW]at h;split at h
  .rename_i d t e E D;split at h
   .rename_i f F;cases g:(!f.uU&&Nat.beq e.length f.sh.length&&Nat.ble (d+e.length) c.length)
    .rw[g]at h;exact h.elim
    .rw[g]at h;simp only[bM,iR]at g;obtain⟨⟨y,m⟩,o⟩:=g;have m:=bq m;have o:=lM o;obtain⟨l,A,C⟩:=KZ w q p ji r H (mq c d e) k h;refine⟨l,A,?_⟩;obtain⟨B,z⟩:=pN D;have G:a.eval x=(ev b x).v:=q.eq rfl B;simp only[cK,Instr.fill,r i d t f E F y,G,z,Ec,dZ,m];rw[ae bF,<-C];congr 1;apply Cf;intro j;have u:=NW (e.map Ce.v) 0 d (c.map Ce.v).toArray j;rw[<-aah,ZH];have v:=Cr c d e j o;rw[show((List.map Ce.v (mq c d e)).toArray)[j]? =((mq c d e)[j]?).map Ce.v by simp,v];rw[u];simp;split<;>split<;>first|rfl|(exfalso;omega)|(congr 1;omega)
   .exact h.elim
  .exact h.elim
def YS(T:TT)(t:Nat):Nat:=match fL T t with|some a=>a.sh.length|none=>0
def JG(c:uN P T)(w:World):∀(a:List Field),(∀f∈a,∃b,fL T f.type=some b/\b.uU=false)->
 (a.mapM (λf=>do pure (f.offset,<-sizeOf f.type):Field->Sem (Nat×Nat))).run P w=.ok (a.map λf=>(f.offset,YS T f.type)) w
 |[],_=>aL
 |f::a,h=>by
  obtain⟨b,d,j⟩:=h f aL;have e:=JG c w a (λg i=>h g (by simp[i]));simp only[UJ,Sem.run_bind,kE c d j,Result.andThen_ok,Sem.run_pure]at e⊢;rw[e];simp[YS,d]
def JI:∀{d:List (Nat×Nat)},vC T d=true->∀p∈d,∃a,fL T p.2=some a/\a.uU=false
 |[],_,_,h=>by simp at h
 |(o,t)::r,h,p,c=>by
  simp only[vC,bM]at h;rcases List.mem_cons.1 c with rfl|c
  .have b:=h.1;split at b
   .rename_i a e;exact⟨a,e,by simpa using b⟩
   .simp at b
  .exact JI h.2 p c
def P6(l:uN P T)(z:ka n b a){o:Array (Nat×Operand)}(i:rd T b m k (.build t o)):pd P T b m a ⟨d,.build t o,g,f,c,e⟩ k:=by
 simp only[rd]at i;split at i
 .rename_i y K M v;cases q:vC T y
  .rw[q]at i;exact i.elim
  rw[q]at i;obtain⟨⟨j,D,s⟩,_⟩:=np (l.yM v);obtain⟨L,I,J,Q⟩:=wC l v rfl;have A:∀h∈j.toList,∃r,fL T h.type=some r/\r.uU=false:=λh B=>
   JI q (h.offset,h.type) (by rw[<-s];exact List.mem_map.2 ⟨h,B,rfl⟩)
  have G:∀w:World,(j.mapM (λh=>do pure (h.offset,<-sizeOf h.type):Field->Sem (Nat×Nat))).run P w=.ok (j.toList.map λh=>(h.offset,YS T h.type)).toArray w:=by
   intro w;rw[US,Sem.run_map,JG l w j.toList A];rfl
  obtain⟨R,E,F⟩:=KZ l z y (λx=>((j.toList.map λh=>(h.offset,YS T h.type)).toArray)[x]?) (λx S t r u H O=>by
   rw[pU,<-s,cJ]at u;obtain⟨N,C,p⟩:=Option.map_eq_some_iff.1 u;simp only[Oy]at p;obtain⟨rfl,rfl⟩:=p;simp only[lL,cJ,C,ov,YS,H]) _ _ _ i
  refine⟨_,_,E,nW _,λw _=>?_⟩;have u:L.cells=((K.map Sh.zero).map Ce.v).toArray:=by
   apply Array.toList_inj.1;simp[I]
  have C:(o.map λp=>(p.1,a.eval p.2)).toList=o.toList.map λp=>(p.1,a.eval p.2):=aL;simp only[execOp,Instr.build,Sem.run_bind,J,Result.andThen_ok,run_underlying D,G,u,C,F];simp[SV.v]
 .exact i.elim
def Cn(d:ka n b a):∀{c:List Operand},c.all (λx=>(ev b x).jM)=true->c.map a.eval=c.map λx=>(ev b x).v
 |[],_=>rfl
 |x::c,h=>by
  simp only[Ow,bM]at h;simp only[cK,d.eq rfl h.1,Cn d h.2]
def MX(v:uN P T)(l:ka n b a){s:Builtin}{i:Array Operand}{r:Array TypeId}(h:rd T b m k (.call ⟨.builtin s,i,r⟩)):
 pd P T b m a ⟨d,.call ⟨.builtin s,i,r⟩,g,f,c,e⟩ k:=by
 simp only[rd]at h
 unfold TN at h
 split at h
 .rename_i t x z p
  split at h
  .rename_i D E C q y o
   refine⟨_,_,h,nW _,λw _=>?_⟩
   have A:=(ku (v.yM y)).1
   have u:r=#[t]:=Array.toList_inj.1 (by simpa using z)
   have j:i=#[x]:=Array.toList_inj.1 (by simpa using p)
   subst u;subst j
   have B:a.eval x=q.v:=l.eq o rfl
   cases q<;>simp[execOp,resolve,invoke,builtin,Builtin.len_,run_underlying A,B,O.v,goInt,SV.v,Ce.v,O.len]
  .exact h.elim
 .rename_i x y p
  split at h
  .rename_i u z o q
   refine⟨_,_,h,nW _,λw _=>?_⟩
   have j:i=#[x,y]:=Array.toList_inj.1 (by simpa using p)
   subst j
   simp[execOp,resolve,invoke,builtin,Builtin.max_,Builtin.max2,l.eq o rfl,l.eq q rfl,SV.v,Ce.v]
  .exact h.elim
 .rename_i x y p
  split at h
  .rename_i u z o q
   refine⟨_,_,h,nW _,λw _=>?_⟩
   have j:i=#[x,y]:=Array.toList_inj.1 (by simpa using p)
   subst j
   simp[execOp,resolve,invoke,builtin,Builtin.min_,Builtin.min2,l.eq o rfl,l.eq q rfl,SV.v,Ce.v]
  .exact h.elim
 .exact h.elim
def LU(j:uN P T)(i:ka n b a)(s:Bx n b m)(o:Oper)(h:rd T b m k o.op):pd P T b m a o k:=by
 obtain⟨d,l,g,f,c,e⟩:=o;cases l with
 |move x=>exact Uf i h
 |assign x=>exact SS i h
 |pick p x y=>exact Rc i h
 |nilCheck x=>exact Lp i h
 |binOp l t x y q=>exact P5 j i h
 |unOp l t x=>exact Re i h
 |convert q t x=>exact MY j i h
 |fieldAddr t x q=>exact JX j i h
 |field t x q=>exact P7 j i h
 |indexAddr t x y=>exact JY j i h
 |load t x=>exact Rb j i s h
 |extract x r=>exact MZ i h
 |slice t x u r mx=>cases mx with
  |none=>exact P8 j i h
  |some y=>exact h.elim
 |build t r=>exact P6 j i h
 |call p=>
  obtain⟨r,u,w⟩:=p;cases r with
  |builtin v=>exact MX j i h
  |value q=>exact h.elim
  |invoke v q=>exact h.elim
 |_=>exact h.elim
end
end Go.Vc
end
section
namespace Go.Vc
variable{m m':E}{b o e n q:Nat}{l:List Ce}
def ah(m:E)(b o:Nat):List Ce->E
 |[]=>m
 |c::r=>ah (rI m b o c.v) b (o+1) r
def fN(m:E)(b o n:Nat):Prop:=∀j,j<n->(af m b (o+j)).isSome=true/\vZ m b (o+j)=false
def fS(m:E)(b o:Nat)(l:List Ce):Prop:=∀(i:Nat)(c:Ce),l[i]? =some c->af m b (o+i)=some c.v
def mN(a:List Ce)(n:Nat):List Ce:=(List.replicate n a).flatten
def bt(l:List Ce):Array Value:=(l.map Ce.v).toArray
def Rr(m:E)(b o:Nat)(v:Value):(rI m b o v).size=m.size:=by simp[rI]
def Mc(m:E)(b o:Nat)(v:Value){j:Nat}(h:j≠b):(rI m b o v)[j]? =m[j]? :=by
 simp only[rI,lK];rw[ae (λe=>h e.symm)]
def av:∀(l:List Ce)(m:E)(b o:Nat),(ah m b o l).size=m.size
 |[],_,_,_=>rfl
 |c::r,m,b,o=>by simp only[ah];rw[av r,Rr]
def bd:∀(l:List Ce)(m:E)(b o:Nat){j:Nat},j≠b->(ah m b o l)[j]? =m[j]?
 |[],_,_,_,_,_=>rfl
 |c::r,m,b,o,j,h=>by simp only[ah];rw[bd r _ _ _ h,Mc m b o _ h]
def lC{v:Value}(h:af m b o=some v):b<m.size:=by
 rcases aW b m.size with a|a
 .exact a
 .simp[af,Jr a]at h
def aE(h:m'[b]? =m[b]?)(o:Nat):af m' b o=af m b o:=by simp only[af,h]
def cz(m:E)(b:Nat)(e:Nat)(l:List Ce):Prop:=m[b]? =some (.cells (bt l) e)
def UB(l:List Ce)(i:Nat):(bt l)[i]? =(l[i]?).map Ce.v:=by simp[bt]
def cz.cg(h:cz m b e l)(o:Nat):af m b o=(l[o]?).map Ce.v:=by
 have a:m[b]? =some (.cells (bt l) e (0,0)):=h;simp only[af,a,UB]
def cz.iE(h:cz m b e l):fS m b 0 l:=λi c a=>by rw[h.cg,bT,a];rfl
def cz.lt(h:cz m b e l):b<m.size:=(Array.getElem?_eq_some_iff.1 h).1
def cz.vZ{m:E}{b e:Nat}{l:List Ce}(h:cz m b e l)(o:Nat):vZ m b o=false:=by
 have a:m[b]? =some (.cells (bt l) e (0,0)):=h;simp[Vc.vZ,a]
def cz.fN(h:cz m b e l)(c:o+n<=l.length):fN m b o n:=λj a=>by
 refine⟨?_,h.vZ _⟩;rw[h.cg];simp;omega
def cz.push(m:E)(l:List Ce)(e:Nat):cz (m.push (.cells (bt l) e)) m.size e l:=by simp[cz]
def cz.congr(a:cz m b e l)(h:m'[b]? =m[b]?):cz m' b e l:=by
 unfold cz at*;rw[h];exact a
def cz.rI{m:E}{b e:Nat}{l:List Ce}(h:cz m b e l)(o:Nat)(c:Ce):cz (rI m b o c.v) b e (l.set o c):=by
 have d:m[b]? =some (.cells (bt l) e (0,0)):=h;have f:=h.lt;simp only[cz,Vc.rI,lK,MO,d,ov];congr 2;apply Cf;intro i;simp only[bt,Array.getElem?_setIfInBounds,lL,cJ,jI,Ec,dZ];by_cases e:o=i
 .subst e;by_cases a:o<l.length
  .simp[a]
  .simp[a]
 .simp[e]
def jf(l:List Ce)(o:Nat):List Ce->List Ce
 |[]=>l
 |c::r=>jf (l.set o c) (o+1) r
def kV:∀(r l:List Ce)(o:Nat),(jf l o r).length=l.length
 |[],_,_=>rfl
 |c::r,l,o=>by simp only[jf];rw[kV r];simp
def wD:∀(r l:List Ce)(o i:Nat),(jf l o r)[i]? =if o<=i/\i<o+r.length/\i<l.length then r[i -o]? else l[i]?
 |[],l,o,i=>by simp[jf];intro h;omega
 |c::r,l,o,i=>by
  simp only[jf];rw[wD r,jI];simp only[eg,aZ];by_cases b:o=i
  .subst b;by_cases a:o<l.length
   .simp[a];try omega
   .simp[a];try omega
  .by_cases a:o<=i/\i<o+(r.length+1)/\i<l.length
   .rw[an a,an V,show i -o=(i -(o+1))+1 by omega,il]
   .rw[ae a,ae V];simp[b]
def cz.ah{m:E}{b e:Nat}:∀{r l:List Ce}{m:E}{o:Nat},cz m b e l->cz (ah m b o r) b e (jf l o r)
 |[],_,_,_,h=>h
 |c::r,l,m,o,h=>by
  simp only[Vc.ah,jf];exact cz.ah (m:=m) (h.rI o c)
def vA(t:Nat):List Nat->Bool
 |[]=>false
 |u::r=>Nat.beq u t||vA t r
def Ik{t:Nat}:∀{M:List Nat},vA t M=true->t∈M
 |[],h=>by simp[vA]at h
 |u::r,h=>by
  simp only[vA,bR]at h;rcases h with h|h
  .rw[bq h];exact bg
  .exact ai _ (Ik h)
def MN(n:Nat):Fr->List Nat->List Nat
 |[],_=>[]
 |(q,x)::r,a=>bif Nat.ble n q&&!vA q a then
  match x with
  | .box b _ _=>b::MN n r (q::a)
  | .zZ b _ _=>b::MN n r (q::a)
  |_=>MN n r (q::a)
  else MN n r a
def eG(l:List Nat)(m m':E):Prop:=∀b∈l,m'[b]? =m[b]?
def AH(l:List Nat)(m m':E)(k:Prop):Prop:=
 match l with
 |[]=>k
 |_=>eG l m m'/\k
def mH{l:List Nat}{k:Prop}(h:AH l m m' k):eG l m m'/\k:=by
 unfold AH at h;split at h
 .exact⟨(λb a=>by cases a),h⟩
 .exact h
def HD{n:Nat}{q b e:Nat}{l:List Ce}(c:n<=q):∀{j:Fr}{a:List Nat},q∉a->lP j q b e l->b∈MN n j a
 |[],a,_,h=>by rcases h with h|h<;>simp[iu]at h
 |(u,x)::r,a,g,h=>by
  simp only[MN];cases f:Nat.beq u q
  .have k:u≠q:=λe=>by subst e;simp at f
   have d:lP r q b e l:=by
    unfold lP at h⊢;simpa only[iu,f,mO]using h
   have i:q∉u::a:=by
    simp only[aV,vS];exact⟨λe=>k e.symm,g⟩
   cases(Nat.ble n u&&!vA u a)
   .exact HD c g d
   .simp only[jL];split
    .exact ai _ (HD c i d)
    .exact ai _ (HD c i d)
    .exact HD c i d
  .have:=bq f;subst this;have i:vA u a=false:=by
    cases k:vA u a
    .rfl
    .exact absurd (Ik k) g
   have d:Nat.ble n u=true:=Ya c;simp only[i,d,MJ,Bool.and_self,jL];unfold lP at h;simp only[iu,f,jL]at h;rcases h with h|h<;>rw[h]<;>exact bg
def Bx.fX{c:Fr}(h:Bx n c m){x:SV}(i:∀b e l,x≠.box b e l/\x≠.zZ b e l):Bx n ((q,x)::c) m:=by
 have d:∀{u b e l},lP ((q,x)::c) u b e l->lP c u b e l:=by
  intro u b e l a;unfold lP at a⊢;simp only[iu]at a;cases g:Nat.beq q u
  .rw[g]at a;exact a
  .rw[g]at a;rcases a with a|a
   .exact absurd a (i b e l).1
   .exact absurd a (i b e l).2
 exact⟨λq b e l f=>h.D q b e l (d f),λq t b e l j k s r o p=>h.OO q t b e l j k s r (d o) (d p),λq b e l f=>h.key q b e l (d f)⟩
def SV.YL(x:SV)(b e:Nat)(l:List Ce):x.nb≠.box b e l/\x.nb≠.zZ b e l:=by
 cases x<;>exact⟨by simp[SV.nb],by simp[SV.nb]⟩
def Bx.put{a:Fr}(h:Bx n a m)(d:Option Nat)(x:SV):Bx n (uw a d x) m:=by
 cases d with
 |none=>exact h
 |some d=>exact h.fX (SV.YL x)
def Bx.dp{a:Fr}(h:Bx n a m)(d:eG (MN n a []) m m'):Bx n a m':=
 ⟨λq b e l c=>by rw[d b (HD (h.key q b e l c) aL c)];exact h.D q b e l c,h.OO,h.key⟩
def Bx.push{a:Fr}(h:Bx n a m)(o:Obj):Bx n a (m.push o):=
 ⟨λq b e l d=>by
  have c:=h.D q b e l d;have f:=(Array.getElem?_eq_some_iff.1 c).1;rw[mS,ae V];exact c,h.OO,h.key⟩
def Bx.new{d:Fr}(h:Bx n d m)(x:n<=q)(t:Nat)(l:List Ce):Bx n ((q,.box m.size t l)::d) (m.push (.cells (bt l) t)):=by
 have w:=h.push (.cells (bt l) t);have p:∀{u b e l},lP d u b e l->b<m.size:=λa=>(Array.getElem?_eq_some_iff.1 (h.D _ _ _ _ a)).1;have g:∀{u b e c},lP ((q,.box m.size t l)::d) u b e c->(u=q/\b=m.size/\e=t/\c=l)\/(u≠q/\lP d u b e c):=by
  intro u b e c a;unfold lP at a⊢;simp only[iu]at a;cases f:Nat.beq q u
  .rw[f]at a;exact Or.inr ⟨λe=>by subst e;simp at f,a⟩
  .rw[f]at a;have:=bq f;subst this;rcases a with a|a
   .simp at a;exact Or.inl ⟨rfl,a.1.symm,a.2.1.symm,a.2.2.symm⟩
   .simp at a
 refine⟨λu b e c a=>?_,λu B b e z r s A o v k=>?_,λu b e c a=>?_⟩
 .rcases g a with⟨rfl,rfl,rfl,rfl⟩|⟨_,a⟩
  .simp[bt]
  .exact w.D u b e c a
 .rcases g v with⟨rfl,rfl,rfl,rfl⟩|⟨f,j⟩
  .rcases g k with⟨rfl,rfl,rfl,rfl⟩|⟨y,i⟩
   .exact absurd rfl o
   .have:=p i;omega
  .rcases g k with⟨rfl,rfl,rfl,rfl⟩|⟨y,i⟩
   .have:=p j;omega
   .exact h.OO u B b e z r s A o j i
 .rcases g a with⟨rfl,rfl,rfl,rfl⟩|⟨_,a⟩
  .exact x
  .exact h.key u b e c a
def Bx.nE{j:Fr}(h:Bx n j m){f:List Ce}(E:iu j q=.box b e f)(o:Nat)(l:List Ce):Bx n ((q,.box b e (jf f o l))::j) (ah m b o l):=by
 have k:lP j q b e f:=Or.inl E;have D:cz m b e f:=h.D q b e f k;have p:∀{u c d g},lP ((q,.box b e (jf f o l))::j) u c d g->(u=q/\c=b/\d=e/\g=jf f o l)\/(u≠q/\lP j u c d g):=by
  intro u c d g a;unfold lP at a⊢;simp only[iu]at a;cases i:Nat.beq q u
  .rw[i]at a;exact Or.inr ⟨λe=>by subst e;simp at i,a⟩
  .rw[i]at a;have:=bq i;subst this;rcases a with a|a
   .simp at a;exact Or.inl ⟨rfl,a.1.symm,a.2.1.symm,a.2.2.symm⟩
   .simp at a
 refine⟨λu c d g a=>?_,λu s b1 t A b2 v B y C x=>?_,λu c d g a=>?_⟩
 .rcases p a with⟨rfl,rfl,rfl,rfl⟩|⟨i,a⟩
  .exact cz.ah (m:=m) D
  .rw[bd l m b o (h.OO u q c d g b e f i a k)];exact h.D u c d g a
 .rcases p C with⟨rfl,rfl,rfl,rfl⟩|⟨i,w⟩
  .rcases p x with⟨rfl,rfl,rfl,rfl⟩|⟨z,r⟩
   .exact absurd rfl y
   .exactλe=>h.OO s u b2 v B _ _ _ z r k e.symm
  .rcases p x with⟨rfl,rfl,rfl,rfl⟩|⟨z,r⟩
   .exact h.OO u s b1 t A _ _ _ i w k
   .exact h.OO u s b1 t A b2 v B y w r
 .rcases p a with⟨rfl,rfl,rfl,rfl⟩|⟨_,a⟩
  .exact h.key u c d f k
  .exact h.key u c d g a
def Ga(a:Fr):List Ce->Option Fr
 |[]=>some a
 | .bp q _ _::r=>match iu a q with
  | .zZ _ _ _=>none
  |_=>Ga ((q,.fX)::a) r
 |_::r=>Ga a r
def AV.Vf:AV->List Ce
 | .c x=>[x]
 | .agg l=>l
def SV.Vf:SV->List Ce
 | .c x=>[x]
 | .agg l=>l
 | .XD l=>l.flatMap AV.Vf
 |_=>[]
def Ud(a:Fr)(l:List SV):Option Fr:=Ga a (l.flatMap SV.Vf)
def qH{n:Nat}{f:Act}{m:E}:∀{l:List Ce}{a c:Fr},Ga a l=some c->ka n a f->Bx n a m->ka n c f/\Bx n c m
 |[],a,c,h,e,d=>by simp[Ga]at h;subst h;exact⟨e,d⟩
 |g::r,a,c,h,e,d=>by
  cases g with
  |bp q b o=>
   simp only[Ga]at h;split at h
   .simp at h
   .exact qH h (e.fX q) (d.fX aL)
  |_=>exact qH (l:=r) (by simpa[Ga]using h) e d
end Go.Vc
end
section
namespace Go.Vc
variable{P:Program}{T:TT}
def O6(m:E)(k:E->Prop):Prop:=k m
def jP(m:E)(f:Nat)(b:List Ce)(e:Nat)(s x:O)(k:O->E->Prop):Prop:=
 ∃a:List Ce,a.length=x.len*b.length/\fS m x.D x.off a/\
  (s.len+x.len<=s.cap->fN m s.D (s.off+s.len*b.length) a.length/\
   k (match s with| .nil=>.nil| .mk d o l c=>.mk d o (l+x.len) c| .Af d o g=>.Af d o g) (ah m s.D (s.off+s.len*b.length) a))/\
  (s.cap<s.len+x.len->(s.len+x.len)*e<=140737488355328/\∃old:List Ce,old.length=s.len*b.length/\fS m s.D s.off old/\
   ∀c,s.len+x.len<=c->k (.mk m.size 0 (s.len+x.len) c) (m.push (.cells (bt (old++a++mN b (c -(s.len+x.len)))) f)))
def Xl(m:E)(c:Nat)(s x:O)(k:SV->E->Prop):Prop:=
 ∃a:List Ce,a.length=Nat.min x.len s.len*c/\fS m x.D x.off a/\fN m s.D s.off a.length/\
  O6 (ah m s.D s.off a) λb=>k (.c (.i (Nat.min x.len s.len:Nat))) b
def UR:List Sh->(List Ce->Prop)->Prop
 |[],k=>k []
 |s::r,k=>∃x:s.ty,UR r λl=>k (s.mk x::l)
def SL(T:TT):List Nat->(List AV->Prop)->Prop
 |[],k=>k []
 |t::r,k=>match fL T t with
  |some ⟨.struct _,b,_⟩=>UR b λl=>SL T r λa=>k (.agg l::a)
  |some ⟨.cell,[s],_⟩=>∃x:s.ty,SL T r λa=>k (.c (s.mk x)::a)
  |some ⟨.slice _,[_],_⟩=>∃x:O,SL T r λa=>k (.c (.s x)::a)
  |_=>False
def Ql(T:TT)(t:Nat)(v:Value)(k:SV->Prop):Prop:=
 match fL T t with
 |some ⟨.tuple [],_,_⟩=>k .fX
 |some ⟨.tuple a,_,_⟩=>SL T a λl=>v=.tuple (l.map AV.v).toArray/\k (.XD l)
 |some ⟨.struct _,a,_⟩=>UR a λl=>v=.agg (l.map Ce.v).toArray/\k (.agg l)
 |some ⟨.cell,[s],_⟩=>∃x:s.ty,v=(s.mk x).v/\k (.c (s.mk x))
 |some ⟨.slice _,[_],_⟩=>∃x:O,v=x.v/\k (.c (.s x))
 |_=>False
def TQ(P:Program)(T:TT)(G:List Nat)(n:Nat)(a:Fr)(m:E)(e:Nat)(h:Operand)(b:List Operand)(k:Fr->SV->E->Prop):Prop:=
 match Ud a (b.map (ev a))with
 |none=>False
 |some d=>match ev a h with
  | .c (.fn (.func g) first f)=>bif G.elem g&&b.all (λx=>(ev a x).jM)then
   aN P g (first.toList++(b.map λx=>(ev a x).v)++f.toList) m λv c=>AH (MN n d []) m c (Ql T e v λx=>k d x c)
   else False
  | .c (.fv q)=>bif b.all (λx=>(ev a x).jM)then
   ∃g,q.1=.func g/\G.elem g=true/\aN P g (q.2.1.toList++(b.map λx=>(ev a x).v)++q.2.2.toList) m λv c=>AH (MN n d []) m c (Ql T e v λx=>k d x c)
   else False
  |_=>False
def DR(m:E)(b:Nat)(l:List (Int×Int)):Prop:=
 ∃a c,m[b]? =some (.map a c)/\a.toList.map (λe=>(e.key,e.val))=l.map λp=>(Value.int .i64 p.1,Value.int .i64 p.2)
def vB(l:List (Int×Int))(k:Int):Int:=
 match l with
 |[]=>0
 |(j,v)::r=>if k=j then v else vB r k
def J2(l:List (Int×Int))(k v:Int):List (Int×Int):=
 match l with
 |[]=>[(k,v)]
 |(j,u)::r=>if k=j then(j,v)::r else(j,u)::J2 r k v
def xH(T:TT)(d:Fr)(b:Nat):List Ce->List (Nat×Operand)->(List Ce->Prop)->Prop
 |a,[],k=>k a
 |a,(i,x)::r,k=>
  match(ev d x).cells with
  |some c=>bif Nat.beq c.length b&&Nat.ble (i*b+c.length) a.length then xH T d b (mq a (i*b) c) r k else False
  |none=>False
def SY(n:Nat)(b:Fr)(d:Option Nat)(m:E)(t:Nat)(l:List Ce)(k:Fr->SV->E->Prop):Prop:=
 match d with
 |some a=>match iu b (n+a)with
  | .zZ _ _ _=>False
  |_=>O6 (m.push (.cells (bt l) t)) λc=>k ((n+a,.box m.size t l)::b) (.c (.bp (n+a) m.size 0)) c
 |none=>O6 (m.push (.cells (bt l) t)) λc=>k b (.c (.p m.size 0)) c
def Po(n:Nat)(c:Fr)(m:E)(x:SV)(l:List Ce)(k:Fr->SV->E->Prop):Prop:=
 match x with
 | .c (.p b o)=>fN m b o l.length/\O6 (ah m b o l) λa=>AH (MN n c []) m a (k c .un a)
 | .c (.bp q b o)=>match iu c q with
  | .box d f e=>bif Nat.ble (o+l.length) e.length then MU d b (O6 (ah m b o l) λa=>k ((q,.box d f (jf e o l))::c) .un a)else False
  | .zZ _ _ _=>False
  |_=>fN m b o l.length/\O6 (ah m b o l) λa=>AH (MN n c []) m a (k c .un a)
 |_=>False
def wr(P:Program)(T:TT)(G:List Nat)(n:Nat)(a:Fr)(m:E)(h:Option Nat)(o:Nat)(k:Fr->SV->E->Prop):Op->Prop
 | .alloc t=>match fL T t with
  |some f=>bif f.uU then False else SY n a h m t (f.sh.map Sh.zero) k
  |none=>False
 | .box t x=>match(ev a x).cells with
  |some l=>match Ga a l with
   |some d=>SY n d h m t l k
   |none=>False
  |none=>False
 | .buildSlice t g i=>match fL T t with
  |some ⟨.slice e,_,_⟩=>match fL T e with
   |some c=>bif c.uU||!(Nat.ble (g*c.sh.length) 16777216)then False else
    xH T a c.sh.length (mN (c.sh.map Sh.zero) g) i.toList λl=>match Ga a l with
     |some d=>O6 (m.push (.cells (bt l) e)) λb=>k d (.c (.s (.mk m.size 0 g g))) b
     |none=>False
   |none=>False
  |_=>False
 | .store t x y=>match(ev a y).cells,fL T t with
  |some l,some f=>bif f.uU||!(Nat.beq l.length f.sh.length)then False else match Ga a l with
   |some d=>Po n d m (ev a x) l k
   |none=>False
  |_,_=>False
 | .makeSlice t x y=>match fL T t,ev a x,ev a y with
  |some ⟨.slice e,_,_⟩,.c (.i l),.c (.i f)=>match fL T e with
   |some c=>bif c.uU then False else 0<=l/\l<=f/\(c.bytes:Int)*f<=281474976710656/\f<=9223372036854775807/\
    O6 (m.push (.cells (bt (mN (c.sh.map Sh.zero) f.toNat)) e)) λb=>k a (.c (.s (.mk m.size 0 l.toNat f.toNat))) b
   |none=>False
  |_,_,_=>False
 | .makeFunc g first f=>bif first.toList.all (λx=>(ev a x).jM)&&f.toList.all (λx=>(ev a x).jM)then
  match Ud a (first.toList.map (ev a)++f.toList.map (ev a))with
  |some d=>k d (.c (.fn g (first.toList.map λx=>(ev a x).v).toArray (f.toList.map λx=>(ev a x).v).toArray)) m
  |none=>False
  else False
 | .makeMap _ none=>O6 (m.push (.map #[] 0)) λb=>k a (.c (.mp m.size)) b
 | .lookup t x y false=>match fL T t,ev a x,ev a y with
  |some ⟨.map f g,_,_⟩,.c (.mp d),.c (.i n)=>match fL T f,fL T g with
   |some ⟨.cell,[.I],_⟩,some ⟨.cell,[.I],_⟩=>∃l,DR m d l/\k a (.c (.i (vB l n))) m
   |_,_=>False
  |_,_,_=>False
 | .mapUpdate t x y z=>match fL T t,ev a x,ev a y,ev a z with
  |some ⟨.map f _,_,_⟩,.c (.mp d),.c (.i g),.c (.i v)=>match fL T f with
   |some ⟨.cell,[.I],_⟩=>∃l,DR m d l/\∀b,DR b d (J2 l g v)->b.size=m.size->(∀j,j≠d->b[j]? =m[j]?)->AH (MN n a []) m b (k a .un b)
   |_=>False
  |_,_,_,_=>False
 | .call ⟨.value f,d,_⟩=>TQ P T G n a m o f d.toList k
 | .call ⟨.builtin .append,d,f⟩=>match d.toList,f.toList with
  |[x,y],[t,u]=>match fL T t,fL T u,ev a x,ev a y with
   |some ⟨.slice e,_,_⟩,some ⟨.slice _,_,_⟩,.c (.s s),.c (.s z)=>match fL T e with
    |some c=>bif c.uU||Nat.beq c.bytes 0 then False else jP m e (c.sh.map Sh.zero) c.bytes s z λr b=>AH (MN n a []) m b (k a (.c (.s r)) b)
    |none=>False
   |_,_,_,_=>False
  |_,_=>False
 | .call ⟨.builtin .copy,d,f⟩=>match d.toList,f.toList with
  |[x,y],t::_=>match fL T t,ev a x,ev a y with
   |some ⟨.slice e,_,_⟩,.c (.s s),.c (.s z)=>match fL T e with
    |some c=>bif c.uU then False else Xl m c.sh.length s z λx b=>AH (MN n a []) m b (k a x b)
    |none=>False
   |_,_,_=>False
  |_,_=>False
 |_=>False
def HY(P:Program)(g:Nat):Bool:=
 match P.funcs[g]? with
 |some a=>!(a.name== "runtime.NumGoroutine")&&a.body.isSome
 |none=>false
def UY(P:Program)(G:List Nat):Prop:=G.all (HY P)=true
def QH(a:List Ce):∀(n i:Nat),i<n*a.length->(mN a n)[i]? =a[i%a.length]?
 |0,i,h=>by simp at h
 |n+1,i,h=>by
  have c:0<a.length:=by
   rcases j9 a.length with e|e
   .rw[e]at h;simp at h
   .exact e
  have e:mN a (n+1)=a++mN a n:=by simp[mN,qW]
  rw[e,List.getElem?_append];split
  .rename_i b;rw[Nat.mod_eq_of_lt b]
  .rename_i b;rw[QH a n (i -a.length) (by rw[gS,Nat.one_mul]at h;omega)];congr 1;rw[Nat.mod_eq_sub_mod (by omega:i>=a.length)]
def rT(a:List Ce)(n:Nat):(mN a n).length=n*a.length:=by
 simp[mN]
def Jq(a:List Ce)(z:Array Value)(d:z.toList=a.map Ce.v)(n:Nat):
 (Array.range (n*a.length)).map (λi=>z[i%z.size]!)=bt (mN a n):=by
 apply Cf
 intro i
 have j:z.size=a.length:=by rw[<-ZG,d];simp
 by_cases b:i<n*a.length
 .have f:=QH a n i b
  have h:0<a.length:=by
   rcases j9 a.length with e|e
   .rw[e]at b;simp at b
   .exact e
  have g:i%a.length<a.length:=Nat.mod_lt _ h
  have c:(bt (mN a n))[i]? =((mN a n)[i]?).map Ce.v:=by simp[bt]
  rw[c,f,<-cJ,<-d]
  simp[b,j,g]
 .have c:(bt (mN a n))[i]? =none:=by simp[bt,rT];omega
  rw[c]
  simp[b]
end Go.Vc
end
section
namespace Go.Vc
variable{c:SV}{l:List Ce}{t:TypeId}
variable{d:Program}{T:TT}{G:List Nat}
def Ce.Vr(c:Ce):c.v.oneCell'=true:=by
 cases c with
 |s y=>cases y<;>rfl
 |_=>rfl
def kY:∀(l:List Ce)(w:World)(b o:Nat),(w.setCells b o (l.map Ce.v)).heap=ah w.heap b o l
 |[],_,_,_=>rfl
 |c::r,w,b,o=>by
  simp only[cK,World.setCells,ah];rw[kY r,Pc]
def rp:∀(l:List Value)(w:World)(a o:Nat),pI w (w.setCells a o l)
 |[],w,_,_=>pI.az w
 |c::r,w,a,o=>by
  simp only[World.setCells];exact pI.trans (b:=w.setCell ⟨a,o,none⟩ c) ⟨rfl,rfl,rfl⟩ (rp r _ a (o+1))
def EC(l:List Ce)(b o:Nat)(w:World)(h:fN w.heap b o l.length):
 (storeCells ⟨b,o,none⟩ (l.map Ce.v)).run d w=.ok () (w.setCells b o (l.map Ce.v)):=by
 have:=run_storeCells_cells (P:=d) b o (l.map Ce.v) 0 w
  (λj a=>by have:=(h j (by simpa using a)).1;rw[Ac];simpa using this)
  (λj a=>by have:=(h j (by simpa using a)).2;rw[Q8];simpa using this)
  (λv a=>by obtain⟨c,_,rfl⟩:=List.mem_map.1 a;exact c.Vr)
 simpa using this
def Qo(l:List Ce)(b o:Nat)(a:World)(h:fS a.heap b o l):(loadCells ⟨b,o,none⟩ l.length).run d a=.ok (bt l) a:=by
 have:=run_loadCells_list (P:=d) (w:=a) ⟨b,o,none⟩ (l.map Ce.v) (λj v c=>by
  rw[vY,Ac];rw[cJ]at c;obtain⟨e,f,rfl⟩:=Option.map_eq_some_iff.1 c;exact h j e f)
 simpa[bt]using this
section
variable{n:Nat}{b:Fr}{a:Act}{m:E}{k:Fr->SV->E->Prop}{e:Option Tmp}{f:TypeId}{i:String}{g:Array Edge}{h:Option (Nat×Bool)}
def FH(d:Program)(n:Nat)(a:Act)(m:E)(o:Oper)(k:Fr->SV->E->Prop):Prop:=
 ∀(w:World),w.heap=m->∀(f:Act->World->Prop)(Q:Exit->Act->World->Prop),
  (∀e c v b,k e c b.heap->ka n e a->Bx n e b.heap->c.Is v->pI w b->f (a.put o.dst v) b)->o.wp d a w f Q
def jQ{o:Oper}{e:Fr}{v:Value}{w b:World}(h:ka n e a)(g:Bx n e b.heap)(p:c.Is v)(m:pI w b)(i:k e c b.heap)(l:(execOp a.eval o).run d w=.ok (.value v) b)
 {f:Act->World->Prop}{Q:Exit->Act->World->Prop}(j:∀e c v b,k e c b.heap->ka n e a->Bx n e b.heap->c.Is v->pI w b->f (a.put o.dst v) b):o.wp d a w f Q:=by
 unfold Oper.wp
 rw[l]
 exact j e c v b i h g p m
def NZ{i:Option Nat}{t:Nat}(g:ka n b a)(f:Bx n b m)(h:SY n b i m t l k):
 ∃d c,ka n d a/\Bx n d (m.push (.cells (bt l) t))/\c.Is (.pointer (some ⟨m.size,0,none⟩))/\k d c (m.push (.cells (bt l) t)):=by
 unfold SY at h
 split at h
 .split at h
  .exact h.elim
  .rename_i e _ j
   exact⟨(n+e,.box m.size t l)::b,.c (.bp (n+e) m.size 0),g.cons _ (λ_=>trivial),f.new (Nat.le_add_right _ _) t l,rfl,h⟩
 .exact⟨b,.c (.p m.size 0),g,f.push _,rfl,h⟩
def Qx(s:ka n b a)(g:Bx n b m)(h:Po n b m c l k):
 ∃p d o,ka n p a/\Bx n p (ah m d o l)/\(∀v,c.Is v->v=.pointer (some ⟨d,o,none⟩))/\fN m d o l.length/\k p .un (ah m d o l):=by
 unfold Po at h
 split at h
 .obtain⟨q,r⟩:=mH h.2
  exact⟨_,_,_,s,g.dp q,λv e=>e,h.1,r⟩
 .split at h
  .rename_i w d o _ i j f u
   cases t:Nat.ble (o+l.length) f.length
   .rw[t]at h;exact h.elim
   .rw[t]at h
    obtain⟨rfl,h⟩:=h
    have x:cz m i j f:=g.D w i j f (Or.inl u)
    exact⟨(w,.box i j (jf f o l))::b,_,_,s.cons _ (λ_=>trivial),g.nE u o l,λv e=>e,x.fN (lM t),h⟩
  .exact h.elim
  .obtain⟨q,r⟩:=mH h.2
   exact⟨_,_,_,s,g.dp q,λv e=>e,h.1,r⟩
 .exact h.elim
def QY(y:uN d T)(s:ka n b a)(q:Bx n b m)(j:wr d T G n b m e f k (.alloc t)):FH d n a m ⟨e,.alloc t,f,i,g,h⟩ k:=by
 intro l D L Q B
 subst D;simp only[wr]at j;split at j
 .rename_i p C;cases o:p.uU
  .rw[o]at j;obtain⟨I,F,H,K⟩:=wC y C o;have z:I.cells=bt (p.sh.map Sh.zero):=by apply Array.toList_inj.1;simp[F,bt]
   obtain⟨J,c,u,r,E,A⟩:=NZ s q j;refine jQ (w:=l) (c:=c) (v:=.pointer (some ⟨l.heap.size,0,none⟩)) (b:={l with heap:=l.heap.push (.cells (bt (p.sh.map Sh.zero)) t)}) u r E ⟨rfl,rfl,rfl⟩ A ?_ B;simp[execOp,Instr.alloc,H,newVar,newRow,z]
  .rw[o]at j;exact j.elim
 .exact j.elim
def TV(p:ka n b a)(q:Bx n b m){c:Operand}(j:wr d T G n b m e f k (.box t c)):FH d n a m ⟨e,.box t c,f,i,g,h⟩ k:=by
 intro o F L Q E
 subst F;simp only[wr]at j;split at j
 .rename_i l D;split at j
  .rename_i K A;obtain⟨y,s⟩:=qH A p q;obtain⟨B,z⟩:=pN D;obtain⟨J,I,u,r,H,C⟩:=NZ y s j;refine jQ (w:=o) (c:=I) (v:=.pointer (some ⟨o.heap.size,0,none⟩)) (b:={o with heap:=o.heap.push (.cells (bt l) t)}) u r H ⟨rfl,rfl,rfl⟩ C ?_ E;simp[execOp,Instr.box,newVar,newRow,p.eq rfl B,z,bt]
  .exact j.elim
 .exact j.elim
def MR(q:ka n b a)(y:Bx n b m){o:Fn}{first l:Array Operand}(j:wr d T G n b m e f k (.makeFunc o first l)):FH d n a m ⟨e,.makeFunc o first l,f,i,g,h⟩ k:=by
 intro r D F Q C
 subst D;simp only[wr]at j;cases p:(first.toList.all (λc=>(ev b c).jM)&&l.toList.all (λc=>(ev b c).jM))
 .rw[p]at j;exact j.elim
 .rw[p]at j;simp only[bM]at p;obtain⟨u,x⟩:=p;have s:(first.toList.map λc=>(ev b c).v).toArray=first.map a.eval:=by
   apply Array.toList_inj.1;simp[Cn q u]
  have t:(l.toList.map λc=>(ev b c).v).toArray=l.map a.eval:=by
   apply Array.toList_inj.1;simp[Cn q x]
  simp only[jL]at j;split at j
  .rename_i E B;obtain⟨A,z⟩:=qH B q y;refine jQ (w:=r) (b:=r) A z (v:=.func o (first.map a.eval) (l.map a.eval)) ?_ (pI.az r) j ?_ C
   .show Value.func o (first.map a.eval) (l.map a.eval)=Value.func o _ _;rw[s,t]
   .simp[execOp,Instr.makeFunc]
  .exact j.elim
def JN(p:ka n b a)(e:Nat):
 ∀(q:List (Nat×Operand))(d:List Ce)(k:List Ce->Prop),xH T b e d q k->
  ∃l,k l/\Instr.fill (λi=>some (i*e,e)) (d.map Ce.v).toArray (q.map λf=>(f.1,a.eval f.2))=some (l.map Ce.v).toArray
 |[],d,k,h=>⟨d,h,rfl⟩
 |(i,c)::z,d,k,h=>by
  simp only[xH]at h;split at h
  .rename_i f x;cases g:(Nat.beq f.length e&&Nat.ble (i*e+f.length) d.length)
   .rw[g]at h;exact h.elim
   .rw[g]at h;simp only[bM]at g;obtain⟨m,o⟩:=g;have m:=bq m;have o:=lM o;obtain⟨l,u,w⟩:=JN p e z (mq d (i*e) f) k h;refine⟨l,u,?_⟩;obtain⟨v,t⟩:=pN x;have y:a.eval c=(ev b c).v:=p.eq rfl v;simp only[cK,Instr.fill,y,t,Ec,dZ,m];rw[ae bF,<-w];congr 1;apply Cf;intro j;have r:=NW (f.map Ce.v) 0 (i*e) (d.map Ce.v).toArray j;rw[<-aah,ZH];have s:=Cr d (i*e) f j o;rw[show((List.map Ce.v (mq d (i*e) f)).toArray)[j]? =((mq d (i*e) f)[j]?).map Ce.v by simp,s];rw[r];simp;split<;>split<;>first|rfl|(exfalso;omega)|(congr 1;omega)
  .exact h.elim
def JV(B:uN d T)(D:ka n b a)(N:Bx n b m){j:Nat}{z:Array (Nat×Operand)}(o:wr d T G n b m e f k (.buildSlice t j z)):FH d n a m ⟨e,.buildSlice t j z,f,i,g,h⟩ k:=by
 intro q U ad Z Q
 subst U;simp only[wr]at o;split at o
 .rename_i L sh aa S;split at o
  .rename_i p H;cases r:(p.uU||!(Nat.ble (j*p.sh.length) 16777216))
   .rw[r]at o;simp only[br,aai]at r;have ab:=lM r.2;have I:=(ku (B.yM S)).1;obtain⟨K,W,X,ac⟩:=wC B H r.1;have F:=λq=>kE B H r.1 q;obtain⟨l,y,s⟩:=JN D _ _ _ _ o;cases C:Ga b l with
    |none=>rw[C]at y;exact y.elim
    |some u=>
    rw[C]at y;obtain⟨P,O⟩:=qH C D N;refine jQ (w:=q) (c:=.c (.s (.mk q.heap.size 0 j j))) (v:=.slice (some ⟨q.heap.size,0,none⟩) j j) (b:={q with heap:=q.heap.push (.cells (bt l) L)}) P (O.push _) rfl ⟨rfl,rfl,rfl⟩ y ?_ Q;have E:(z.map λu=>(u.1,a.eval u.2)).toList=z.toList.map λu=>(u.1,a.eval u.2):=aL;have Y:K.cells.toList=(p.sh.map Sh.zero).map Ce.v:=by simp[W]
    have J:(p.sh.map Sh.zero).length=p.sh.length:=aL;have jx:=Jq (p.sh.map Sh.zero) K.cells Y j;rw[J]at jx;by_cases A:j*p.sh.length=0
    .have R:mN (p.sh.map Sh.zero) j=[]:=by
      apply List.length_eq_zero_iff.1;rw[rT,J,A]
     rw[R]at s;simp only[execOp,Instr.buildSlice,Sem.run_bind,run_underlying I,Result.andThen_ok,F,A];simp only[E];have M:(Array.map (λc=>(default:Value)) (Array.range 0))=#[]:=aL;simp at s⊢;rw[M,s];simp[newRow,bt]
    .simp only[execOp,Instr.buildSlice,Sem.run_bind,run_underlying I,Result.andThen_ok,F,A,rV];have:¬(j*p.sh.length>2^24):=V;simp only[this,rV,X,Sem.run_bind,Sem.run_pure,Result.andThen_ok,E];rw[jx];simp only[bt]at s⊢;simp[s,newRow]
   .rw[r]at o;exact o.elim
  .exact o.elim
 .exact o.elim
def QZ(C:uN d T)(q:ka n b a)(v:Bx n b m){c y:Operand}(j:wr d T G n b m e f k (.store t c y)):FH d n a m ⟨e,.store t c y,f,i,g,h⟩ k:=by
 intro w R Y W K
 subst R;simp only[wr]at j;split at j
 .rename_i l s I Q;cases o:(s.uU||!(Nat.beq l.length s.sh.length))
  .rw[o]at j;simp only[mO]at j;simp only[br,aai]at o;split at j
   .rename_i X E;obtain⟨B,z⟩:=qH E q v;obtain⟨u,p,r,A,x,S,L,F⟩:=Qx B z j;have J:=bq o.2;obtain⟨H,D⟩:=pN I;have O:=λw=>kE C Q o.1 w;unfold Oper.wp;have M:(execOp a.eval ⟨e,.store t c y,f,i,g,h⟩).run d w=.ok .skip (w.setCells p r (l.map Ce.v)):=by
     have N:=EC (d:=d) l p r w L;have U:a.eval c=.pointer (some ⟨p,r,none⟩):=S _ (q.ev c);have V:(a.eval y).cells=(l.map Ce.v).toArray:=by rw[q.eq rfl H,D]
     simp only[execOp,Instr.storeAt,U,Instr.sureAddr,storeVar,Sem.run_bind,Sem.run_pure,Result.andThen_ok,O,V,Ec,dZ,J];simp[N]
    rw[M];exact K u .un undef _ (by rw[kY];exact F) A (by rw[kY];exact x) rfl (rp _ _ _ _)
   .exact j.elim
  .rw[o]at j;exact j.elim
 .exact j.elim
end
end Go.Vc
end
section
namespace Go.Vc
variable{b y f:Operand}{t:TypeId}{e:Array TypeId}
variable{c:Program}{T:TT}{G:List Nat}
section
variable{n:Nat}{g:Fr}{a:Act}{m:E}{k:Fr->SV->E->Prop}{i:Option Tmp}{h:TypeId}{o:String}{j:Array Edge}{l:Option (Nat×Bool)}
def Pv{b:Int}(e: -9223372036854775808<=b)(f:b<=9223372036854775807):IntKind.i64.wrap b=b:=by
 have a:((2:Int)^IntKind.i64.bits)=18446744073709551616:=bh;have c:((2:Int)^(IntKind.i64.bits -1))=9223372036854775808:=bh;have d:IntKind.i64.signed=true:=rfl;simp only[IntKind.wrap,a,c,d,Ov,ar];split<;>omega
def aQ{b:Int}(a: -9223372036854775808<=b)(c:b<=9223372036854775807):cQ b=b:=Pv a c
def Lg(s:uN c T)(u:ka n g a)(F:Bx n g m)(e:wr c T G n g m i h k (.makeSlice t b y)):FH c n a m ⟨i,.makeSlice t b y,h,o,j,l⟩ k:=by
 intro q U ah ad J
 subst U;simp only[wr]at e;split at e
 .rename_i D sh ae p d Q Y hy;split at e
  .rename_i f z;cases r:f.uU
   .rw[r]at e;obtain⟨h0,h1,h2,h3,I⟩:=e;have S:=(ku (s.yM Q)).1;obtain⟨C,hz,ab,ag⟩:=wC s z r;obtain⟨ti,H,af,R,_⟩:=GK s z r;have P:=λq=>kE s z r q;refine jQ (w:=q) (c:=.c (.s (.mk q.heap.size 0 p.toNat d.toNat))) (v:=.slice (some ⟨q.heap.size,0,none⟩) p.toNat d.toNat) (b:={q with heap:=q.heap.push (.cells (bt (mN (f.sh.map Sh.zero) d.toNat)) D)}) u (F.push _) rfl ⟨rfl,rfl,rfl⟩ I ?_ J;have ac:C.cells.toList=(f.sh.map Sh.zero).map Ce.v:=by simp[hz]
    have B:(f.sh.map Sh.zero).length=f.sh.length:=aL;have jx:=Jq (f.sh.map Sh.zero) C.cells ac d.toNat;rw[B]at jx;have Z:a.eval b=.int .i64 p:=u.eq Y rfl;have aa:a.eval y=.int .i64 d:=u.eq hy rfl;have X:IntKind.i64.wrap p=p:=Pv V V;have W:IntKind.i64.wrap d=d:=Pv V V;have K:¬d<0:=V;have L:¬((f.bytes:Int)*d>2^48):=by
     have:(2:Int)^48=281474976710656:=bh;omega
    have M:¬p<0:=V;have N:¬p>d:=V;simp only[execOp,Instr.makeSlice,Sem.run_bind,run_underlying S,Result.andThen_ok,asInt,asIntOf,Z,aa,Sem.run_pure,R,X,W,H];simp only[K,L,M,N,decide_false,VH,jt,rV];simp only[Sem.run_bind,Sem.run_pure,Result.andThen_ok,run_askRoom,P];by_cases A:d.toNat*f.sh.length=0
    .have O:mN (f.sh.map Sh.zero) d.toNat=[]:=by
      apply List.length_eq_zero_iff.1;rw[rT,B,A]
     rw[O];have E:(Array.map (λb=>(default:Value)) (Array.range 0))=#[]:=aL;simp[A,newRow,bt];rw[E]
    .simp only[A,rV,Sem.run_bind,ab,Result.andThen_ok,Sem.run_pure];rw[jx];simp[newRow]
   .rw[r]at e;exact e.elim
  .exact e.elim
 .exact e.elim
def Lj:∀{c:List Sh}{k:List Ce->Prop},UR c k->∃l,k l
 |[],_,h=>⟨_,h⟩
 |_::_,_,⟨b,h⟩=>let⟨_,a⟩:=Lj h;⟨_,a⟩
def Gb:∀{e:List Nat}{k:List AV->Prop},SL T e k->∃l,k l
 |[],_,h=>⟨_,h⟩
 |t::e,k,h=>by
  simp only[SL]at h;split at h
  .obtain⟨l,c⟩:=Lj h;obtain⟨d,a⟩:=Gb c;exact⟨_,a⟩
  .obtain⟨b,c⟩:=h;obtain⟨d,a⟩:=Gb c;exact⟨_,a⟩
  .obtain⟨b,c⟩:=h;obtain⟨d,a⟩:=Gb c;exact⟨_,a⟩
  .exact h.elim
def Tb{t:Nat}{v:Value}{k:SV->Prop}(h:Ql T t v k):∃b:SV,b.Is v/\k b:=by
 unfold Ql at h;split at h
 .exact⟨.fX,trivial,h⟩
 .obtain⟨l,c,a⟩:=Gb h;exact⟨.XD l,c,a⟩
 .obtain⟨l,c,a⟩:=Lj h;exact⟨.agg l,c,a⟩
 .rename_i s _ _;obtain⟨b,c,a⟩:=h;exact⟨.c (s.mk b),c,a⟩
 .obtain⟨b,c,a⟩:=h;exact⟨.c (.s b),c,a⟩
 .exact h.elim
def Lf(z:UY c G)(A:ka n g a){q:Fr}(B:ka n q a)(y:Bx n q m){d:Array Operand}{p:Nat}{first s:Array Value}(E:a.eval f=.func (.func p) first s)
 (H:G.elem p=true)(J:d.toList.all (λb=>(ev g b).jM)=true)
 (x:aN c p (first.toList++(d.toList.map λb=>(ev g b).v)++s.toList) m λv r=>AH (MN n q []) m r (Ql T h v λb=>k q b r)):
 FH c n a m ⟨i,.call ⟨.value f,d,e⟩,h,o,j,l⟩ k:=by
 intro w O V R K
 subst O
 have r:HY c p=true:=List.all_eq_true.1 z p (by simpa using H)
 have C:d.map a.eval=(d.toList.map λb=>(ev g b).v).toArray:=by
  apply Array.toList_inj.1;simp[<-Cn A J]
 unfold HY at r
 split at r
 .rename_i u F
  simp only[bM,iR]at r
  have D:u.body.isNone=false:=by cases U:u.body<;>simp_all
  have L:(execOp a.eval ⟨i,.call ⟨.value f,d,e⟩,h,o,j,l⟩).run c w=
   .ok (.enter p (first.toList++(d.toList.map λb=>(ev g b).v)++s.toList).toArray) w:=by
   simp only[execOp,resolve,E,C,Deferred.ofValue,Sem.run_bind,Sem.run_pure,Result.andThen_ok,invoke,callFunc,run_program,F,r.1,D,jt,rV]
   simp
  unfold Oper.wp
  rw[L]
  show Calls c p _ w _
  refine(x w rfl).mono ?_
  rintro S Q ⟨v,rfl,M,t⟩
  obtain⟨N,t⟩:=mH t
  obtain⟨b,P,I⟩:=Tb t
  exact K q b v Q I B (y.dp N) P M
 .simp at r
def SJ(v:UY c G)(q:ka n g a)(y:Bx n g m){r:Array Operand}(d:wr c T G n g m i h k (.call ⟨.value f,r,e⟩)):FH c n a m ⟨i,.call ⟨.value f,r,e⟩,h,o,j,l⟩ k:=by
 simp only[wr,TQ]at d;split at d
 .exact d.elim
 rename_i D z;obtain⟨w,u⟩:=qH z q y;split at d
 .rename_i s first x t
  cases p:(G.elem s&&r.toList.all (λb=>(ev g b).jM))
  .rw[p]at d;exact d.elim
  .rw[p]at d;simp only[bM]at p;exact Lf v q w u (q.eq t rfl) p.1 p.2 d
 .rename_i x t;cases p:(r.toList.all (λb=>(ev g b).jM))
  .rw[p]at d;exact d.elim
  .rw[p]at d;obtain⟨s,A,B,d⟩:=d;have C:a.eval f=.func (.func s) x.2.1 x.2.2:=by
    rw[<-A];exact q.eq t rfl
   exact Lf v q w u C B p d
 .exact d.elim
def sO(a:c.underlying t=some (.int .i64))(e:Bool)(b:Int)(w:World):(Instr.checkKey e 10000 t (.int .i64 b)).run c w=.ok () w:=by
 have:Instr.checkKey e 10000 t (.int .i64 b)=Instr.checkKey e (9999+1) t (.int .i64 b):=rfl;rw[this];generalize 9999=d;simp[Instr.checkKey,run_underlying a]
def Ag(b:Int):∀(a:List MapEntry)(l:List (Int×Int))(i:Nat),a.map (λe=>(e.key,e.val))=l.map (λp=>(Value.int .i64 p.1,Value.int .i64 p.2))->
 (Instr.findNow (.int .i64) (.int .i64 b) a i=some none/\vB l b=0/\(∀v,J2 l b v=l++[(b,v)]))\/
 ∃j u,Instr.findNow (.int .i64) (.int .i64 b) a i=some (some (i+j,.int .i64 u))/\vB l b=u/\j<a.length/\l[j]? =some (b,u)/\∀v,J2 l b v=l.set j (b,v)
 |[],[],i,_=>Or.inl ⟨rfl,rfl,λv=>rfl⟩
 |[],_::_,i,h=>by simp at h
 |_::_,[],i,h=>by simp at h
 |e::a,(j,u)::l,i,h=>by
  simp only[cK,List.cons.injEq,Oy]at h;obtain⟨⟨r,s⟩,h⟩:=h;have k:Instr.sameNow (.int .i64) (.int .i64 b) e.key=some (b==j):=by rw[r];simp[Instr.sameNow]
  by_cases c:b=j
  .subst c;refine Or.inr ⟨0,u,?_,?_,aL,aL,?_⟩
   .simp[Instr.findNow,k,s]
   .simp[vB]
   .intro v;simp[J2]
  .have m:(b==j)=false:=by simpa using c
   rcases Ag b a l (i+1) h with⟨d,f,g⟩|⟨q,t,d,f,g,o,p⟩
   .refine Or.inl ⟨?_,?_,?_⟩
    .simp[Instr.findNow,k,m,d]
    .simp[vB,c,f]
    .intro v;simp[J2,c,g]
   .refine Or.inr ⟨q+1,t,?_,?_,by simpa using g,by simpa using o,?_⟩
    .have n:i+1+q=i+(q+1):=V;simp[Instr.findNow,k,m,d,n]
    .simp[vB,c,f]
    .intro v;simp[J2,c,p]
def OP(f:ka n g a)(e:Bx n g m){r:Option Operand}(d:wr c T G n g m i h k (.makeMap t r)):FH c n a m ⟨i,.makeMap t r,h,o,j,l⟩ k:=by
 intro b q s Q p
 subst q;cases r with
 |some r=>exact d.elim
 |none=>
  refine jQ (w:=b) (c:=.c (.mp b.heap.size)) (v:=.map (some b.heap.size)) (b:={b with heap:=b.heap.push (.map #[] 0)}) f (e.push _) rfl ⟨rfl,rfl,rfl⟩ d ?_ p;simp[execOp,Instr.makeMap]
def PV(s:uN c T)(r:ka n g a)(L:Bx n g m){z:Bool}(d:wr c T G n g m i h k (.lookup t b y z)):FH c n a m ⟨i,.lookup t b y z,h,o,j,l⟩ k:=by
 intro e W ag ad S
 subst W;cases z with
 |true=>exact d.elim
 |false=>
  simp only[wr]at d;split at d
  .rename_i kt et sh ae B f V X Y;split at d
   .rename_i b1 b2 R P;obtain⟨u,⟨C,J,O,N⟩,Q⟩:=d;have F:=(Cx (s.yM V)).1;obtain⟨⟨K,hd,E⟩,_⟩:=ou (s.yM R);have M:K=.int .i64:=by
     unfold AA at E;split at E<;>simp_all
    subst M;obtain⟨A,Z,ac,ab⟩:=wC s P rfl;have aa:A=.int .i64 0:=by
     have:A.cells.toList=[Value.int .i64 0]:=Z;have U:=ab rfl;cases A<;>first|(simp[Value.cells]at this;done)|(simp[Value.cells]at this;rw[this.1,this.2])|exact absurd rfl (U _)
    have H:a.eval b=.map (some B):=r.eq X rfl;have I:a.eval y=.int .i64 f:=r.eq Y rfl;have D:(getObj B).run c e=.ok (.map C J) e:=by simp[getObj,Sem.run,O]
    refine jQ (w:=e) (c:=.c (.i (vB u f))) (v:=.int .i64 (vB u f)) (b:=e) r L rfl (pI.az e) Q ?_ S;rcases Ag f C.toList u 0 N with⟨p,q,_⟩|⟨af,ah,p,q,_⟩
    .simp[execOp,Instr.lookup,run_underlying F,H,I,D,sO hd,Instr.findKey,run_underlying hd,p,ac,aa,q]
    .simp[execOp,Instr.lookup,run_underlying F,H,I,D,sO hd,Instr.findKey,run_underlying hd,p,q]
   .exact d.elim
  .exact d.elim
def Lh(L:uN c T)(s:ka n g a)(K:Bx n g m){z:Operand}(r:wr c T G n g m i h k (.mapUpdate t b y z)):FH c n a m ⟨i,.mapUpdate t b y z,h,o,j,l⟩ k:=by
 intro w hw ai ag Q
 subst hw;simp only[wr]at r;split at r
 .rename_i kt et sh ah e d v ht hx hy hz;split at r
  .rename_i b1 ae;obtain⟨Y,⟨p,q,E,x⟩,P⟩:=r;have U:=(Cx (L.yM ht)).1;obtain⟨⟨Z,hd,R⟩,_⟩:=ou (L.yM ae);have aa:Z=.int .i64:=by
    unfold AA at R;split at R<;>simp_all
   subst aa;have V:a.eval b=.map (some e):=s.eq hx rfl;have W:a.eval y=.int .i64 d:=s.eq hy rfl;have X:a.eval z=.int .i64 v:=s.eq hz rfl;have N:(getObj e).run c w=.ok (.map p q) w:=by simp[getObj,Sem.run,E]
   have S:∀I,(setObj e I).run c w=.ok () {w with heap:=w.heap.setIfInBounds e I}:=λI=>by simp[setObj,Sem.run,E]
   have M:e<w.heap.size:=(Array.getElem?_eq_some_iff.1 E).1;unfold Oper.wp;rcases Ag d p.toList Y 0 x with⟨C,h2,D⟩|⟨f,aj,C,h2,D,J,h5⟩
   .have H:(execOp a.eval ⟨i,.mapUpdate t b y z,h,o,j,l⟩).run c w=.ok .skip {w with heap:=w.heap.setIfInBounds e (.map (p.push {key:=.int .i64 d,val:=.int .i64 v,born:=q}) (q+1))}:=by
     simp[execOp,Instr.mapUpdate,run_underlying U,V,W,X,N,sO hd,Instr.findKey,run_underlying hd,C,S]
    rw[H];have u:=mH (P {w with heap:=w.heap.setIfInBounds e (.map (p.push {key:=.int .i64 d,val:=.int .i64 v,born:=q}) (q+1))}.heap ?_ aL ?_)
    .exact Q g .un undef _ u.2 s (K.dp u.1) rfl ⟨rfl,rfl,rfl⟩
    .refine⟨_,_,by simp[M];exact⟨rfl,rfl⟩,?_⟩;rw[D];simp[x]
    .intro f F;simp[jU (kH F)]
   .have ad:(p[f]?).map (·.key)=some (.int .i64 d):=by
     have:=oA (λA=>(A[f]?).map (·.1)) x;simpa[J]using this
    have af:(Instr.keyThatStays (.int .i64 d) (.int .i64 d)).run c w=.ok (.int .i64 d) w:=by
     simp[Instr.keyThatStays,Instr.sameBits]
    have H:(execOp a.eval ⟨i,.mapUpdate t b y z,h,o,j,l⟩).run c w=.ok .skip {w with heap:=w.heap.setIfInBounds e (.map (p.modify f λB=>{B with key:=.int .i64 d,val:=.int .i64 v}) q)}:=by
     simp only[execOp,Instr.mapUpdate,run_underlying U,V,W,X,N,sO hd,Instr.findKey,run_underlying hd,C,Sem.run_bind,Result.andThen_ok,Sem.run_pure,bT,ad,vQ,af,S]
    rw[H];have u:=mH (P {w with heap:=w.heap.setIfInBounds e (.map (p.modify f λB=>{B with key:=.int .i64 d,val:=.int .i64 v}) q)}.heap ?_ aL ?_)
    .exact Q g .un undef _ u.2 s (K.dp u.1) rfl ⟨rfl,rfl,rfl⟩
    .refine⟨_,_,by simp[M];exact⟨rfl,rfl⟩,?_⟩;rw[h5];apply gY;intro A;have B:=oA (λ(q':List (Value×Value))=>q'[A]?) x;simp only[cJ]at B;simp only[cJ,jI,XZ,lK]at B⊢;by_cases O:f=A
     .subst O;have ac:f<Y.length:=(List.getElem?_eq_some_iff.1 J).1;have ab:f<p.size:=by simpa using D
      simp[ac,ab]
     .simp only[O,rV];exact B
    .intro f F;simp[jU (kH F)]
  .exact r.elim
 .exact r.elim
def tK(l:List Ce)(z:O)(a f:Nat)(d:l.length=a*f)(w:World)(h:fS w.heap z.D z.off l)(e:a<=z.len):
 (Builtin.firstCells f a z.v).run c w=.ok (bt l) w:=by
 cases z with
 |nil=>
  have b:a=0:=by simp at e;omega
  have:l=[]:=List.length_eq_zero_iff.1 (by rw[d,b];simp)
  subst this
  simp[Builtin.firstCells,O.v,bt]
 |Af g i j=>
  have b:a=0:=by simp at e;omega
  have:l=[]:=List.length_eq_zero_iff.1 (by rw[d,b];simp)
  subst this
  simp[Builtin.firstCells,O.v,bt,b,loadCells,loadCellsFrom]
 |mk b o i g=>
  simp only[Builtin.firstCells,O.v,<-d]
  exact Qo l b o w h
def Pw(a:List Ce)(z:Array Value)(b:z.toList=a.map Ce.v)(n:Nat):Builtin.zeroCells z n=bt (mN a n):=by
 have c:z.size=a.length:=by rw[<-ZG,b];simp
 rw[<-Jq a z b n,Builtin.zeroCells,c]
def QD(l r:List Ce):bt (l++r)=bt l++bt r:=by simp[bt]
def PU(H:uN c T)(C:ka n g a)(L:Bx n g m){Z:Array Operand}(q:wr c T G n g m i h k (.call ⟨.builtin .append,Z,e⟩)):FH c n a m ⟨i,.call ⟨.builtin .append,Z,e⟩,h,o,j,l⟩ k:=by
 intro d hw aM aE N
 subst hw;simp only[wr]at q;split at q
 .rename_i b y t aD am az;split at q
  .rename_i B sh aF e2 aN aG s z ht aA hx hy;split at q
   .rename_i f ac;cases u:(f.uU||Nat.beq f.bytes 0)
    .rw[u]at q;simp only[br]at u;obtain⟨A,Q,ar,ah,ai⟩:=q;have e1:Z=#[b,y]:=Array.toList_inj.1 (by simpa using am);have al:e=#[t,aD]:=Array.toList_inj.1 (by simpa using az);subst e1;subst al;have U:=(ku (H.yM ht)).1;have W:=(ku (H.yM aA)).1;obtain⟨zv,hz,ak,aK⟩:=wC H ac u.1;obtain⟨ti,hb,aJ,af,_⟩:=GK H ac u.1;have S:=λd=>kE H ac u.1 d;have X:a.eval b=s.v:=C.eq hx rfl;have Y:a.eval y=z.v:=C.eq hy rfl;have E:(Builtin.lenOf z.v).run c d=.ok z.len d:=by cases z<;>simp[Builtin.lenOf,O.v,O.len]
     have aj:(f.sh.map Sh.zero).length=f.sh.length:=aL;rw[aj]at Q;simp only[aj]at ah ai;have M:∀r:World,r.heap=d.heap->(Builtin.firstCells f.sh.length z.len z.v).run c r=.ok (bt A) r:=λr ag=>
      tK A z z.len f.sh.length Q r (by rw[ag];exact ar) (ad _)
     have ay:=s.XE;by_cases D:s.len+z.len<=s.cap
     .obtain⟨R,p⟩:=ah D;cases s with
      |nil=>
       simp only[O.O1,O.Ve]at D R p;have J:z.len=0:=V;have:A=[]:=List.length_eq_zero_iff.1 (by rw[Q,J];simp);subst this;obtain⟨ab,p⟩:=mH p;refine jQ (w:=d) (c:=.c (.s .nil)) (v:=.slice none 0 0) (b:=d) C L rfl (pI.az d) p ?_ N;have I:a.eval b=.slice none 0 0:=X;have F:=M d rfl;simp only[execOp,resolve,Sem.run_bind,Sem.run_pure,Result.andThen_ok,invoke,builtin,Builtin.append_,nu,cK,fH,I,Y];rw[J]at E F;simp[run_underlying U,run_underlying W,S,E,F]
      |Af K o0 sp=>
       simp only[O.Sg,O.Vd]at D R p;have J:z.len=0:=V;have:A=[]:=List.length_eq_zero_iff.1 (by rw[Q,J];simp);subst this;obtain⟨ab,p⟩:=mH p;refine jQ (w:=d) (c:=.c (.s (.Af K o0 sp))) (v:=.slice (some ⟨K,o0,some sp⟩) 0 0) (b:=d) C L rfl (pI.az d) p ?_ N;have I:a.eval b=.slice (some ⟨K,o0,some sp⟩) 0 0:=X;have F:=M d rfl;simp only[execOp,resolve,Sem.run_bind,Sem.run_pure,Result.andThen_ok,invoke,builtin,Builtin.append_,nu,cK,fH,I,Y];rw[J]at E F;simp[run_underlying U,run_underlying W,S,E,F,bt,storeCells]
      |mk F K J aa=>
       simp only[O.gJ,O.OM,O.jF,O.nh]at D R p;obtain⟨ab,p⟩:=mH p;refine jQ (w:=d) (c:=.c (.s (.mk F K (J+z.len) aa))) (v:=.slice (some ⟨F,K,none⟩) (J+z.len) aa) (b:=d.setCells F (K+J*f.sh.length) (A.map Ce.v)) C (by rw[kY];exact L.dp ab) rfl (rp _ _ _ _) (by rw[kY];exact p) ?_ N;have an:=EC (d:=c) A F (K+J*f.sh.length) d R;have I:a.eval b=.slice (some ⟨F,K,none⟩) J aa:=X;simp only[execOp,resolve,Sem.run_bind,Sem.run_pure,Result.andThen_ok,invoke,builtin,Builtin.append_,nu,cK,fH,I,Y];simp[run_underlying U,run_underlying W,S,E,D,M d rfl,vY,bt,an]
     .obtain⟨ab,old,av,ax,p⟩:=ai V;have aH:=growslice_fits (need:=s.len+z.len) (old:=s.cap) (bytes:=f.bytes) V ab;have K:f.bytes≠0:=λB=>by rw[B]at u;simp at u
      have aI:¬(((s.len+z.len:Nat):Int)>IntKind.i64.max/\f.bytes=0):=λhh=>K hh.2;have aw:∀r:World,r.heap=d.heap->(Builtin.firstCells f.sh.length s.len s.v).run c r=.ok (bt old) r:=λr ag=>
       tK old s s.len f.sh.length av r (by rw[ag];exact ax) (ad _)
      let I:Question:=.appendCap (s.len+z.len) s.cap B;let nc:=I.cut (d.tape d.drawn I);let J:World:={d with drawn:=d.drawn+1};have ap:s.len+z.len<=nc:=Nat.le_add_right _ _;refine jQ (w:=d) (c:=.c (.s (.mk d.heap.size 0 (s.len+z.len) nc))) (v:=.slice (some ⟨d.heap.size,0,none⟩) (s.len+z.len) nc)
       (b:={J with heap:=d.heap.push (.cells (bt (old++A++mN (f.sh.map Sh.zero) (nc -(s.len+z.len)))) B)}) C (L.push _) rfl ⟨rfl,rfl,rfl⟩ (mH (p nc ap)).2 ?_ N
      have aC:zv.cells.toList=(f.sh.map Sh.zero).map Ce.v:=by simp[hz]
      have aa:=Pw (f.sh.map Sh.zero) zv.cells aC (nc -(s.len+z.len));have an:I.forced=false:=rfl;have aq:¬(Builtin.nextslicecap (s.len+z.len) s.cap*f.bytes>2^48):=by
       have:(2:Nat)^48=281474976710656:=bh;omega
      simp only[execOp,resolve,Sem.run_bind,Sem.run_pure,Result.andThen_ok,invoke,builtin,Builtin.append_,nu,cK,fH,X,Y];have F:=aw J rfl;have R:=M J rfl;rw[ay]at F⊢;simp only[lL,sL,il,Sem.run_bind,run_underlying U,run_underlying W,Result.andThen_ok,S,Sem.run_pure,E,jt,rV,D,af,hb,false_or];simp only[K,and_false,rV,aq,Sem.run_bind,run_choose,an,jt,Result.andThen_ok,af,run_askRoom,F,MJ,MO,R,ak,aa,newRow,run_newObj,Sem.run_pure];simp[QD];rw[hb,ae V,ae (show¬(Question.appendCap (s.len+z.len) s.cap B).forced=true by simp[Question.forced])];have au:(Builtin.firstCells f.sh.length s.len (Value.slice s.cr s.len s.cap)).run c d.drew=.ok (bt old) d.drew:=F;have ao:(Builtin.firstCells f.sh.length z.len z.v).run c d.drew=.ok (bt A) d.drew:=R;simp only[af,Result.andThen_ok,au,ao,ak];have aB:Builtin.zeroCells zv.cells ((Question.appendCap (s.len+z.len) s.cap B).cut (d.tape d.drawn (Question.appendCap (s.len+z.len) s.cap B)) -(s.len+z.len))=bt (mN (f.sh.map Sh.zero) (nc -(s.len+z.len))):=aa;rw[aB];rfl
    .rw[u]at q;exact q.elim
   .exact q.elim
  .exact q.elim
 .exact q.elim
end
end Go.Vc
end
section
namespace Go.Vc
variable{b:Program}{T:TT}{G:List Nat}
section
variable{n:Nat}{c:Fr}{a:Act}{m:E}{k:Fr->SV->E->Prop}{d:Option Tmp}{e:TypeId}{h:String}{f:Array Edge}{g:Option (Nat×Bool)}
def SK(M:uN b T)(t:ka n c a)(U:Bx n c m){r:Array Operand}{K:Array TypeId}(i:wr b T G n c m d e k (.call ⟨.builtin .copy,r,K⟩)):FH b n a m ⟨d,.call ⟨.builtin .copy,r,K⟩,e,h,f,g⟩ k:=by
 intro j hw ah ae W
 subst hw;simp only[wr]at i;split at i
 .rename_i q R ad ai V ab;split at i
  .rename_i ag sh af s z ht hx hy;split at i
   .rename_i J aa;cases u:J.uU
    .rw[u]at i;obtain⟨o,C,X,Y,y⟩:=i;obtain⟨Z,y⟩:=mH y;have S:r=#[q,R]:=Array.toList_inj.1 (by simpa using V);subst S;have E:K[0]? =some ad:=by rw[<-XZ,ab];rfl
     have F:=(ku (M.yM ht)).1;have D:=λj=>kE M aa u j;have H:a.eval q=s.v:=t.eq hx rfl;have I:a.eval R=z.v:=t.eq hy rfl;have A:(Builtin.lenOf z.v).run b j=.ok z.len j:=by cases z<;>simp[Builtin.lenOf,O.v,O.len]
     have l:(Builtin.firstCells J.sh.length (Nat.min z.len s.len) z.v).run b j=.ok (bt o) j:=
      tK o z _ J.sh.length C j X (Nat.min_le_left _ _)
     refine jQ (w:=j) (c:=.c (.i (Nat.min z.len s.len:Nat))) (v:=.int .i64 (Nat.min z.len s.len:Nat)) (b:=j.setCells s.D s.off (o.map Ce.v)) t (by rw[kY];exact U.dp Z) rfl (rp _ _ _ _) (by rw[kY];exact y) ?_ W;cases s with
     |nil=>
      have B:Nat.min z.len O.nil.len=0:=aL;have:o=[]:=List.length_eq_zero_iff.1 (by rw[C,B];simp);subst this;have p:a.eval q=.slice none 0 0:=H;simp only[O.O1]at l⊢;simp only[execOp,resolve,Sem.run_bind,Sem.run_pure,Result.andThen_ok,invoke,builtin,Builtin.copy_,nu,cK,fH,p,I,E];simp only[lL,sL,il,Sem.run_bind,run_underlying F,Result.andThen_ok,A,D,l,Sem.run_pure];rfl
     |Af L N Q=>
      have B:Nat.min z.len (O.Af L N Q).len=0:=aL;have:o=[]:=List.length_eq_zero_iff.1 (by rw[C,B];simp);subst this;have p:a.eval q=.slice (some ⟨L,N,some Q⟩) 0 0:=H;simp only[O.Sg]at l⊢;simp only[execOp,resolve,Sem.run_bind,Sem.run_pure,Result.andThen_ok,invoke,builtin,Builtin.copy_,nu,cK,fH,p,I,E];simp only[lL,sL,il,Sem.run_bind,run_underlying F,Result.andThen_ok,A,D,l,Sem.run_pure,bt];rfl
     |mk B L ac N=>
      have Q:=EC (d:=b) o B L j Y;have p:a.eval q=.slice (some ⟨B,L,none⟩) ac N:=H;simp only[O.gJ]at l⊢;simp only[execOp,resolve,Sem.run_bind,Sem.run_pure,Result.andThen_ok,invoke,builtin,Builtin.copy_,nu,cK,fH,p,I,E];simp only[lL,sL,il,Sem.run_bind,run_underlying F,Result.andThen_ok,A,D,l,Sem.run_pure,bt,Q];rfl
    .rw[u]at i;exact i.elim
   .exact i.elim
  .exact i.elim
 .exact i.elim
def QF(o:uN b T)(u:UY b G)(l:ka n c a)(j:Bx n c m)(p:Oper)(i:wr b T G n c m p.dst p.type k p.op):FH b n a m p k:=by
 obtain⟨d,v,e,h,f,g⟩:=p;cases v with
 |alloc t=>exact QY o l j i
 |box t x=>exact TV l j i
 |buildSlice t q r=>exact JV o l j i
 |store t x y=>exact QZ o l j i
 |makeSlice t x y=>exact Lg o l j i
 |makeFunc r first q=>exact MR l j i
 |makeMap t w=>exact OP l j i
 |lookup t x y q=>exact PV o l j i
 |mapUpdate t x y z=>exact Lh o l j i
 |call r=>
  obtain⟨s,t,x⟩:=r;cases s with
  |builtin q=>
   cases q with
   |append=>exact PU o l j i
   |copy=>exact SK o l j i
   |_=>exact i.elim
  |value q=>exact SJ u l j i
  |invoke w q=>exact i.elim
 |_=>exact i.elim
end
end Go.Vc
end
section
namespace Go.Vc
variable{b:Array Bool}{j:Nat}{L:List (Nat×(World->Prop))}{a:Act}{w:World}
section
variable{P:Program}{c:Array Oper}{Q:Exit->Act->World->Prop}{d:Region.Mode}{e:Nat->Nat->Bool}
def vP(P:Program)(d:Region.Mode)(c:Array Oper)(Q:Exit->Act->World->Prop)(e:Nat->Nat->Bool)(L:List (Nat×(World->Prop))):Nat->Array Bool->Act->World->Prop
 |0,b,a,w=>Region.ready d c b=[]/\Q .normal a w
 |h+1,b,a,w=>
  (Region.ready d c b=[]->Q .normal a w)/\
  ∀i∈Region.ready d c b,wpOp P c Q i (λg f=>(∀x∈L,e i x.1=false->x.2 w->x.2 f)/\vP P d c Q e L h (b.setIfInBounds i true) g f) a w
def MH{L:List (Nat×(World->Prop))}:∀(f:Nat)(b:Array Bool)(a:Act)(w:World),vP P d c Q e L f b a w->wpAny P d c Q f b a w
 |0,_,_,_,h=>h
 |f+1,_,_,_,h=>⟨h.1,λk j=>wpOp_mono (λg l i=>MH f _ g l i.2) (h.2 k j)⟩
def Eb{L g:List (Nat×(World->Prop))}(j:∀x∈g,x∈L):∀(f:Nat)(b:Array Bool)(a:Act)(w:World),vP P d c Q e L f b a w->vP P d c Q e g f b a w
 |0,_,_,_,h=>h
 |f+1,_,_,_,h=>⟨h.1,λn l=>wpOp_mono (λk o i=>⟨λx m=>i.1 x (j x m),Eb j f _ k o i.2⟩) (h.2 n l)⟩
def HL(e:Nat->Nat->Bool)(b:Array Bool):Prop:=∀i,b.getD i false=true->∀r,e i r=true->b.getD r false=true
def UU(d:Region.Mode)(c:Array Oper)(e:Nat->Nat->Bool):Prop:=
 ∀(i r:Nat)(o:Oper),c[i]? =some o->e i r=true->∃a∈o.after,Region.binds d a=true/\(a.on=r\/e a.on r=true)
def xJ(k:UU d c e)(l:HL e b)(n:j∈Region.ready d c b){r:Nat}(p:e j r=true):b.getD r false=true:=by
 obtain⟨_,q,o,g⟩:=mem_ready.1 n;obtain⟨f,m,i,h⟩:=k j r q o p;have a:=g f m i;rcases h with rfl|h
 .exact a
 .exact l _ a r h
def HL.set(k:UU d c e)(a:HL e b)(l:j∈Region.ready d c b):HL e (b.setIfInBounds j true):=by
 intro i f r h;by_cases g:j=i
 .subst g;exact getD_set_true (xJ k a l h)
 .rw[getD_set_ne false g]at f;exact getD_set_true (a i f r h)
def HI{i:Nat}{l:Oper}{F:Value}{S:World->Prop}(I:UU d c e)(C:c[i]? =some l)(O:∀(j:Nat)(R:Oper) q p,c[j]? =some R->R.op≠.select q p)
 (V:∀f a w,Q (.panic f) (a.put l.dst F) w->Q (.panic f) a w):
 ∀(r:Nat)(b:Array Bool)(a:Act)(w:World),HL e b->
  (∀j m,c[j]? =some m->j≠i->b.getD j true=false->(∀f∈m.after,Region.binds d f=true->f.on≠i)->l.apart c m=true)->
  i∈Region.ready d c b->YieldsIf P c S l F a->S w->
  vP P d c Q e ((i,S)::L) r (b.setIfInBounds i true) (a.put l.dst F) w->vP P d c Q e L (r+1) b a w:=by
 intro r
 induction r with
 |zero=>
  intro b a w _ _ k y x H
  refine⟨λh=>(by rw[h]at k;cases k),λj n=>?_⟩
  by_cases g:j=i
  .subst g;exact y.wpOp C x ⟨λz _ _ h=>h,H⟩
  .have:=ready_mono n g
   rw[H.1]at this
   cases this
 |succ r ih=>
  intro b a w J K k y x H
  refine⟨λh=>(by rw[h]at k;cases k),λj n=>?_⟩
  by_cases g:j=i
  .subst g;exact y.wpOp C x ⟨λz _ _ h=>h,Eb (λz E=>ai _ E) _ _ _ _ H⟩
  .have u:=H.2 j (ready_mono n g)
   obtain⟨N,m,D,W⟩:=mem_ready.1 n
   have s:b.getD i false=false:=by
    have G:=(mem_ready.1 k).1;rcases aW i b.size with A|A
    .simp[A]at G⊢;exact G
    .simp[Jr A]
   have ad:∀f∈m.after,Region.binds d f=true->f.on≠i:=λf Y B Z=>by
    have u:=W f Y B;rw[Z,s]at u;cases u
   have X:e j i=false:=by
    cases B:e j i
    .rfl
    .have:=xJ I J n B;rw[s]at this;cases this
   have U:=wpOp_putIf D (K j m D g N ad) (λq p=>O i l q p C) (λq p=>O j m q p D) V y u
   have aa:∀o t,c[o]? =some t->o≠i->(b.setIfInBounds j true).getD o true=false->
    (∀f∈t.after,Region.binds d f=true->f.on≠i)->l.apart c t=true:=λo t hk ab s ac=>by
    refine K o t hk ab ?_ ac
    by_cases M:j=o
    .subst M;exact N
    .rw[getD_set_ne true M]at s;exact s
   refine wpOp_mono (λT w' v=>⟨λz E=>v.2.1 z (ai _ E),
    ih (b.setIfInBounds j true) T w' (J.set I n) aa (ready_mono k (kH g)) v.1 (v.2.1 (i,S) bg X x) ?_⟩) U
   rw[Array.setIfInBounds_comm _ _ g]
   exact v.2.2
def Rz{f:Nat}(k:Region.ready d c b≠[])
 (j:∀i∈Region.ready d c b,wpOp P c Q i (λh g=>(∀x∈L,e i x.1=false->x.2 w->x.2 g)/\vP P d c Q e L f (b.setIfInBounds i true) h g) a w):
 vP P d c Q e L (f+1) b a w:=⟨λg=>absurd g k,j⟩
def QE(f:Region.ready d c b=[])(h:Q .normal a w):
 ∀g,vP P d c Q e L g b a w
 |0=>⟨f,h⟩
 |_+1=>⟨λ_=>h,by rw[f];simp⟩
end
end Go.Vc
end
section
namespace Go.Vc
variable{o:Oper}{a:Act}{m:E}
variable{b:Program}{T:TT}{G:List Nat}{n:Nat}
def LA:Op->Bool
 | .alloc _| .box ..| .buildSlice ..| .store ..| .makeSlice ..| .makeMap ..| .lookup ..| .mapUpdate ..| .makeFunc ..=>true
 | .call ⟨.builtin .append,_,_⟩| .call ⟨.builtin .copy,_,_⟩=>true
 | .call ⟨.builtin _,_,_⟩=>false
 | .call _=>true
 |_=>false
def sF(n:Nat):Option Nat->Bool
 |none=>true
 |some d=>Nat.blt d n
def Lr(a:List Oper)(j:Nat):Option Nat:=
 match Io a j with
 |some o=>o.dst
 |none=>none
def gd(e:List Oper)(a:Fr)(g:Option (Nat×Bool))(PB b:Fr->Prop):Prop:=
 match g with
 |none=>PB a
 |some (j,c)=>match Lr e j with
  |none=>False
  |some d=>match iu a d with
   | .tt=>bif c then PB a else b a
   | .ff=>bif c then b a else PB a
   | .un=>b a
   | .c (.t x)=>(x=true->bif c then PB ((d,.tt)::a)else b ((d,.tt)::a))/\(x=false->bif c then b ((d,.ff)::a)else PB ((d,.ff)::a))
   |_=>False
def sK(b:Program)(T:TT)(G:List Nat)(n:Nat)(c:List Oper):List Oper->Fr->E->(Fr->E->Prop)->Prop
 |[],a,m,k=>k a m
 |o::jR,a,m,k=>
  bif sF n o.dst then
   gd c a o.guard
    (λa=>bif LA o.op then wr b T G n a m o.dst o.type (λd x e=>sK b T G n c jR (uw d o.dst x) e k) o.op
     else rd T a m (λx=>sK b T G n c jR (uw a o.dst x) m k) o.op)
    (λa=>sK b T G n c jR (uw a o.dst .un) m k)
  else False
def Ae:List Oper->List Nat
 |[]=>[]
 |o::r=>match o.dst with
  |some d=>d::Ae r
  |none=>Ae r
def mJ(M:List Nat)(a b:Act):Prop:=∀t,t∉M->b.tmps.getD t undef=a.tmps.getD t undef
def mJ.az(M:List Nat)(a:Act):mJ M a a:=λ_ _=>rfl
def mJ.trans{M:List Nat}{a b c:Act}(h:mJ M a b)(k:mJ M b c):mJ M a c:=λt d=>(k t d).trans (h t d)
def mJ.put{M:List Nat}{d:Option Nat}(hd:∀t,d=some t->t∈M)(v:Value)(a:Act):mJ M a (a.put d v):=by
 cases d with
 |none=>exact mJ.az M a
 |some d=>
  intro t c;have b:d≠t:=λe=>c (e▸hd d rfl);simp[Act.put,jU b]
def LH{d:Nat}(hd:o.dst=some d):∀(a:List Oper),o∈a->d∈Ae a:=by
 intro a;induction a with
 |nil=>intro h;cases h
 |cons x r c=>
  intro h;rcases List.mem_cons.1 h with b|b
  .subst b;simp only[Ae,hd];exact bg
  .have:=c b;unfold Ae;cases x.dst with
   |none=>exact this
   |some e=>exact ai _ this
def Ej{d:Option Nat}(h:sF n d=true):∀t,d=some t->t<n:=by
 rintro t rfl;have:Nat.blt t n=true:=h;simpa[Nat.blt,Nat.succ_le_iff]using this
def Jp(k:Array Oper){d:Fr}(f:ka n d a)(e:Bx n d m)(o:Oper){PB z:Fr->Prop}(h:gd k.toList d o.guard PB z):
 (Region.wanted o (yielded k a.tmps)=true/\∃b,PB b/\ka n b a/\Bx n b m)\/
 (Region.wanted o (yielded k a.tmps)=false/\∃b,z b/\ka n b a/\Bx n b m):=by
 unfold gd at h
 cases b:o.guard with
 |none=>
  rw[b]at h
  exact Or.inl ⟨by simp[Region.wanted,b],d,h,f,e⟩
 |some C=>
  obtain⟨r,v⟩:=C
  rw[b]at h
  simp only at h
  split at h
  .exact h.elim
  .rename_i g hd
   have y:(k[r]?).bind (·.dst)=some g:=by
    unfold Lr at hd;rw[pU]at hd;have B:k.toList[r]? =k[r]? :=aL;rw[B]at hd;split at hd
    .rename_i i c;rw[c];exact hd
    .simp at hd
   have i:=f.aH g
   have w:∀j:Bool,a.tmps.getD g undef=.bool j->yielded k a.tmps r=some j:=by
    intro j l;have:a.tmps[g]? =some (.bool j):=by
     cases q:a.tmps[g]? with
     |none=>rw[zQ,q]at l;simp[undef]at l
     |some t=>rw[zQ,q]at l;simp at l;rw[l]
    simp[yielded,y,this]
   split at h
   .rename_i p
    rw[p]at i
    have c:=w true i
    cases v
    .exact Or.inr ⟨by simp[Region.wanted,b,c],d,h,f,e⟩
    .exact Or.inl ⟨by simp[Region.wanted,b,c],d,h,f,e⟩
   .rename_i p
    rw[p]at i
    have c:=w false i
    cases v
    .exact Or.inl ⟨by simp[Region.wanted,b,c],d,h,f,e⟩
    .exact Or.inr ⟨by simp[Region.wanted,b,c],d,h,f,e⟩
   .rename_i p
    rw[p]at i
    have c:yielded k a.tmps r=none:=by
     have s:a.tmps.getD g undef=undef:=i;rw[zQ]at s;unfold yielded;rw[y];cases q:a.tmps[g]? with
     |none=>simp[q]
     |some t=>rw[q]at s;simp at s;subst s;simp[q,undef]
    exact Or.inr ⟨by simp[Region.wanted,b,c],d,h,f,e⟩
   .rename_i x p
    rw[p]at i
    have c:=w x i
    have u:∀j:Bool,x=j->ka n ((g,if j then SV.tt else SV.ff)::d) a:=by
     rintro j rfl;refine⟨f.size,f.defers,λA=>?_⟩;simp only[iu];cases l:Nat.beq g A
     .exact f.aH A
     .have:=bq l;subst this;cases x<;>exact i
    obtain⟨s,t⟩:=h
    cases x
    .have t:=t rfl
     cases v
     .exact Or.inl ⟨by simp[Region.wanted,b,c],_,t,u false rfl,e.fX aL⟩
     .exact Or.inr ⟨by simp[Region.wanted,b,c],_,t,u false rfl,e.fX aL⟩
    .have s:=s rfl
     cases v
     .exact Or.inr ⟨by simp[Region.wanted,b,c],_,s,u true rfl,e.fX aL⟩
     .exact Or.inl ⟨by simp[Region.wanted,b,c],_,s,u true rfl,e.fX aL⟩
   .exact h.elim
def YQ(g:uN b T){c:Fr}(f:ka n c a)(e:Bx n c m){k:SV->Prop}(h:rd T c m k o.op){w:World}(p:w.heap=m)
 {d:Act->World->Prop}{Q:Exit->Act->World->Prop}(j:∀x v,k x->x.Is v->d (a.put o.dst v) w):o.wp b a w d Q:=by
 obtain⟨x,v,i,q,l⟩:=LU (P:=b) g f e o h
 unfold Oper.wp
 rw[l w (λr _=>by rw[p])]
 exact j x v i q
def vo(l:uN b T)(s:UY b G)(c:Array Oper){Q:Exit->Act->World->Prop}{K:World}{H:Act}:
 ∀(jR:List Oper)(d:Fr)(m:E)(k:Fr->E->Prop)(a:Act)(w:World),(∀o∈jR,o∈c.toList)->sK b T G n c.toList jR d m k->ka n d a->Bx n d m->w.heap=m->pI K w->
  mJ (Ae c.toList) H a->
  (∀g e f,k g f.heap->ka n g e->Bx n g f.heap->pI K f->mJ (Ae c.toList) H e->Q .normal e f)->wpList b c Q jR a w
 |[],d,m,k,a,w,_,h,y,v,e,r,p,q=>by
  subst e;exact q d a w h y v r p
 |o::jR,d,m,k,a,w,I,h,y,v,e,r,p,q=>by
  simp only[sK]at h;cases hd:sF n o.dst
  .rw[hd]at h;exact h.elim
  .rw[hd]at h;simp only[jL]at h;have z:=Ej hd;have A:∀u,o.dst=some u->u∈Ae c.toList:=λu N=>LH N _ (I o bg);have B:=λS P=>I S (ai _ P);unfold wpList;rcases Jp c y v o h with⟨D,g,t,j,i⟩|⟨D,g,O,j,i⟩
   .rw[an D];refine .inl ?_;cases J:LA o.op
    .simp only[J,mO]at t;refine YQ l j i t e λV U F C=>?_;exact vo l s c jR _ m k _ w B F (j.put C z) (i.put _ _) e r (p.trans (mJ.put A _ _)) q
    .simp only[J,jL]at t;refine QF l s j i o t w e _ _ λW V U f F M L C R=>?_;exact vo l s c jR _ _ k _ f B F (M.put C z) (L.put _ _) rfl (r.trans R) (p.trans (mJ.put A _ _)) q
   .rw[ae (by rw[D];simp)];exact vo l s c jR _ m k _ w B O (j.put (x:=.un) rfl z) (i.put _ _) e r (p.trans (mJ.put A _ _)) q
end Go.Vc
end
section
namespace Go.Vc
variable{P:Program}{T:TT}{G:List Nat}{n:Nat}
def uy:List Nat->Nat->Nat
 |[],_=>0
 |x::_,0=>x
 |_::r,n+1=>uy r n
def lE:List Edge->Nat
 |[]=>0
 |e::r=>bif Region.binds .any e then 2^e.on|||lE r else lE r
def oF(a:List Nat):List Edge->Nat
 |[]=>0
 |e::r=>bif Region.binds .any e then(2^e.on|||uy a e.on)|||oF a r else oF a r
def ln(a:List Nat):List Oper->List Nat->List Nat->Bool
 |[],[],[]=>true
 |o::d,p::e,b::c=>Nat.beq p (lE o.after.toList)&&Nat.beq b (oF a o.after.toList)&&ln a d e c
 |_,_,_=>false
def Sk:Op->List Operand
 | .alloc _| .ready _| .waits _=>[]
 | .move x| .assign x| .box _ x| .load _ x| .nilCheck x| .unOp _ _ x| .convert _ _ x| .sliceToArrayPointer _ x| .makeInterface _ x
 | .makeChan _ x| .fieldAddr _ x _| .field _ x _| .range _ x| .next x _| .entry x| .typeAssert x _ _ _| .extract x _| .panic x| .recv _ x _=>[x]
 | .pick c a b=>[c,a,b]
 | .build _ b| .buildSlice _ _ b=>b.toList.map (·.2)
 | .store _ a v| .binOp _ _ a v _| .makeSlice _ a v| .indexAddr _ a v| .index _ a v| .lookup _ a v _| .mapEntry _ a v| .send a v=>[a,v]
 | .makeFunc _ first a=>first.toList++a.toList
 | .makeMap _ r=>r.toList
 | .slice _ x l h m=>[x]++l.toList++h.toList++m.toList
 | .mapUpdate _ m k v| .entryStore _ m k v| .insert _ m k v=>[m,k,v]
 | .call ⟨.value f,a,_⟩| .go ⟨.value f,a,_⟩| .defer ⟨.value f,a,_⟩=>f::a.toList
 | .call ⟨.invoke f _,a,_⟩| .go ⟨.invoke f _,a,_⟩| .defer ⟨.invoke f _,a,_⟩=>f::a.toList
 | .call ⟨.builtin _,a,_⟩| .go ⟨.builtin _,a,_⟩| .defer ⟨.builtin _,a,_⟩=>a.toList
 | .select a _=>(a.flatMap λc=>#[c.chan]++c.send.toArray).toList
def Uq(a:Op):a.operands.toList=Sk a:=by
 cases a<;>try (simp[Op.operands,Sk];done)
 all_goals
  rename_i c
  obtain⟨b,d,e⟩:=c
  cases b<;>simp[Op.operands,Sk,Call.operands]
def JS(d:Nat):List Operand->Bool
 |[]=>false
 | .tmp t::r=>Nat.beq t d||JS d r
 |_::r=>JS d r
def O2(a:List Oper)(o:Oper)(d:Nat):Bool:=
 JS d (Sk o.op)||(match o.guard with
  |some (g,_)=>(match Lr a g with|some t=>Nat.beq t d|none=>false)
  |none=>false)
def OJ(a:List Oper)(x y:Oper):Bool:=
 (match x.dst with
  |some d=>!O2 a y d&&(match y.dst with|some e=>!Nat.beq d e|none=>true)
  |none=>true)&&
 (match y.dst with
  |some d=>!O2 a x d
  |none=>true)
def XB:Op->Bool
 | .select ..=>true
 |_=>false
def zY(b:List Oper)(i:Nat)(a:Nat)(o:Oper):Nat->List Oper->List Nat->Bool
 |_,[],_=>true
 |_,_,[]=>true
 |j,x::c,p::d=>(Nat.beq j i||Nat.testBit p i||Nat.testBit a j||OJ b o x)&&zY b i a o (j+1) c d
def FQ(a:List Oper)(b:List Nat):Nat->List Oper->List Nat->Bool
 |_,[],_=>true
 |_,_,[]=>true
 |i,o::e,c::d=>!XB o.op&&(LA o.op||zY a i c o 0 a b)&&FQ a b (i+1) e d
def kQ(done p i:Nat):Bool:=!(Nat.testBit done i)&&Nat.beq (p&&&done) p
def xr(done:Nat):Nat->List Oper->List Nat->Option Nat
 |_,[],_=>none
 |_,_,[]=>none
 |i,o::a,p::b=>bif kQ done p i&&!(LA o.op)then some i else xr done (i+1) a b
def pV(done:Nat):Nat->List Oper->List Nat->List Nat
 |_,[],_=>[]
 |_,_,[]=>[]
 |i,_::a,p::b=>bif kQ done p i then i::pV done (i+1) a b else pV done (i+1) a b
def Ma(m a:E):List (Nat×Nat)->Prop->Prop
 |[],k=>k
 |(b,o)::r,k=>af a b o=af m b o/\Ma m a r k
def DZ(a:Nat)(m b:E):List (Nat×List (Nat×Nat))->Prop->Prop
 |[],k=>k
 |(r,c)::L,k=>bif Nat.testBit a r then DZ a m b L k else Ma m b c (DZ a m b L k)
def OH:List Nat->(Nat->Prop)->Prop
 |[],_=>True
 |[i],f=>f i
 |i::r,f=>f i/\OH r f
def oX(P:Program)(T:TT)(G:List Nat)(n:Nat)(b:List Oper)(c d:List Nat):Nat->Nat->Fr->E->List (Nat×List (Nat×Nat))->(Fr->E->Prop)->Prop
 |0,done,a,m,_,k=>match pV done 0 b c with
  |[]=>k a m
  |_=>False
 |e+1,done,a,m,L,k=>
  match xr done 0 b c with
  |some i=>match Io b i with
   |some o=>bif sF n o.dst then
    gd b a o.guard
     (λa=>rd T a m (λx=>oX P T G n b c d e (done|||2^i) (uw a o.dst x) m ((i,Tm T a o.op)::L) k) o.op)
     (λa=>oX P T G n b c d e (done|||2^i) (uw a o.dst .un) m L k)
    else False
   |none=>False
  |none=>match pV done 0 b c with
   |[]=>k a m
   |h=>OH h λi=>match Io b i with
    |some o=>bif sF n o.dst then
     gd b a o.guard
      (λa=>wr P T G n a m o.dst o.type (λg x f=>DZ (uy d i) m f L (oX P T G n b c d e (done|||2^i) (uw g o.dst x) f L k)) o.op)
      (λa=>oX P T G n b c d e (done|||2^i) (uw a o.dst .un) m L k)
     else False
    |none=>False
def nB(r:Nat):∀(a:List Edge),Nat.testBit (lE a) r=true<->∃e∈a,Region.binds .any e=true/\e.on=r
 |[]=>by simp[lE]
 |e::a=>by
  have c:=nB r a;simp only[lE];cases b:Region.binds .any e
  .simp only[mO,c,aV,exists_eq_or_imp,b];simp
  .simp only[jL,UL,bR,c,aV,exists_eq_or_imp,b,true_and,NF,ar]
def yL(b:List Nat)(r:Nat):∀(a:List Edge),Nat.testBit (oF b a) r=true->∃e∈a,Region.binds .any e=true/\(e.on=r\/Nat.testBit (uy b e.on) r=true)
 |[],h=>by simp[oF]at h
 |e::a,h=>by
  have i:=yL b r a;simp only[oF]at h;cases f:Region.binds .any e
  .simp only[f,mO]at h;obtain⟨c,g,d⟩:=i h;exact⟨c,ai _ g,d⟩
  .simp only[f,jL,UL,bR,NF,ar]at h;rcases h with h|h
   .exact⟨e,bg,f,h⟩
   .obtain⟨c,g,d⟩:=i h;exact⟨c,ai _ g,d⟩
def lV(c:List Nat):∀{e:List Oper}{f a:List Nat},ln c e f a=true->∀(i:Nat)(o:Oper),e[i]? =some o->
 f[i]? =some (lE o.after.toList)/\uy a i=oF c o.after.toList/\∃b,a[i]? =some b
 |[],[],[],_,i,o,h=>by simp at h
 |x::e,p::f,b::a,h,i,o,d=>by
  simp only[ln,bM]at h;obtain⟨⟨g,j⟩,k⟩:=h;cases i with
  |zero=>
   simp at d;subst d;exact⟨by simp[bq g],by simp[uy,bq j],b,aL⟩
  |succ i=>
   have:=lV c k i o (by simpa using d);simpa[uy]using this
 |[],[],_::_,h,_,_,_=>by simp[ln]at h
 |[],_::_,_,h,_,_,_=>by simp[ln]at h
 |_::_,[],_,h,_,_,_=>by simp[ln]at h
 |_::_,_::_,[],h,_,_,_=>by simp[ln]at h
def JH(d:List Nat):∀{a:List Oper}{c b:List Nat},ln d a c b=true->c.length=a.length/\b.length=a.length
 |[],[],[],_=>⟨rfl,rfl⟩
 |x::a,p::c,e::b,h=>by
  simp only[ln,bM]at h;have:=JH d h.2;simp[this.1,this.2]
 |[],[],_::_,h=>by simp[ln]at h
 |[],_::_,_,h=>by simp[ln]at h
 |_::_,[],_,h=>by simp[ln]at h
 |_::_,_::_,[],h=>by simp[ln]at h
end Go.Vc
end
section
namespace Go.Vc
variable{N a:Nat}{b:Array Bool}
variable{P:Program}{T:TT}{G:List Nat}{n:Nat}
def ub{d:Nat}:∀{a:List Operand},JS d a=false->d∉(a.filterMap λ| .tmp t=>some t|_=>none)
 |[],_=>aL
 |x::r,h=>by
  cases x with
  |tmp t=>
   simp only[JS,br]at h;have b:=ub h.2;have:t≠d:=λe=>by subst e;simp at h
   simp only[List.filterMap_cons,aV,vS];exact⟨λe=>this e.symm,b⟩
  |const v=>simpa using ub (a:=r) (by simpa[JS]using h)
  |global g=>simpa using ub (a:=r) (by simpa[JS]using h)
  |func f=>simpa using ub (a:=r) (by simpa[JS]using h)
def Ug(a:Array Oper)(g:Nat):Lr a.toList g=(a[g]?).bind (·.dst):=by
 unfold Lr;rw[pU];have e:a.toList[g]? =a[g]? :=aL;rw[e];cases a[g]? <;>rfl
def JF(b:Array Oper){o:Oper}{d:Nat}(h:O2 b.toList o d=false):d∉o.looksAt b:=by
 simp only[O2,br]at h;unfold Oper.looksAt;rw[Uq,List.mem_append,vS];refine⟨ub h.1,?_⟩;have a:=h.2;cases c:o.guard with
 |none=>simp
 |some p=>
  obtain⟨g,f⟩:=p;rw[c]at a;simp only at a⊢;rw[Ug]at a;cases hd:(b[g]?).bind (·.dst)with
  |none=>simp
  |some t=>
   rw[hd]at a;simp only at a;simp only[Option.toList_some,lJ];intro e;subst e;simp at a
def PN(b:Array Oper){x y:Oper}(h:OJ b.toList x y=true):x.apart b y=true:=by
 simp only[OJ,bM]at h;obtain⟨a,d⟩:=h;unfold Oper.apart;simp only[bM];constructor
 .cases i:x.dst with
  |none=>rfl
  |some f=>
   rw[i]at a;simp only[bM,iR]at a⊢;refine⟨?_,?_⟩
   .have:=JF b a.1;simpa using this
   .have c:=a.2;cases e:y.dst with
    |none=>simp
    |some j=>
     rw[e]at c;simp only[iR]at c;simp only[vR,ne_eq,Ed];intro g;subst g;simp at c
 .cases e:y.dst with
  |none=>rfl
  |some f=>
   rw[e]at d;simp only[iR]at d⊢;have:=JF b d;simpa using this
def DI(i:List Oper)(a d:Nat)(o:Oper):∀{g:List Oper}{k:List Nat}{c:Nat},zY i a d o c g k=true->∀(j:Nat)(x:Oper)(p:Nat),g[j]? =some x->k[j]? =some p->
 c+j=a\/Nat.testBit p a=true\/Nat.testBit d (c+j)=true\/OJ i o x=true
 |[],_,_,_,j,x,p,h,_=>by simp at h
 |_::_,[],_,_,j,x,p,_,h=>by simp at h
 |y::g,q::k,c,h,j,x,p,f,e=>by
  simp only[zY,bM,bR]at h;obtain⟨b,m⟩:=h;cases j with
  |zero=>
   simp at f e;subst f;subst e;rcases b with((b|b)|b)|b
   .exact Or.inl (by simpa using bq b)
   .exact Or.inr (Or.inl b)
   .exact Or.inr (Or.inr (Or.inl (by simpa using b)))
   .exact Or.inr (Or.inr (Or.inr b))
  |succ j=>
   have:=DI i a d o m j x p (by simpa using f) (by simpa using e);have l:c+1+j=c+(j+1):=V;rw[l]at this;exact this
def xg(d:List Oper)(j:List Nat):∀{i:List Oper}{e:List Nat}{c:Nat},FQ d j c i e=true->∀(a:Nat)(o:Oper)(b:Nat),i[a]? =some o->e[a]? =some b->
 XB o.op=false/\(LA o.op=true\/zY d (c+a) b o 0 d j=true)
 |[],_,_,_,a,o,b,h,_=>by simp at h
 |_::_,[],_,_,a,o,b,_,h=>by simp at h
 |y::i,q::e,c,h,a,o,b,g,f=>by
  simp only[FQ,bM,bR,iR]at h;obtain⟨⟨l,m⟩,n⟩:=h;cases a with
  |zero=>simp at g f;subst g;subst f;exact⟨l,by simpa using m⟩
  |succ a=>
   have:=xg d j n a o b (by simpa using g) (by simpa using f);have k:c+1+a=c+(a+1):=V;rw[k]at this;exact this
def JE(p d:Nat):Nat.beq (p&&&d) p=true<->∀r,Nat.testBit p r=true->Nat.testBit d r=true:=by
 constructor
 .intro h r a;have e:=bq h;rw[<-e,Nat.testBit_and]at a;simp only[bM]at a;exact a.2
 .intro h;have:p&&&d=p:=by
   apply Nat.eq_of_testBit_eq;intro r;rw[Nat.testBit_and];cases a:Nat.testBit p r
   .rfl
   .simp[h r a]
  rw[this];simp
structure Oz(N done:Nat)(b:Array Bool):Prop where
 size:b.size=N
 Yn:∀a,b.getD a false=Nat.testBit done a
def Oz.un{done:Nat}(h:Oz N done b)(c:a<N):b.getD a true=Nat.testBit done a:=by
 rw[<-h.Yn a];have:a<b.size:=by rw[h.size];exact c
 simp[this]
def Oz.set{done:Nat}(h:Oz N done b)(c:a<N):Oz N (done|||2^a) (b.setIfInBounds a true):=by
 refine⟨by simp[h.size],λj=>?_⟩;have d:a<b.size:=by rw[h.size];exact c
 rw[UL,NF];by_cases e:a=j
 .subst e;simp[d]
 .rw[getD_set_ne false e,h.Yn j];simp[e]
def Iv(d:Array Oper){q h r:List Nat}(n:ln h d.toList q r=true){done:Nat}(g:Oz d.size done b)(a:Nat):
 a∈Region.ready .any d b<->∃o p,d[a]? =some o/\q[a]? =some p/\kQ done p a=true:=by
 rw[mem_ready]
 constructor
 .rintro⟨m,o,c,s⟩
  have k:a<d.size:=(Array.getElem?_eq_some_iff.1 c).1
  have l:=(lV h n a o (by simpa using c)).1
  refine⟨o,_,c,l,?_⟩
  simp only[kQ,bM,iR]
  refine⟨by rw[<-g.un k];exact m,(JE _ _).2 λt e=>?_⟩
  obtain⟨f,j,i,rfl⟩:=(nB t _).1 e
  rw[<-g.Yn]
  exact s f (Array.mem_toList_iff.1 j) i
 .rintro⟨o,p,c,l,e⟩
  have k:a<d.size:=(Array.getElem?_eq_some_iff.1 c).1
  have m:=(lV h n a o (by simpa using c)).1
  rw[l]at m
  simp only[Ed]at m
  subst m
  simp only[kQ,bM,iR]at e
  refine⟨by rw[g.un k];exact e.1,o,c,λf j i=>?_⟩
  rw[g.Yn]
  exact(JE _ _).1 e.2 f.on ((nB _ _).2 ⟨f,Array.mem_toList_iff.2 j,i,rfl⟩)
def LI(done:Nat):∀{d:List Oper}{e:List Nat}{b a:Nat},a∈pV done b d e<->∃j o p,a=b+j/\d[j]? =some o/\e[j]? =some p/\kQ done p a=true
 |[],_,_,_=>by simp[pV]
 |_::_,[],_,_=>by simp[pV]
 |x::d,q::e,b,a=>by
  have h:=LI done (d:=d) (e:=e) (b:=b+1) (a:=a);have k:(∃j o p,a=b+j/\(x::d)[j]? =some o/\(q::e)[j]? =some p/\kQ done p a=true)<->
   ((a=b/\kQ done q b=true)\/∃j o p,a=b+1+j/\d[j]? =some o/\e[j]? =some p/\kQ done p a=true):=by
   constructor
   .rintro⟨j,o,p,rfl,g,f,c⟩
    cases j with
    |zero=>simp at f;subst f;exact Or.inl ⟨rfl,by simpa using c⟩
    |succ j=>exact Or.inr ⟨j,o,p,V,by simpa using g,by simpa using f,by rwa[show b+(j+1)=b+(j+1)from rfl]at c⟩
   .rintro(⟨rfl,c⟩|⟨j,o,p,rfl,g,f,c⟩)
    .exact⟨0,x,q,rfl,aL,aL,c⟩
    .exact⟨j+1,o,p,V,by simpa using g,by simpa using f,c⟩
  rw[k,<-h];simp only[pV];cases c:kQ done q b
  .simp
  .simp
def Jy(done:Nat):∀{d:List Oper}{e:List Nat}{c a:Nat},xr done c d e=some a->∃j o p,a=c+j/\d[j]? =some o/\e[j]? =some p/\kQ done p a=true/\LA o.op=false
 |[],_,_,_,h=>by simp[xr]at h
 |_::_,[],_,_,h=>by simp[xr]at h
 |x::d,q::e,c,a,h=>by
  simp only[xr]at h;cases b:(kQ done q c&&!(LA x.op))
  .rw[b]at h;obtain⟨j,o,p,rfl,f,g,i,k⟩:=Jy done h;exact⟨j+1,o,p,V,by simpa using f,by simpa using g,i,k⟩
  .rw[b]at h;simp at h;subst h;simp only[bM,iR]at b;exact⟨0,x,q,rfl,aL,aL,b.1,b.2⟩
def NL:∀{l:List Nat}{f:Nat->Prop},OH l f->∀a∈l,f a
 |[a],f,h,j,b=>by simp at b;subst b;exact h
 |a::c::r,f,h,j,b=>by
  rcases List.mem_cons.1 b with rfl|b
  .exact h.1
  .exact NL h.2 j b
def Mb{m b:E}:∀{l:List (Nat×Nat)}{k:Prop},Ma m b l k->k/\∀q∈l,af b q.1 q.2=af m q.1 q.2
 |[],k,h=>⟨h,aL⟩
 |(e,o)::r,k,h=>by
  obtain⟨c,d⟩:=Mb h.2;refine⟨c,λq a=>?_⟩;rcases List.mem_cons.1 a with rfl|a
  .exact h.1
  .exact d q a
def Fy{c:Nat}{m g:E}:∀{L:List (Nat×List (Nat×Nat))}{k:Prop},DZ c m g L k->k/\∀x∈L,Nat.testBit c x.1=false->∀q∈x.2,af g q.1 q.2=af m q.1 q.2
 |[],k,h=>⟨h,aL⟩
 |(r,l)::L,k,h=>by
  simp only[DZ]at h;cases f:Nat.testBit c r
  .rw[f]at h;obtain⟨i,j⟩:=Mb h;obtain⟨d,e⟩:=Fy i;refine⟨d,λx a b=>?_⟩;rcases List.mem_cons.1 a with rfl|a
   .exact j
   .exact e x a b
  .rw[f]at h;obtain⟨d,e⟩:=Fy h;refine⟨d,λx a b=>?_⟩;rcases List.mem_cons.1 a with rfl|a
   .rw[f]at b;cases b
   .exact e x a b
def ZR(L:List (Nat×List (Nat×Nat)))(b:List (Nat×(World->Prop))):Prop:=
 ∀x∈b,(∀w,x.2 w)\/∃(a:List (Nat×Nat))(c:Nat×Nat->Option Value),(x.1,a)∈L/\x.2=λw=>∀q∈a,af w.heap q.1 q.2=c q
end Go.Vc
end
section
namespace Go.Vc
variable{a:Program}{T:TT}{G:List Nat}{n:Nat}
def Pt(hT:uN a T)(hG:UY a G)(b:Array Oper)(U f:List Nat)(z:ln f b.toList U f=true)(ao:FQ b.toList U 0 b.toList f=true)
 {ag:Exit->Act->World->Prop}(hQ:∀N g w,¬ag (.panic N) g w){w0:World}{a0:Act}:
 ∀(F done:Nat)(D:Fr)(ac:E)(L:List (Nat×List (Nat×Nat)))(B:Fr->E->Prop)(M:List (Nat×(World->Prop)))(c:Array Bool)(g:Act)(w:World),
  oX a T G n b.toList U f F done D ac L B->ZR L M->Oz b.size done c->HL (λi K=>Nat.testBit (uy f i) K) c->ka n D g->Bx n D ac->w.heap=ac->pI w0 w->
  mJ (Ae b.toList) a0 g->
  (∀s d k,B s k.heap->ka n s d->Bx n s k.heap->pI w0 k->mJ (Ae b.toList) a0 d->ag .normal d k)->
  vP a .any b ag (λi K=>Nat.testBit (uy f i) K) M F c g w:=by
 have H:UU .any b (λi K=>Nat.testBit (uy f i) K):=by
  intro i K o d p;have X:=(lV f z i o (by simpa using d)).2.1;simp only[X]at p;obtain⟨e,he,hb,h⟩:=yL f K _ p;exact⟨e,Array.mem_toList_iff.1 he,hb,h⟩
 have aF:=JH f z
 have av:∀(j:Nat)(o:Oper) cs r,b[j]? =some o->o.op≠.select cs r:=by
  intro j o cs r d e;obtain⟨_,_,bj,ay⟩:=lV f z j o (by simpa using d);have:=(xg _ _ ao j o bj (by simpa using d) ay).1;rw[e]at this;simp[XB]at this
 have al:∀{done:Nat}{c:Array Bool},Oz b.size done c->∀i,i∈Region.ready .any b c<->i∈pV done 0 b.toList U:=by
  intro done c hD i;rw[Iv b z hD i,LI];constructor
  .rintro⟨o,R,d,O,p⟩;exact⟨i,o,R,V,by simpa using d,O,p⟩
  .rintro⟨j,o,R,e,d,O,p⟩;have:i=j:=V;subst this;exact⟨o,R,by simpa using d,O,p⟩
 have au:∀{done:Nat}{c:Array Bool},Oz b.size done c->pV done 0 b.toList U=[]->Region.ready .any b c=[]:=by
  intro done c hD h;apply List.eq_nil_iff_forall_not_mem.2;intro i m;rw[al hD i,h]at m;cases m
 intro F
 induction F with
 |zero=>
  intro done D ac L B M c g w h hL hD hC hR hB hw hs hk hq
  subst hw
  simp only[oX]at h
  split at h
  .rename_i h0
   exact⟨au hD h0,hq D g w h hR hB hs hk⟩
  .exact h.elim
 |succ F Q=>
  intro done D ac L B M c g w h hL hD hC hR hB hw hs hk hq
  subst hw
  simp only[oX]at h
  split at h
  · -- a reading is taken first
   rename_i i m
   obtain⟨j,o,R,e,d,O,p,aD⟩:=Jy done m
   have:i=j:=V
   subst this
   rw[pU,d]at h
   simp only at h
   have A:b[i]? =some o:=by simpa using d
   have aa:i<b.size:=(Array.getElem?_eq_some_iff.1 A).1
   have ab:i∈Region.ready .any b c:=(Iv b z hD i).2 ⟨o,R,A,O,p⟩
   cases hd:sF n o.dst
   .rw[hd]at h;exact h.elim
   .rw[hd]at h
    simp only[jL]at h
    have Y:=Ej hd
    have Z:∀C,o.dst=some C->C∈Ae b.toList:=λC ah=>LH ah _ (iB d)
    have aq:∀j I,b[j]? =some I->j≠i->c.getD j true=false->(∀e∈I.after,Region.binds .any e=true->e.on≠i)->o.apart b I=true:=by
     intro j I ak aA ar aB;have az:j<b.size:=(Array.getElem?_eq_some_iff.1 ak).1;obtain⟨_,aE,bi,ap⟩:=lV f z i o d;rcases(xg _ _ ao i o bi d ap).2 with t|t
     .rw[aD]at t;cases t
     .have W:=(lV f z j I (by simpa using ak)).1;have u:uy f i=bi:=by
       have:∀(l:List Nat)(i r:Nat),l[i]? =some r->uy l i=r:=by
        intro l;induction l with
        |nil=>intro i r h;simp at h
        |cons ad l Q=>intro i r h;cases i with
         |zero=>simpa[uy]using h
         |succ i=>simpa[uy]using Q i r (by simpa using h)
       exact this f i bi ap
      rcases DI _ _ _ _ t j I _ (by simpa using ak) W with e|e|e|e
      .exact absurd V aA
      .rw[bT]at e;obtain⟨q,y,hb,J⟩:=(nB i _).1 e;exact absurd J (aB q (Array.mem_toList_iff.1 y) hb)
      .rw[bT,<-u]at e;have:=xJ H hC ab e;rw[hD.Yn]at this;rw[hD.un az,this]at ar;cases ar
      .exact PN b e
    rcases Jp b hR hB o h with⟨J,s,am,y,u⟩|⟨J,s,aj,y,u⟩
    .obtain⟨ad,aw,hx,hv,aC⟩:=LU (P:=a) hT y u o am
     let ax:World->Prop:=λk=>∀q∈Tm T s o.op,af k.heap q.1 q.2=af w.heap q.1 q.2
     refine HI (S:=ax) H A av (λN g w hc=>absurd hc (hQ _ _ _)) F c g w hC aq ab (F:=aw) (Or.inl ⟨J,λk l=>aC k l⟩) (λq _=>rfl) ?_
     refine Q _ _ _ _ B _ _ _ w hx ?_ (hD.set aa) (hC.set H ab) (y.put hv Y) (u.put _ _) rfl hs (hk.trans (mJ.put Z _ _)) hq
     intro W l
     rcases List.mem_cons.1 l with rfl|l
     .exact Or.inr ⟨_,λq=>af w.heap q.1 q.2,bg,rfl⟩
     .rcases hL W l with t|⟨As,N,X,h2⟩
      .exact Or.inl t
      .exact Or.inr ⟨As,N,ai _ X,h2⟩
    .refine HI (S:=λ_=>True) H A av (λN g w hc=>absurd hc (hQ _ _ _)) F c g w hC aq ab (F:=undef) (Or.inr ⟨J,rfl⟩) trivial ?_
     refine Q _ _ _ _ B _ _ _ w aj ?_ (hD.set aa) (hC.set H ab) (y.put (x:=.un) rfl Y) (u.put _ _) rfl hs (hk.trans (mJ.put Z _ _)) hq
     intro W l
     rcases List.mem_cons.1 l with rfl|l
     .exact Or.inl λ_=>trivial
     .exact hL W l
  .split at h
   .rename_i h0
    exact QE (au hD h0) (hq D g w h hR hB hs hk) _
   .rename_i rs ax
    have ar:=NL h
    refine Rz ?_ ?_
    .intro e
     apply ax
     cases I:pV done 0 b.toList U with
     |nil=>rfl
     |cons ad xs=>
      have:ad∈Region.ready .any b c:=(al hD ad).2 (by rw[I];exact bg)
      rw[e]at this
      cases this
    .intro i m
     have I:=ar i ((al hD i).1 m)
     obtain⟨o,R,A,O,p⟩:=(Iv b z hD i).1 m
     have d:b.toList[i]? =some o:=by simpa using A
     have aa:i<b.size:=(Array.getElem?_eq_some_iff.1 A).1
     rw[pU,d]at I
     simp only at I
     cases hd:sF n o.dst
     .rw[hd]at I;exact I.elim
     .rw[hd]at I
      simp only[jL]at I
      have Y:=Ej hd
      have Z:∀C,o.dst=some C->C∈Ae b.toList:=λC ah=>LH ah _ (iB d)
      unfold wpOp
      simp only[A]
      rcases Jp b hR hB o I with⟨J,s,am,y,u⟩|⟨J,s,aj,y,u⟩
      .rw[an J]
       refine .inl (QF hT hG y u o am w rfl _ _ λaD ad aw k hx aq ap hv az=>?_)
       obtain⟨aA,aB⟩:=Fy hx
       refine⟨λW l aC ab=>?_,Q _ _ _ L B M _ _ k aA hL (hD.set aa) (hC.set H m) (aq.put hv Y) (ap.put _ _) rfl (hs.trans az) (hk.trans (mJ.put Z _ _)) hq⟩
       rcases hL W l with t|⟨As,N,X,h2⟩
       .exact t k
       .rw[h2]at ab⊢
        intro q ak
        rw[aB _ X aC q ak,ab q ak]
      .rw[ae (by rw[J];simp)]
       exact⟨λW l _ ab=>ab,Q _ _ _ L B M _ _ w aj hL (hD.set aa) (hC.set H m) (y.put (x:=.un) rfl Y) (u.put _ _) rfl hs (hk.trans (mJ.put Z _ _)) hq⟩
end Go.Vc
end
section
namespace Go.Vc
variable{M:List Nat}{a:Act}{s:Sh}{y:s.ty}
variable{P:Program}{T:TT}{G:List Nat}{b:Nat}
structure Px where
 Uk:List (Nat×List (Nat×Sh))
 Vk:List (Nat×List (Nat×Sh))
 eA:List (Nat×List Nat)
def lk{α:Type}:List (Nat×α)->Nat->Option α
 |[],_=>none
 |(u,x)::r,t=>bif Nat.beq u t then some x else lk r t
def DN:Code->Option Nat
 | .region id _ _=>some id
 | .seq a b=>match DN a with
  |some i=>some i
  |none=>DN b
 | .cond _ a b=>match DN a with
  |some i=>some i
  |none=>DN b
 | .block _ c=>DN c
 | .loop c=>DN c
 | .scope c=>DN c
 |_=>none
def Wb{α:Type}(l:List (Nat×α))(c:Code):Option α:=
 match DN c with
 |some i=>lk l i
 |none=>none
def HQ:List (Nat×Sh)->Type
 |[]=>E->Prop
 |(_,s)::r=>s.ty->HQ r
def OE:List (Nat×Sh)->Type
 |[]=>E->Nat
 |(_,s)::r=>s.ty->OE r
def Ra:(s:Sh)->SV->Option s.ty
 | .I,.c (.i b)=>some b
 | .U k,.c (.u c b)=>if k=c then some b else none
 | .T,.c (.t c)=>some c
 | .T,.tt=>some true
 | .T,.ff=>some false
 | .S,.c (.s x)=>some x
 | .P,.c (.p c o)=>some (c,o)
 | .P,.c (.bp _ c o)=>some (c,o)
 | .F,.c (.fn f a d)=>some (f,a,d)
 | .F,.c (.fv q)=>some q
 | .M,.c (.mp c)=>some c
 |_,_=>none
def HU:(l:List (Nat×Sh))->HQ l->Fr->E->Prop
 |[],I,_,m=>I m
 |(t,s)::r,I,a,m=>match Ra s (iu a t)with
  |some x=>HU r (I x) a m
  |none=>False
def OK:(l:List (Nat×Sh))->HQ l->OE l->Fr->E->Nat->Prop
 |[],I,μ,_,m,N=>I m/\μ m<N
 |(t,s)::r,I,μ,a,m,N=>match Ra s (iu a t)with
  |some x=>OK r (I x) (μ x) a m N
  |none=>False
def PK:(l:List (Nat×Sh))->HQ l->Fr->(Fr->(E->Prop)->Prop)->Prop
 |[],I,a,k=>k a I
 |(t,s)::r,I,a,k=>∀x:s.ty,PK r (I x) ((t,.c (s.mk x))::a) k
def PL:(l:List (Nat×Sh))->HQ l->OE l->Fr->(Fr->(E->Prop)->(E->Nat)->Prop)->Prop
 |[],I,μ,a,k=>k a I μ
 |(t,s)::r,I,μ,a,k=>∀x:s.ty,PL r (I x) (μ x) ((t,.c (s.mk x))::a) k
def nN:List Nat->Fr->Fr
 |[],a=>a
 |t::r,a=>(t,.fX)::nN r a
def oU:Code->List Nat
 | .region _ b _=>Ae b.toList
 | .seq a b=>oU a++oU b
 | .cond _ a b=>oU a++oU b
 | .block _ c=>oU c
 | .loop c=>oU c
 |_=>[]
def qb(M:List Nat):List (Nat×Sh)->Bool
 |[]=>true
 |(t,_)::r=>vA t M&&qb M r
def Xo(x y:SV)(k:Prop):Prop:=x=y/\k
def aC(x:SV)(k:Prop):Xo x x k=k:=by simp[Xo]
def lj(A:Px)(c:Code):List Nat:=
 match Wb A.eA c with
 |some K=>K
 |none=>[]
def DJ(b:Nat)(K:List Nat):Fr->List Nat
 |[]=>[]
 |(q,_)::r=>bif Nat.ble b q&&!vA q K then q::DJ b K r else DJ b K r
def uP(b:Nat)(K:List Nat)(a:Fr):Fr:=nN (DJ b K a) a
def UQ(a b:Fr):List Nat->Prop->Prop
 |[],k=>k
 |q::K,k=>Xo (iu b q) (iu a q) (UQ a b K k)
def LR(c:Fr):Op->Option SV
 | .move x| .assign x=>match ev c x with
  | .fX=>none
  |y=>some y
 | .binOp d _ x y _=>match ev c x,ev c y with
  | .c (.i a),.c (.i b)=>match d with
   | .eql=>some (.c (.t (a==b)))
   | .neq=>some (.c (.t (a !=b)))
   | .lss=>some (.c (.t (decide (a<b))))
   | .leq=>some (.c (.t (decide (a<=b))))
   | .gtr=>some (.c (.t (decide (a>b))))
   | .geq=>some (.c (.t (decide (a>=b))))
   |_=>none
  |_,_=>none
 |_=>none
def rj(b:Nat):List Oper->Fr->Option Fr
 |[],a=>some a
 |o::r,a=>bif sF b o.dst then
  match o.guard with
  |none=>match LR a o.op with
   |some x=>rj b r (uw a o.dst x)
   |none=>none
  |some _=>none
  else none
def Wd(A:Px)(b t:Nat):Code->Fr->Option Bool
 | .region _ e false,d=>match rj b e.toList d with
  |some a=>lA (iu a t)
  |none=>none
 | .seq (.region _ e false) (.cond (.tmp u) .skip c),d=>
  match Wb A.Vk (.cond (.tmp u) .skip c)with
  |some _=>none
  |none=>bif Nat.beq u t&&vA t (oU c)then
   match rj b e.toList d with
   |some a=>match lA (iu a t),Wd A b t c a with
    |some x,some y=>some (x||y)
    |_,_=>none
   |none=>none
   else none
 |_,_=>none
def YO(A:Px)(b:Nat)(d:Operand)(a c:Code)(e:Fr):Option (Nat×Bool):=
 match d,a with
 | .tmp t,.skip=>bif vA t (oU c)then
  match Wd A b t c e with
  |some y=>some (t,y)
  |none=>none
  else none
 |_,_=>none
def uX(a:Fr)(c:Operand)(v:SV):Fr:=
 match c with
 | .tmp t=>(t,v)::a
 |_=>a
def Vv:List Oper->List Nat
 |[]=>[]
 |o::r=>lE o.after.toList::Vv r
def TO:List Nat->List Oper->List Nat
 |a,[]=>a
 |a,o::r=>TO (a++[oF a o.after.toList]) r
def qE:Code->Bool
 | .region _ b c=>!c||(ln (TO [] b.toList) b.toList (Vv b.toList) (TO [] b.toList)&&FQ b.toList (Vv b.toList) 0 b.toList (TO [] b.toList))
 | .seq a b=>qE a&&qE b
 | .cond _ a b=>qE a&&qE b
 | .block _ c=>qE c
 | .loop c=>qE c
 |_=>true
def vc(P:Program)(T:TT)(G:List Nat)(b:Nat)(A:Px):Code->Fr->E->(Exit->Fr->E->Prop)->Prop
 | .skip,c,m,Q=>Q .normal c m
 | .region id d e,c,m,Q=>
  bif e then oX P T G b d.toList (Vv d.toList) (TO [] d.toList) d.toList.length 0 c m [] (λc m=>Q .normal c m)
  else sK P T G b d.toList d.toList c m (λc m=>Q .normal c m)
 | .seq a g,c,m,Q=>match Wb A.Vk g with
  |none=>vc P T G b A a c m λ
   | .normal,e,d=>vc P T G b A g e d Q
   |h,e,d=>Q h e d
  |some l=>bif qb (oU a) l then∃K:HQ l,(vc P T G b A a c m λ
   | .normal,e,d=>UQ c e (lj A g) (HU l K e d)
   |h,e,d=>Q h e d)/\
   (PK l K (nN (oU a) (uP b (lj A g) c)) λe f=>∀d,f d->vc P T G b A g e d Q)else False
 | .cond f a g,c,m,Q=>match ev c f with
  | .tt=>vc P T G b A a c m Q
  | .ff=>vc P T G b A g c m Q
  | .c (.t x)=>match YO A b f a g c with
   |some (t,y)=>Q .normal ((t,.c (.t (x||y)))::nN (oU g) c) m
   |none=>(x=true->vc P T G b A a (uX c f .tt) m Q)/\(x=false->vc P T G b A g (uX c f .ff) m Q)
  |_=>False
 | .block id f,c,m,Q=>vc P T G b A f c m λ
  | .exit i,e,d=>bif Nat.beq i id then Q .normal e d else Q (.exit i) e d
  |h,e,d=>Q h e d
 | .loop f,c,m,Q=>match Wb A.Uk f with
  |none=>False
  |some l=>bif qb (oU f) l then∃(I:HQ l)(μ:OE l),HU l I c m/\
   (PL l I μ (nN (oU f) (uP b (lj A f) c)) λe j μ'=>∀d,j d->vc P T G b A f e d λ
    | .normal,g,i=>UQ c g (lj A f) (OK l I μ g i (μ' d))
    |h,g,i=>Q h g i)else False
 | .exit id,c,m,Q=>Q (.exit id) c m
 | .ret,c,m,Q=>Q .ret c m
 |_,_,_,_=>False
def mJ.mono{b:List Nat}{c:Act}(h:mJ M a c)(e:∀t∈M,t∈b):mJ b a c:=λt f=>h t λd=>f (e t d)
def Cl:∀(M:List Nat)(a:Fr)(t:Nat),(t∈M/\iu (nN M a) t=.fX)\/(t∉M/\iu (nN M a) t=iu a t)
 |[],_,_=>Or.inr ⟨aL,rfl⟩
 |u::M,a,t=>by
  simp only[nN,iu];cases d:Nat.beq u t
  .have f:u≠t:=λe=>by subst e;simp at d
   rcases Cl M a t with⟨b,c⟩|⟨b,c⟩
   .exact Or.inl ⟨ai _ b,c⟩
   .exact Or.inr ⟨by simp only[aV,vS];exact⟨λe=>f e.symm,b⟩,c⟩
  .have:=bq d;subst this;exact Or.inl ⟨bg,rfl⟩
def AG{d:Fr}{c:Act}(g:ka b d a)(j:c.tmps.size=b)(hd:c.defers=[])(i:mJ M a c):ka b (nN M d) c:=by
 refine⟨j,hd,λt=>?_⟩;rcases Cl M d t with⟨_,h⟩|⟨e,f⟩
 .rw[h];trivial
 .rw[f,i t e];exact g.aH t
def ka.nN{c:Fr}{a:Act}(d:ka b c a):∀(M:List Nat),ka b (nN M c) a
 |[]=>d
 |t::M=>(ka.nN d M).fX t
def Bx.nN{a:Fr}{m:E}(h:Bx b a m):∀(M:List Nat),Bx b (nN M a) m
 |[]=>h
 |t::M=>(Bx.nN h M).fX aL
def NQ{K:List Nat}{q:Nat}(d:b<=q)(c:q∉K):∀{a:Fr},q∈DJ b K a\/iu a q=.fX
 |[]=>Or.inr rfl
 |(u,x)::r=>by
  simp only[DJ,iu];cases i:Nat.beq u q
  .rcases NQ d c (a:=r)with h|h
   .left;cases(Nat.ble b u&&!vA u K)
    .exact h
    .exact ai _ h
   .exact Or.inr h
  .have:=bq i;subst this;have f:vA u K=false:=by
    cases g:vA u K
    .rfl
    .exact absurd (Ik g) c
   have e:Nat.ble b u=true:=Ya d;simp[f,e]
def Li{b c:Fr}:∀{K:List Nat}{k:Prop},UQ b c K k->(∀q∈K,iu c q=iu b q)/\k
 |[],k,h=>⟨aL,h⟩
 |q::K,k,h=>by
  obtain⟨d,e⟩:=Li h.2;refine⟨λu a=>?_,e⟩;rcases List.mem_cons.1 a with rfl|a
  .exact h.1
  .exact d u a
def Bx.lj{K:List Nat}{c j:Fr}{v p:E}(h:Bx b c v)(r:Bx b j p)(s:∀q∈K,iu j q=iu c q):Bx b (Vc.nN M (uP b K c)) p:=by
 have i:∀{q d e l},lP (Vc.nN M (uP b K c)) q d e l->lP c q d e l/\lP j q d e l:=by
  intro q d e l a;have f:iu (Vc.nN M (uP b K c)) q=iu (uP b K c) q\/iu (Vc.nN M (uP b K c)) q=.fX:=by
   rcases Cl M (uP b K c) q with⟨_,h⟩|⟨_,h⟩
   .exact Or.inr h
   .exact Or.inl h
  unfold lP at a;rcases f with f|f
  .rw[f]at a;unfold uP at a;rcases Cl (DJ b K c) c q with⟨_,g⟩|⟨k,g⟩
   .rw[g]at a;simp at a
   .rw[g]at a;have t:b<=q:=h.key q d e l a;by_cases o:q∈K
    .refine⟨a,?_⟩;unfold lP;rw[s q o];exact a
    .rcases NQ (b:=b) t o (a:=c)with m|m
     .exact absurd m k
     .rw[m]at a;simp at a
  .rw[f]at a;simp at a
 exact⟨λq d e l a=>r.D q d e l (i a).2,λq w d e l m o u t k g=>h.OO q w d e l m o u t (i k).1 (i g).1,λq d e l a=>h.key q d e l (i a).1⟩
def SR{x:SV}(h:Ra s x=some y):x.jM=true/\x.v=(s.mk y).v:=by
 unfold Ra at h;split at h<;>first|(simp at h;subst h;exact⟨rfl,rfl⟩)|skip
 .split at h
  .rename_i a;subst a;simp at h;subst h;exact⟨rfl,rfl⟩
  .simp at h
 .simp at h
def LY{d cr:Fr}{t:Nat}(g:ka b d a)(c:ka b cr a)(h:Ra s (iu d t)=some y):ka b ((t,.c (s.mk y))::cr) a:=by
 refine⟨c.size,c.defers,λu=>?_⟩;simp only[iu];cases i:Nat.beq t u
 .exact c.aH u
 .have:=bq i;subst this;have e:=g.aH t;obtain⟨j,k⟩:=SR h;have f:=e.eq j;show _=_;rw[f,k];rfl
def Tz:(l:List (Nat×Sh))->HQ l->OE l->Fr->Fr->(E->Prop)->(E->Nat)->Prop
 |[],I,μ,b,c,a,μ'=>c=b/\a=I/\μ'=μ
 |(t,s)::r,I,μ,b,c,a,μ'=>∃x:s.ty,Tz r (I x) (μ x) ((t,.c (s.mk x))::b) c a μ'
def NM:∀{l:List (Nat×Sh)}{I:HQ l}{μ:OE l}{b:Fr}{k:Fr->(E->Prop)->(E->Nat)->Prop},PL l I μ b k->∀{fr' I' μ'},Tz l I μ b fr' I' μ'->k fr' I' μ'
 |[],_,_,_,_,h,_,_,_,a=>by obtain⟨rfl,rfl,rfl⟩:=a;exact h
 |(t,s)::r,_,_,_,_,h,_,_,_,a=>by obtain⟨x,a⟩:=a;exact NM (h x) a
def Sh.Un(s:Sh)(x:s.ty)(b e:Nat)(l:List Ce):SV.c (s.mk x)≠.box b e l/\SV.c (s.mk x)≠.zZ b e l:=⟨aL,aL⟩
def NP{a:Act}{g:Fr}(i:ka b g a):∀{l:List (Nat×Sh)}{I:HQ l}{μ:OE l}{cr:Fr}{m:E}{N:Nat},ka b cr a->Bx b cr m->OK l I μ g m N->
 ∃c d μ',Tz l I μ cr c d μ'/\ka b c a/\Bx b c m/\d m/\μ' m<N
 |[],I,μ,cr,_,_,f,e,h=>⟨cr,I,μ,⟨rfl,rfl,rfl⟩,f,e,h.1,h.2⟩
 |(t,s)::r,I,μ,cr,m,N,f,e,h=>by
  simp only[OK]at h;split at h
  .rename_i x p;obtain⟨c,d,μ',j,k,n,o⟩:=NP i (LY i f p) (e.fX (s.Un x)) h;exact⟨c,d,μ',⟨x,j⟩,k,n,o⟩
  .exact h.elim
def NO{a:Act}{g:Fr}(i:ka b g a):∀{l:List (Nat×Sh)}{I:HQ l}{μ:OE l}{cr:Fr}{m:E},ka b cr a->Bx b cr m->HU l I g m->
 ∃c d μ',Tz l I μ cr c d μ'/\ka b c a/\Bx b c m/\d m
 |[],I,μ,cr,_,f,e,h=>⟨cr,I,μ,⟨rfl,rfl,rfl⟩,f,e,h⟩
 |(t,s)::r,I,μ,cr,m,f,e,h=>by
  simp only[HU]at h;split at h
  .rename_i x o;obtain⟨c,d,μ',j,k,n⟩:=NO i (LY i f o) (e.fX (s.Un x)) h;exact⟨c,d,μ',⟨x,j⟩,k,n⟩
  .exact h.elim
def PO{a:Act}{i:Fr}(j:ka b i a):∀{l:List (Nat×Sh)}{I:HQ l}{cr:Fr}{m:E}{k:Fr->(E->Prop)->Prop},ka b cr a->Bx b cr m->HU l I i m->PK l I cr k->
 ∃c g,k c g/\ka b c a/\Bx b c m/\g m
 |[],I,cr,_,_,e,d,h,f=>⟨cr,I,f,e,d,h⟩
 |(t,s)::r,I,cr,m,k,e,d,h,f=>by
  simp only[HU]at h;split at h
  .rename_i x n;exact PO j (LY j e n) (d.fX (s.Un x)) h (f x)
  .exact h.elim
def Tj{l:Code}{Q:Exit->Act->World->Prop}(b:Nat->Act->World->Prop)
 (r:∀N a w,b N a w->l.wp P (Exit.then (λg k=>∃d,d<N/\b d g k) Q) a w):∀N a w,b N a w->(Code.loop l).wp P Q a w:=by
 have q:∀N a w,b N a w->∃M,b M a w/\∀c,c<M->¬b c a w:=by
  intro N;induction N using Nat.strongRecOn with
  |_ N j=>
   intro a w h;by_cases e:∃c,c<N/\b c a w
   .obtain⟨c,f,i⟩:=e;exact j c f a w i
   .exact⟨N,h,λc i f=>e ⟨c,i,f⟩⟩
 intro N a w o
 classical
 let μ:Act->World->Nat:=λa w=>if h:∃M,b M a w/\∀c,c<M->¬b c a w then Classical.choose h else 0
 have hμ:∀a w N,b N a w->b (μ a w) a w/\μ a w<=N:=by
  intro a w N h;have e:=q N a w h;have i:μ a w=Classical.choose e:=Tp e;have n:=fO e;rw[i];refine⟨n.1,?_⟩;rcases aW N (Classical.choose e)with j|p
  .exact absurd h (n.2 N j)
  .exact p
 refine wp_loop (λa w=>∃N,b N a w) μ ⟨N,o⟩ ?_
 rintro a w ⟨N,h⟩
 refine Code.wp_mono ?_ (r (μ a w) a w (hμ a w N h).1)
 intro i g k m
 cases i with
 |normal=>
  obtain⟨d,j,f⟩:=m
  exact⟨⟨d,f⟩,nP (hμ g k d f).2 j⟩
 |_=>exact m
end Go.Vc
end
section
namespace Go.Vc
variable{i w:World}{j p:List Nat}{l a:Act}{f:Exit->Fr->E->Prop}{e:Exit}{b:E}
variable{g:Program}{h:TT}{G:List Nat}{d:Nat}{o:Px}
def kA(d:Nat)(i:World)(j:List Nat)(l:Act)(f:Exit->Fr->E->Prop):Exit->Act->World->Prop
 | .panic _,_,_=>False
 | .outgrown,_,_=>False
 |e,a,w=>∃b,ka d b a/\Bx d b w.heap/\pI i w/\mJ j l a/\f e b w.heap
def kA.mk{b:Fr}(g:(∀c,e≠.panic c)/\e≠.outgrown)
 (k:ka d b a)(h:Bx d b w.heap)(o:pI i w)(m:mJ j l a)(n:f e b w.heap):kA d i j l f e a w:=by
 cases e with
 |panic c=>exact absurd rfl (g.1 c)
 |outgrown=>exact absurd rfl g.2
 |_=>exact⟨b,k,h,o,m,n⟩
def kA.aS(h:kA d i j l f e a w):
 ((∀c,e≠.panic c)/\e≠.outgrown)/\∃b,ka d b a/\Bx d b w.heap/\pI i w/\mJ j l a/\f e b w.heap:=by
 cases e with
 |panic c=>exact h.elim
 |outgrown=>exact h.elim
 |_=>exact⟨⟨aL,aL⟩,h⟩
def kA.left(h:kA d i j l f e a w):kA d i (j++p) l f e a w:=by
 obtain⟨g,q,c,b,n,k,m⟩:=h.aS;exact kA.mk g c b n (k.mono (λt o=>bK _ o)) m
def kA.right(h:kA d i j l f e a w):kA d i (p++j) l f e a w:=by
 obtain⟨g,q,c,b,n,k,m⟩:=h.aS;exact kA.mk g c b n (k.mono (λt o=>eE _ o)) m
def Ta{f:Fr}{e:Op}{x:SV}{k:SV->Prop}(c:LR f e=some x)(d:k x):LA e=false/\rd h f b k e:=by
 unfold LR at c;split at c
 .split at c
  .simp at c
  .simp at c;subst c;exact⟨rfl,d⟩
 .split at c
  .simp at c
  .simp at c;subst c;exact⟨rfl,d⟩
 .rename_i o t y z l;split at c
  .rename_i a j g i;refine⟨rfl,?_⟩;simp only[rd,g,i];split at c<;>simp at c<;>subst c<;>exact d
  .simp at c
 .simp at c
def Ez(j:List Oper){b:E}{i:Fr->E->Prop}:∀{n:List Oper}{c e:Fr},rj d n c=some e->i e b->sK g h G d j n c b i
 |[],c,e,a,f=>by simp[rj]at a;subst a;exact f
 |o::s,c,e,a,f=>by
  simp only[rj]at a;simp only[sK];cases hd:sF d o.dst
  .rw[hd]at a;simp at a
  .rw[hd]at a;simp only[jL]at a⊢;cases l:o.guard with
   |some p=>rw[l]at a;simp at a
   |none=>
    rw[l]at a;simp only[gd]at a⊢;split at a
    .rename_i x r;obtain⟨p,q⟩:=Ta (h:=h) (b:=b) (k:=λx=>sK g h G d j s (uw c o.dst x) b i) r (Ez j a f);rw[p];exact q
    .simp at a
def Ur(p:Nat){b:E}{f:Exit->Fr->E->Prop}:∀(k:Code)(n:Fr)(y:Bool),Wd o d p k n=some y->(∀i,lA (iu i p)=some y->f .normal i b)->vc g h G d o k n b f
 | .region id A e,n,y,a,m=>by
  cases e
  .simp only[Wd]at a;simp only[vc,mO];split at a
   .rename_i i q;exact Ez _ q (m i a)
   .simp at a
  .simp[Wd]at a
 | .seq (.region id A false) (.cond (.tmp u) .skip k),n,y,a,m=>by
  simp only[Wd]at a;split at a
  .simp at a
  .rename_i w;cases l:(Nat.beq u p&&vA p (oU k))
   .rw[l]at a;simp at a
   .rw[l]at a;simp only[jL]at a;simp only[bM]at l;have z:=bq l.1;subst z;split at a
    .rename_i i q;split at a
     .rename_i C B e r;simp at a;subst a;rw[vc,w];simp only;rw[vc];simp only[mO];refine Ez _ q ?_;rw[vc];have x:ev i (.tmp u)=(iu i u).nb:=rfl;rw[x];cases j:iu i u with
      |tt=>
       rw[j]at e;simp[lA]at e;subst e;simp only[SV.nb,vc];exact m i (by rw[j];simp[lA])
      |ff=>
       rw[j]at e;simp[lA]at e;subst e;simp only[SV.nb];exact Ur u k i B r (λs v=>m s (by simpa using v))
      |c s=>
       cases s with
       |t v=>
        rw[j]at e;simp[lA]at e;subst e;simp only[SV.nb,YO,l.2,jL,r];exact m _ (by simp[iu,lA])
       |_=>rw[j]at e;simp[lA]at e
      |_=>rw[j]at e;simp[lA]at e
     .simp at a
    .simp at a
def UD(hT:uN g h)(hG:UY g G)(au:g.follows .mixedOrders=true)(i:World):∀(D:Code),qE D=true->∀(l:Fr)(b:E)(f:Exit->Fr->E->Prop)(a:Act)(w:World),
 vc g h G d o D l b f->ka d l a->Bx d l b->w.heap=b->pI i w->D.wp g (kA d i (oU D) a f) a w:=by
 intro D
 induction D with
 |skip=>
  intro hd l b f a w c k s x t
  subst x
  exact wp_skip ⟨l,k,s,t,mJ.az _ _,c⟩
 |region id p z=>
  intro hd l b f a w c k s x t
  simp only[vc]at c
  cases z
  .simp only[mO]at c
   refine wp_region_list ?_
   exact vo hT hG p p.toList l b (f .normal) a w (λ_ c=>c) c k s x t (mJ.az _ _) λB I S j r v u q=>⟨B,r,v,u,q,j⟩
  .simp only[jL]at c
   simp only[qE,Ou,VG,bM]at hd
   refine wp_region_any au (MH (e:=λy C=>Nat.testBit (uy (TO [] p.toList) y) C) (L:=[]) _ _ _ _ ?_)
   have F:p.toList.length=p.size:=aL
   rw[F]at c
   refine Pt hT hG p _ _ hd.1 hd.2 (λD a w hx=>hx) (w0:=i) (a0:=a) p.size 0 l b [] (f .normal) [] _ a _ c (λC hx=>by cases hx) ⟨aL,λy=>by simp[VF];split<;>rfl⟩ (λy hi=>by simp[VF]at hi;split at hi<;>simp at hi) k s x ⟨t.os,t.tape,t.output⟩ (mJ.az _ _) λB I S j r v u q=>⟨B,r,v,u,q,j⟩
 |seq C U ac X=>
  intro hd l b f a w c k s x t
  simp only[vc]at c
  simp only[qE,bM]at hd
  refine wp_seq ?_
  split at c
  .refine Code.wp_mono ?_ (ac hd.1 l b _ a w c k s x t)
   intro e I S j
   obtain⟨p,B,r,v,u,z,j⟩:=j.aS
   cases e with
   |normal=>
    refine Code.wp_mono ?_ (X hd.2 B _ f I S j r v rfl u)
    intro e R aa j
    obtain⟨p,V,J,F,O,K,j⟩:=j.aS
    exact kA.mk p J F O ((z.mono (λH q=>bK _ q)).trans (K.mono (λH q=>eE _ q))) j
   |panic D=>exact absurd rfl (p.1 D)
   |outgrown=>exact absurd rfl p.2
   |exit y=>exact kA.mk (e:=.exit y) p r v u (z.mono (λH q=>bK _ q)) j
   |goto y=>exact kA.mk (e:=.goto y) p r v u (z.mono (λH q=>bK _ q)) j
   |ret=>exact kA.mk (e:=.ret) p r v u (z.mono (λH q=>bK _ q)) j
  .rename_i N hl
   cases ab:qb (oU C) N
   .rw[ab]at c;exact c.elim
   rw[ab]at c
   obtain⟨ad,h1,W⟩:=c
   refine Code.wp_mono ?_ (ac hd.1 l b _ a w h1 k s x t)
   intro e I S j
   obtain⟨p,B,r,v,u,z,j⟩:=j.aS
   cases e with
   |normal=>
    obtain⟨af,j⟩:=Li j
    obtain⟨ag,K',h3,Y,Z,h5⟩:=PO r (AG (k.nN _) r.size r.defers z) (Bx.lj s v af) j W
    refine Code.wp_mono ?_ (X hd.2 ag _ f I S (h3 _ h5) Y Z rfl u)
    intro e R aa j
    obtain⟨p,V,J,F,O,K,j⟩:=j.aS
    exact kA.mk p J F O ((z.mono (λH q=>bK _ q)).trans (K.mono (λH q=>eE _ q))) j
   |panic D=>exact absurd rfl (p.1 D)
   |outgrown=>exact absurd rfl p.2
   |exit y=>exact kA.mk (e:=.exit y) p r v u (z.mono (λH q=>bK _ q)) j
   |goto y=>exact kA.mk (e:=.goto y) p r v u (z.mono (λH q=>bK _ q)) j
   |ret=>exact kA.mk (e:=.ret) p r v u (z.mono (λH q=>bK _ q)) j
 |cond ad C U ac X=>
  intro hd l b f a w c k s x t
  simp only[vc]at c
  simp only[qE,bM]at hd
  have aj:∀{K:Bool},a.eval ad=.bool K->ka d (uX l ad (if K then .tt else .ff)) a:=by
   intro K F;unfold uX;split
   .rename_i H;refine⟨k.size,k.defers,λR=>?_⟩;simp only[iu];cases Y:Nat.beq H R
    .exact k.aH R
    .have:=bq Y;subst this;cases K<;>exact F
   .exact k
  have ak:∀{C:SV},(∀K e N,C≠.box K e N/\C≠.zZ K e N)->Bx d (uX l ad C) b:=by
   intro C hx;unfold uX;split
   .exact s.fX hx
   .exact s
  split at c
  .rename_i Z
   exact wp_cond_true (k.eq Z rfl) (Code.wp_mono (λ_ _ _ c=>c.left) (ac hd.1 l b f a w c k s x t))
  .rename_i Z
   exact wp_cond_false (k.eq Z rfl) (Code.wp_mono (λ_ _ _ c=>c.right) (X hd.2 l b f a w c k s x t))
  .rename_i K Z
   have aa:a.eval ad=.bool K:=k.eq Z rfl
   split at c
   .rename_i H y' J
    unfold YO at J
    split at J
    .rename_i O
     cases ai:vA O (oU U)
     .rw[ai]at J;simp at J
     .rw[ai]at J
      simp only[jL]at J
      split at J
      .rename_i y0 ao
       simp at J
       obtain⟨rfl,rfl⟩:=J
       have am:a.tmps.getD O undef=.bool K:=aa
       refine wp_cond_split aa (λq=>?_) (λq=>?_)
       .subst x
        subst q
        refine wp_skip (kA.mk (e:=.normal) (b:=(O,.c (.t (true||y0)))::nN (oU U) l) ⟨aL,aL⟩ ?_ ((s.nN _).fX aL) t (mJ.az _ _) c)
        have F:=AG (M:=oU U) k k.size k.defers (mJ.az _ a)
        refine⟨F.size,F.defers,λR=>?_⟩
        simp only[iu]
        cases Y:Nat.beq O R
        .exact F.aH R
        .have:=bq Y
         subst this
         simpa[SV.Is,SV.v,Ce.v]using am
       .subst q
        have hv:=Ur (g:=g) (h:=h) (G:=G) (o:=o) (d:=d) O (b:=b) (f:=λe B V=>e=.normal/\V=b/\lA (iu B O)=some y0) U l y0 ao (λB V=>⟨rfl,rfl,V⟩)
        refine Code.wp_mono ?_ (X hd.2 l b _ a w hv k s x t)
        intro e I S j
        obtain⟨p,B,r,v,u,z,rfl,ah,al⟩:=j.aS
        refine kA.mk (e:=.normal) (b:=(O,.c (.t (false||y0)))::nN (oU U) l) p ?_ (by rw[ah];exact(s.nN _).fX aL) u (z.mono (λH q=>eE _ q)) (by rw[ah];exact c)
        have F:=AG (M:=oU U) k r.size r.defers z
        refine⟨F.size,F.defers,λR=>?_⟩
        simp only[iu]
        cases Y:Nat.beq O R
        .exact F.aH R
        .have:=bq Y
         subst this
         obtain⟨V,W⟩:=xh al
         have h3:=(r.aH O).eq V
         rw[W]at h3
         simpa[SV.Is,SV.v,Ce.v]using h3
      .simp at J
    .simp at J
   .refine wp_cond_split aa (λq=>?_) (λq=>?_)
    .subst q
     exact Code.wp_mono (λ_ _ _ c=>c.left) (ac hd.1 _ b f a w (c.1 rfl) (aj aa) (ak aL) x t)
    .subst q
     exact Code.wp_mono (λ_ _ _ c=>c.right) (X hd.2 _ b f a w (c.2 rfl) (aj aa) (ak aL) x t)
  .exact c.elim
 |block id C J=>
  intro hd l b f a w c k s x t
  simp only[vc]at c
  refine wp_block (Code.wp_mono ?_ (J hd l b _ a w c k s x t))
  intro e I S j
  obtain⟨p,B,r,v,u,z,j⟩:=j.aS
  cases e with
  |exit y=>
   simp only[Exit.inBlock]
   simp only at j
   cases F:Nat.beq y id
   .rw[F]at j
    have q:y≠id:=λe=>by subst e;simp at F
    rw[ae q]
    exact kA.mk (e:=.exit y) p r v u z j
   .rw[F]at j
    rw[an (bq F)]
    exact kA.mk (e:=.normal) ⟨aL,aL⟩ r v u z j
  |normal=>exact kA.mk (e:=.normal) p r v u z j
  |panic D=>exact absurd rfl (p.1 D)
  |outgrown=>exact absurd rfl p.2
  |goto y=>exact kA.mk (e:=.goto y) p r v u z j
  |ret=>exact kA.mk (e:=.ret) p r v u z j
 |loop C J=>
  intro hd l b f a w c k s x t
  subst x
  simp only[vc]at c
  split at c
  .exact c.elim
  .rename_i N hl
   cases ab:qb (oU C) N
   .rw[ab]at c;exact c.elim
   rw[ab]at c
   obtain⟨O,μ,h0,h1⟩:=c
   let Y:Nat->Act->World->Prop:=λK I w=>∃B H μ',Tz N O μ (nN (oU C) (uP d (lj o C) l)) B H μ'/\ka d B I/\Bx d B w.heap/\H w.heap/\μ' w.heap=K/\pI i w/\mJ (oU C) a I
   obtain⟨aa,R,μ1,ap,al,ad,aj⟩:=NO (μ:=μ) k (AG (k.nN _) k.size k.defers (mJ.az (oU C) a)) (Bx.lj s s (λ_ _=>rfl)) h0
   refine Tj Y ?_ (μ1 w.heap) a w ⟨aa,R,μ1,ap,al,ad,aj,rfl,t,mJ.az _ _⟩
   rintro K Z w ⟨B,H,μ',hi,r,v,ai,rfl,u,V⟩
   have ao:=NM h1 hi w.heap ai
   refine Code.wp_mono ?_ (J hd B w.heap _ Z w ao r v rfl u)
   intro e I S j
   obtain⟨p,ag,q,z,F,W,j⟩:=j.aS
   cases e with
   |normal=>
    obtain⟨af,j⟩:=Li j
    obtain⟨ac,X,μ3,aq,am,ah,ak,ar⟩:=NP q (AG (k.nN _) q.size q.defers (V.trans W)) (Bx.lj s z af) j
    exact⟨_,ar,ac,X,μ3,aq,am,ah,ak,rfl,F,V.trans W⟩
   |panic D=>exact absurd rfl (p.1 D)
   |outgrown=>exact absurd rfl p.2
   |exit y=>exact kA.mk (e:=.exit y) p q z F (V.trans W) j
   |goto y=>exact kA.mk (e:=.goto y) p q z F (V.trans W) j
   |ret=>exact kA.mk (e:=.ret) p q z F (V.trans W) j
 |exit id=>
  intro hd l b f a w c k s x t
  subst x
  exact wp_exit ⟨l,k,s,t,mJ.az _ _,c⟩
 |ret=>
  intro hd l b f a w c k s x t
  subst x
  exact wp_ret ⟨l,k,s,t,mJ.az _ _,c⟩
 |rangeFunc j k C U _ _=>intro _ l b f a w c;exact c.elim
 |scope C _=>intro _ l b f a w c;exact c.elim
 |label N=>intro _ l b f a w c;exact c.elim
 |goto N=>intro _ l b f a w c;exact c.elim
 |refuse s=>intro _ l b f a w c;exact c.elim
def uO:Nat->List SV->Fr
 |_,[]=>[]
 |i,x::r=>(i,x)::uO (i+1) r
def GJ(h:TT)(a:Fr)(b:E):List ResultVar->(List SV->Prop)->Prop
 |[],k=>k []
 | .tmp t::r,k=>bif (iu a t).jM then GJ h a b r λl=>k (iu a t::l)else False
 | .cell p t::r,k=>rd h a b (λx=>bif x.jM then GJ h a b r λl=>k (x::l)else False) (.load t (.tmp p))
def Xy(h:TT)(c:List ResultVar)(a:Fr)(b:E)(R:Value->E->Prop):Prop:=
 GJ h a b c λ
  |[x]=>R x.v b
  |l=>R (.tuple (l.map SV.v).toArray) b
def Ti(g:Program)(h:TT)(G:List Nat)(o:Px)(d:Nat)(c:List ResultVar)(f:Code)(e:List SV)(b:E)(R:Value->E->Prop):Prop:=
 vc g h G d o f (uO 0 e) b λ
  | .normal,a,b=>Xy h c a b R
  | .ret,a,b=>Xy h c a b R
  |_,_,_=>False
def HV:∀(a:List SV)(i t:Nat),(t<i/\iu (uO i a) t=.fX)\/(i<=t/\iu (uO i a) t=a.getD (t -i) .fX)
 |[],i,t=>by
  rcases aW t i with h|h
  .exact Or.inl ⟨h,rfl⟩
  .exact Or.inr ⟨h,by simp[uO,iu]⟩
 |x::r,i,t=>by
  simp only[uO,iu];cases c:Nat.beq i t
  .have f:i≠t:=λe=>by subst e;simp at c
   rcases HV r (i+1) t with⟨d,b⟩|⟨d,b⟩
   .exact Or.inl ⟨V,b⟩
   .refine Or.inr ⟨V,?_⟩;have e:t -i=(t -(i+1))+1:=V;rw[e,List.getD_cons_succ];exact b
  .have:=bq c;subst this;exact Or.inr ⟨ad _,aL⟩
def LZ(a:Array Value):ResultVar->Sem Value
 | .tmp t=>pure (a.getD t undef)
 | .cell p t=>do loadVar t (<-asAddr (a.getD p undef))
def Rp(b:Func)(c:Array Value):results b c=(do
 let a<-b.results.mapM (LZ c)
 pure (if h:a.size=1 then a[0]else .tuple a)):=by
 unfold results
 congr 2
def Iw{i:Fr}{a:Act}(v:uN g h)(f:ka d i a):∀(D:List ResultVar)(k:List SV->Prop)(w:World),Bx d i w.heap->GJ h i w.heap D k->
 ∃p,k p/\(D.mapM (LZ a.tmps)).run g w=.ok (p.map SV.v) w
 |[],k,w,_,b=>⟨[],b,aL⟩
 | .tmp t::A,k,w,j,b=>by
  simp only[GJ]at b;cases c:(iu i t).jM
  .rw[c]at b;exact b.elim
  .rw[c]at b;obtain⟨p,s,u⟩:=Iw v f A _ w j b;refine⟨_,s,?_⟩;have z:=(f.aH t).eq c;have r:LZ a.tmps (.tmp t)=pure (a.tmps.getD t undef):=rfl;simp only[UJ,Sem.run_bind,Sem.run_pure,Result.andThen_ok,u,cK,z,r]
 | .cell q t::A,k,w,j,m=>by
  obtain⟨E,B,n,z,b⟩:=LU (P:=g) v f j ⟨none,.load t (.tmp q),0,"",#[],none⟩ m;have b:=b w (λC _=>rfl);cases x:E.jM
  .rw[x]at n;exact n.elim
  rw[x]at n;obtain⟨p,s,u⟩:=Iw v f A _ w j n;refine⟨_,s,?_⟩;have G:∃c o,a.tmps.getD q undef=.pointer (some ⟨c,o,none⟩):=by
   have l:=SV.Uo (f.aH q);simp only[GJ,rd,ev]at m;split at m
   .rename_i c o y;rw[y]at l;exact⟨c,o,l⟩
   .rename_i C c o y;rw[y]at l;exact⟨c,o,l⟩
   .exact m.elim
  obtain⟨c,o,y⟩:=G;simp only[execOp,Instr.loadAt,Act.eval,y,Instr.sureAddr,Sem.run_bind,Sem.run_pure,Result.andThen_ok]at b;have F:(loadVar t ⟨c,o,none⟩).run g w=.ok B w:=by
   cases C:(loadVar t ⟨c,o,none⟩).run g w with
   |ok I H=>
    rw[C]at b;simp at b;rw[b.1,b.2]
   |halt e H=>rw[C]at b;simp at b
  have H:B=E.v:=z.eq x;have r:(LZ a.tmps (.cell q t)).run g w=.ok B w:=by
   simp only[LZ,y,Sem.run_bind,asAddr,Sem.run_pure,Result.andThen_ok,F]
  simp only[UJ,Sem.run_bind,Sem.run_pure,Result.andThen_ok,r,u,cK,H]
def yu(z:uN g h)(K:UY g G)(O:g.follows .mixedOrders=true){y:FuncId}{i:Func}{m:Code}{r:List ResultVar}{a:List SV}{R:Value->E->Prop}
 (N:g.funcs[y]? =some i)(M:i.body=some m)(P:i.ntmps=d)(S:i.results=r.toArray)(A:a.all SV.jM=true)(X:a.length<=d)(hd:qE m=true)
 (j:Ti g h G o d r m a b R):aN g y (a.map SV.v) b R:=by
 intro w U
 refine calls_of_wp N M ?_
 have L:ka d (uO 0 a) {tmps:=(a.map SV.v).toArray++Array.replicate (i.ntmps -(a.map SV.v).toArray.size) undef,defers:=[]}:=by
  refine⟨by simp[P];omega,rfl,λt=>?_⟩;rcases HV a 0 t with⟨n,_⟩|⟨_,p⟩
  .omega
  .rw[p,XJ];rcases aW t a.length with k|s
   .have u:(a[t]).jM=true:=List.all_eq_true.1 A _ (List.getElem_mem k);have c:a.getD t .fX=a[t]:=by simp[k]
    rw[c];have f:((a.map SV.v).toArray++Array.replicate (i.ntmps -(a.map SV.v).toArray.size) undef).getD t undef=(a[t]).v:=by
     simp[Array.getElem?_append,k]
    rw[f];exact nW _
   .have c:a.getD t .fX=.fX:=by simp[cN s]
    rw[c];trivial
 have v:∀{q x e l},¬lP (uO 0 a) q x e l:=by
  intro q x e l f;rcases HV a 0 q with⟨n,_⟩|⟨_,p⟩
  .omega
  .unfold lP at f;rw[p,XJ]at f;rcases aW q a.length with k|s
   .have u:(a[q]).jM=true:=List.all_eq_true.1 A _ (List.getElem_mem k);have c:a.getD q .fX=a[q]:=by simp[k]
    rw[c]at f;rcases f with f|f<;>rw[f]at u<;>simp[SV.jM]at u
   .have c:a.getD q .fX=.fX:=by simp[cN s]
    rw[c]at f;simp at f
 have I:Bx d (uO 0 a) b:=⟨λ_ _ _ _ j=>absurd j v,λ_ _ _ _ _ _ _ _ _ j=>absurd j v,λ_ _ _ _ j=>absurd j v⟩
 refine Code.wp_mono ?_ (UD z K O w m hd _ b _ _ w j L I U (pI.az w))
 intro e s k c
 obtain⟨B,H,u,J,T,W,c⟩:=c.aS
 have C:∀(c:Xy h r H k.heap R),s.defers=[]/\∃D,(results i s.tmps).run g k=.ok D k/\∃F,Ending.returned D=.returned F/\pI w k/\R F k.heap:=by
  intro c;refine⟨u.defers,?_⟩;obtain⟨l,n,p⟩:=Iw z u r _ k J c;have Q:(results i s.tmps).run g k=.ok (if j:(l.map SV.v).toArray.size=1 then(l.map SV.v).toArray[0]else .tuple (l.map SV.v).toArray) k:=by
   rw[Rp,S,US];simp only[Sem.run_bind,Sem.run_map];rw[p];rfl
  refine⟨_,Q,_,rfl,T,?_⟩;cases l with
  |nil=>exact n
  |cons V l=>cases l with
   |nil=>exact n
   |cons Y l=>exact n
 cases e with
 |normal=>exact C c
 |ret=>exact C c
 |exit V=>exact c.elim
 |goto V=>exact c.elim
 |panic m=>exact absurd rfl (B.1 m)
 |outgrown=>exact absurd rfl B.2
end Go.Vc
end
section
namespace Go.Vc
abbrev vi(n:Int):Value:=.int .i64 n
abbrev vb(b:Bool):Value:=.bool b
abbrev vp(b o:Nat):Value:=.pointer (some ⟨b,o,none⟩)
def OL(f:Func):Code:=
 match f.body with
 |some c=>c
 |none=>.skip
end Go.Vc
end
section
namespace Go.Vc
variable{a p:Prop}{m c d:E}{b o k f n:Nat}{v:Value}{l:List Nat}{s:O}{P:Program}{K e:Value->E->Prop}
structure J(m c:E):Prop where
 size:m.size<=c.size
 same:∀b,b<m.size->c[b]? =m[b]?
def J.az(m:E):J m m:=⟨ad _,λ_ _=>rfl⟩
def J.trans{a b c:E}(h:J a b)(k:J b c):J a c:=
 ⟨bJ h.size k.size,λi d=>(k.same i (aO d h.size)).trans (h.same i d)⟩
def J.push(m:E)(o:Obj):J m (m.push o):=
 ⟨aL,λb a=>by rw[mS,ae V]⟩
def J.aJ{a:E}(h:J a m)(o:Obj):J a (m.push o):=h.trans (J.push m o)
def J.ah{a:E}(h:J a m)(d:a.size<=b)(o:Nat)(l:List Ce):J a (ah m b o l):=
 ⟨by rw[av];exact h.size,λj c=>by rw[bd l m b o V];exact h.same j c⟩
def J.af(h:J m c)(a:af m b o=some v):af c b o=some v:=by
 rw[aE (h.same b (lC a))];exact a
def J.iE(h:J m c){l:List Ce}(e:fS m b o l):fS c b o l:=λi a d=>h.af (e i a d)
def cz.ext(h:J m c){e:Nat}{l:List Ce}(a:cz m b e l):cz c b e l:=by
 unfold cz at*;rw[h.same b (Array.getElem?_eq_some_iff.1 a).1];exact a
structure eU{α:Type}(m:E)(sz:Nat)(R:List Ce->α->Prop)(s:O)(l:List α):Prop where
 len:s.len=l.length
 cap:s.len<=s.cap
 gX:s.len<=9223372036854775807
 iE:∀(k:Nat)(x:α),l[k]? =some x->∃cs,R cs x/\fS m s.D (s.off+k*sz) cs
def eU.mono{α:Type}{d:Nat}{R b:List Ce->α->Prop}{l:List α}(h:eU m d R s l)(j:J m c)(g:∀a x,R a x->b a x):eU c d b s l:=
 ⟨h.len,h.cap,h.gX,λk x i=>let⟨a,e,f⟩:=h.iE k x i;⟨a,g _ _ e,j.iE f⟩⟩
def UZ(a:List Ce)(n:Int):Prop:=a=[.i n]
abbrev ap(m:E)(s:O)(l:List Int):Prop:=eU m 1 UZ s l
def ap.aH{l:List Int}(h:ap m s l){x:Int}(a:l[k]? =some x):af m s.D (s.off+k*1)=some (vi x):=by
 obtain⟨c,rfl,b⟩:=h.iE k x a;exact b 0 (.i x) rfl
def ap.ext(a:J m c){l:List Int}(h:ap m s l):ap c s l:=h.mono a λ_ _ h=>h
def dC{α:Type}{l:List α}(h:k<l.length):∃x,l[k]? =some x:=⟨l[k],by simp[h]⟩
def cG{α:Type}(l:List α)(k:Nat)(h:k<l.length:=by(omega)):∃x,l[k]? =some x:=dC h
def oh(x:a)(h:a->p:=by(omega)):p:=h x
def PA{b:Prop}(x:a)(y:b)(h:a->b->p:=by(omega)):p:=h x y
def sx(h:a=False:=by(simp))(x:a):p:=(h▸x:False).elim
def aw{α:Type}{l:List α}{x:α}(h:l[k]? =some x):k<l.length:=(List.getElem?_eq_some_iff.1 h).1
def aU{α:Type}{l:List α}{x:α}(h:l[k]? =some x):l.take (k+1)=l.take k++[x]:=by
 rw[List.take_add_one,h];rfl
def bY{α:Type}{l:List α}(h:l.length<=k):l.take k=l:=nO h
def FI(P:Program)(f:Nat)(a:List Value)(m:E)(v:Value):Prop:=aN P f a m λb c=>b=v/\J m c
def aN.post{a:List Value}(h:aN P f a m K)(b:∀v c,K v c->e v c):aN P f a m e:=h.mono b
def FI.then{a:List Value}(h:FI P f a m v)(d:∀c,J m c->K v c):aN P f a m K:=
 h.mono λ_ _⟨b,e⟩=>b▸d _ e
def O.Cc{t:O}:s.v=t.v<->s=t:=by
 refine⟨λh=>?_,λh=>h▸rfl⟩;cases s<;>cases t<;>simp_all [O.v]
def J.dp(h:J m c)(d:∀b∈l,b<m.size):eG l m c:=λb a=>h.same b (d b a)
def J.lt(h:J m c)(a:b<m.size):b<c.size:=aO a h.size
def J.da(h:J m c)(a:Vc.af m b o=some v):Vc.af c b o=Vc.af m b o:=by rw[h.af a,a]
def jX(h:k<n)(a:n<=9223372036854775807):cQ ((k:Int)+1)=((k+1:Nat):Int):=by rw[aQ V V];rfl
def DS(h:k<n):((n:Int) -((k+1:Nat):Int)).toNat<((n:Int) -(k:Int)).toNat:=V
def dV(g:n<=9223372036854775807){d:(Int->E->Prop)->(Int->E->Nat)->Int->E->Prop}(Q:Nat->E->Prop)(e:Q 0 m)
 (h:∀(k:Nat)(a:E)(I:Int->E->Prop)(μ:Int->E->Nat),k<=n->Q k a->
  (k<n->∀c,Q (k+1) c->I (cQ ((k:Int)+1)) c/\μ (cQ ((k:Int)+1)) c<μ k a)->d I μ k a):
 ∃(I:Int->E->Prop)(μ:Int->E->Nat),I 0 m/\∀i a,I i a->d I μ i a:=by
 refine⟨λi c=>∃k:Nat,i=k/\k<=n/\Q k c,λi _=>(n -i).toNat,⟨0,rfl,dx _,e⟩,?_⟩
 rintro i a ⟨k,rfl,f,j⟩
 refine h k a _ _ f j λb c l=>?_
 rw[jX b g]
 exact⟨⟨k+1,rfl,b,l⟩,DS b⟩
def ez{σ:Type}(l:n<=9223372036854775807){f:σ}{e:(σ->Int->E->Prop)->(σ->Int->E->Nat)->σ->Int->E->Prop}(Q:Nat->σ->E->Prop)(g:Q 0 f m)
 (h:∀(k:Nat)(s:σ)(a:E)(I:σ->Int->E->Prop)(μ:σ->Int->E->Nat),k<=n->Q k s a->
  (k<n->∀b c,Q (k+1) b c->I b (cQ ((k:Int)+1)) c/\μ b (cQ ((k:Int)+1)) c<μ s k a)->e I μ s k a):
 ∃(I:σ->Int->E->Prop)(μ:σ->Int->E->Nat),I f 0 m/\∀s i a,I s i a->e I μ s i a:=by
 refine⟨λs i c=>∃k:Nat,i=k/\k<=n/\Q k s c,λ_ i _=>(n -i).toNat,⟨0,rfl,dx _,g⟩,?_⟩
 rintro s i a ⟨k,rfl,j,o⟩
 refine h k s a _ _ j o λd b c p=>?_
 rw[jX d l]
 exact⟨⟨k+1,rfl,d,p⟩,DS d⟩
def dt(P:Program)(f:Nat)(a:List Value)(m:E)(p:Prop):Prop:=aN P f a m λv c=>∃b:Bool,v=.bool b/\(b=true<->p)/\J m c
def dt.then{a:List Value}(h:dt P f a m p)(g:∀(b:Bool) c,(b=true<->p)->J m c->K (.bool b) c):aN P f a m K:=
 h.mono λ_ _⟨b,e,d,i⟩=>e▸g b _ d i
def dt.aG{e:List Value}(i:dt P f e m p)(g:J d m)(q:∀b∈l,b<d.size)
 (o:∀(b:Bool) c,(b=true<->p)->J m c->J d c->K (.bool b) c):aN P f e m λv c=>eG l m c/\K v c:=
 i.mono λ_ _⟨b,n,j,a⟩=>⟨a.dp λh k=>g.lt (q h k),n▸o b _ j a (g.trans a)⟩
def FI.aG{e:List Value}(i:FI P f e m v)(g:J d m)(o:∀b∈l,b<d.size)
 (n:∀c,J m c->J d c->K v c):aN P f e m λv c=>eG l m c/\K v c:=
 i.mono λ_ _⟨k,a⟩=>⟨a.dp λh j=>g.lt (o h j),k▸n _ a (g.trans a)⟩
def aN.aG{a:List Value}(j:aN P f a m K)(o:J d m)(n:∀b∈l,b<d.size)
 (g:∀v c,K v c->J m c/\e v c):aN P f a m λv c=>eG l m c/\e v c:=
 j.mono λv c h=>⟨(g v c h).1.dp λi k=>o.lt (n i k),(g v c h).2⟩
def eV{b:Bool}(h:b=true<->p)(d:J m c):∃a:Bool,Value.bool b=.bool a/\(a=true<->p)/\J m c:=⟨b,rfl,h,d⟩
def bV(h:¬p)(b:J m c):∃a:Bool,Value.bool false=.bool a/\(a=true<->p)/\J m c:=⟨false,rfl,by simp[h],b⟩
def iS(h:p)(b:J m c):∃a:Bool,Value.bool true=.bool a/\(a=true<->p)/\J m c:=⟨true,rfl,by simp[h],b⟩
def nb{b:Bool}(a:b=true<->p)(h:(!b)=true):¬p:=λc=>by simp[a.2 c]at h
def yb{b:Bool}(a:b=true<->p)(h:(!b)=false):p:=a.1 (by simpa using h)
def fb{b:Bool}(a:b=true<->p)(h:b=false):¬p:=λc=>by simp[a.2 c]at h
def bC{α:Type}{l:List α}{x:α}{p:α->Prop}(c:l[k]? =some x)(h:∀y∈l.take k,p y)(b:p x):∀y∈l.take (k+1),p y:=by
 rw[aU c];intro y a;rcases List.mem_append.1 a with a|a
 .exact h y a
 .simp at a;subst a;exact b
def db{α:Type}{l:List α}{p:α->Prop}(a:l.length<=k)(h:∀y∈l.take k,p y):∀y∈l,p y:=by rw[<-bY a];exact h
def aq{α:Type}{l:List α}{x:α}(h:l[k]? =some x):x∈l:=iB h
end Go.Vc
end
section
namespace Go.Vc
variable{m:E}{s:O}{k:Nat}
structure bz where
 tm:Int
 to:Int
 cons:List (List Int)
structure Instr where
 op:Int
 dst:Int
 bQ:Int
 cp:Int
 args:List Int
 eN:List Int
structure dz where
 params:List Int
 cT:List Int
 aT:Int
 ak:Int
 dq:List Instr
structure cR where
 bo:List bz
 cF:List dz
def mU(m:E)(a:List Ce)(c:List Int):Prop:=∃f,a=[.s f]/\ap m f c
def iQ(m:E)(a:List Ce)(d:bz):Prop:=∃f,a=[.i d.tm,.i d.to,.s f]/\eU m 1 (mU m) f d.cons
def dS(m:E)(b:List Ce)(x:Instr):Prop:=∃a j,b=[.i x.op,.i x.dst,.i x.bQ,.i x.cp,.s a,.s j]/\ap m a x.args/\ap m j x.eN
def ly(m:E)(b:List Ce)(p:dz):Prop:=
 ∃a l c,b=[.s a,.s l,.i p.aT,.i p.ak,.s c]/\ap m a p.params/\ap m l p.cT/\eU m 6 (dS m) c p.dq
abbrev pE(m:E)(s:O)(l:List (List Int)):Prop:=eU m 1 (mU m) s l
abbrev cx(m:E)(s:O)(l:List bz):Prop:=eU m 3 (iQ m) s l
abbrev fq(m:E)(s:O)(l:List Instr):Prop:=eU m 6 (dS m) s l
abbrev iN(m:E)(s:O)(l:List dz):Prop:=eU m 5 (ly m) s l
structure fj(m:E)(d p:O)(im:cR):Prop where
 bo:cx m d im.bo
 cF:iN m p im.cF
def mU.ext{m b:E}(g:J m b)(a:List Ce)(c:List Int):mU m a c->mU b a c:=λ⟨f,d,e⟩=>⟨f,d,e.ext g⟩
def pE.ext{m b:E}(a:J m b){s:O}{l:List (List Int)}(h:pE m s l):pE b s l:=h.mono a (mU.ext a)
def iQ.ext{m b:E}(g:J m b)(a:List Ce)(c:bz):iQ m a c->iQ b a c:=λ⟨f,d,e⟩=>⟨f,d,pE.ext g e⟩
def cx.ext{m b:E}(a:J m b){s:O}{l:List bz}(h:cx m s l):cx b s l:=h.mono a (iQ.ext a)
def dS.ext{m d:E}(b:J m d)(a:List Ce)(c:Instr):dS m a c->dS d a c:=λ⟨e,j,f,g,h⟩=>⟨e,j,f,g.ext b,h.ext b⟩
def fq.ext{m b:E}(a:J m b){s:O}{l:List Instr}(h:fq m s l):fq b s l:=h.mono a (dS.ext a)
def ly.ext{m d:E}(a:J m d)(b:List Ce)(c:dz):ly m b c->ly d b c:=λ⟨e,l,c,f,g,h,i⟩=>⟨e,l,c,f,g.ext a,h.ext a,fq.ext a i⟩
def iN.ext{m b:E}(a:J m b){s:O}{l:List dz}(h:iN m s l):iN b s l:=h.mono a (ly.ext a)
def fj.ext{m c:E}(a:J m c){d p:O}{b:cR}(h:fj m d p b):fj c d p b:=⟨cx.ext a h.bo,iN.ext a h.cF⟩
def pE.aH{l:List (List Int)}(h:pE m s l){x:List Int}(b:l[k]? =some x):
 ∃f,ap m f x/\af m s.D (s.off+k*1)=some (O.v f):=by
 obtain⟨d,⟨f,rfl,a⟩,c⟩:=h.iE k x b
 exact⟨f,a,c 0 (.s f) rfl⟩
def cx.aH{l:List bz}(h:cx m s l){x:bz}(c:l[k]? =some x):
 ∃f,pE m f x.cons/\af m s.D (s.off+k*3)=some (vi x.tm)/\af m s.D (s.off+k*3+1)=some (vi x.to)/\af m s.D (s.off+k*3+2)=some (O.v f):=by
 obtain⟨d,⟨f,rfl,b⟩,a⟩:=h.iE k x c
 exact⟨f,b,a 0 (.i x.tm) rfl,a 1 (.i x.to) rfl,a 2 (.s f) rfl⟩
def fq.aH{l:List Instr}(h:fq m s l){x:Instr}(e:l[k]? =some x):
 ∃b j,ap m b x.args/\ap m j x.eN/\af m s.D (s.off+k*6)=some (vi x.op)/\af m s.D (s.off+k*6+1)=some (vi x.dst)/\af m s.D (s.off+k*6+2)=some (vi x.bQ)/\
  af m s.D (s.off+k*6+3)=some (vi x.cp)/\af m s.D (s.off+k*6+4)=some (O.v b)/\af m s.D (s.off+k*6+5)=some (O.v j):=by
 obtain⟨f,⟨b,j,rfl,c,d⟩,a⟩:=h.iE k x e
 exact⟨b,j,c,d,a 0 (.i x.op) rfl,a 1 (.i x.dst) rfl,a 2 (.i x.bQ) rfl,a 3 (.i x.cp) rfl,a 4 (.s b) rfl,a 5 (.s j) rfl⟩
def iN.aH{l:List dz}(h:iN m s l){x:dz}(i:l[k]? =some x):
 ∃a b c,ap m a x.params/\ap m b x.cT/\fq m c x.dq/\af m s.D (s.off+k*5)=some (O.v a)/\af m s.D (s.off+k*5+1)=some (O.v b)/\af m s.D (s.off+k*5+2)=some (vi x.aT)/\
  af m s.D (s.off+k*5+3)=some (vi x.ak)/\af m s.D (s.off+k*5+4)=some (O.v c):=by
 obtain⟨j,⟨a,b,c,rfl,e,f,g⟩,d⟩:=h.iE k x i
 exact⟨a,b,c,e,f,g,d 0 (.s a) rfl,d 1 (.s b) rfl,d 2 (.i x.aT) rfl,d 3 (.i x.ak) rfl,d 4 (.s c) rfl⟩
end Go.Vc
end
section
namespace Go.Vc
variable{g a:E}{f:Nat}{s:O}{l:List Ce}{d:List (List Ce)}
structure gZ(g a:E)(f sz:Nat)(s:O)(l:List Ce):Prop where
 len:l.length=s.len*sz
 aH:s=.nil\/∃b c tail,s=.mk b 0 s.len c/\g.size<=b/\cz a b f (l++tail)/\(l++tail).length=c*sz/\s.len<=c
def gZ.nil(g a:E)(f b:Nat):gZ g a f b .nil []:=⟨aL,Or.inl rfl⟩
def gZ.new(h:J g a)(f c:Nat)(l:List Ce)(k:Nat)(b:l.length=k*c):gZ g (a.push (.cells (bt l) f)) f c (.mk a.size 0 k k) l:=
 ⟨b,Or.inr ⟨a.size,k,[],rfl,h.size,by rw[dY];exact cz.push _ _ _,by simpa using b,ad _⟩⟩
def gZ.congr{g a d:E}{f e:Nat}{s:O}{l:List Ce}(h:gZ g a f e s l)(c:d[s.D]? =a[s.D]?):gZ g d f e s l:=by
 refine⟨h.len,?_⟩;rcases h.aH with b|⟨i,j,tail,b,h2,h3,h4,h5⟩
 .exact Or.inl b
 .refine Or.inr ⟨i,j,tail,b,h2,h3.congr ?_,h4,h5⟩;rw[b]at c;exact c
def gZ.lt{g a:E}{f c:Nat}{s:O}{l:List Ce}(h:gZ g a f c s l):s=.nil\/s.D<a.size:=by
 rcases h.aH with b|⟨d,e,tail,b,h2,h3,h4,h5⟩
 .exact Or.inl b
 .rw[b];exact Or.inr h3.lt
def gZ.ext{c:E}{d:Nat}(h:gZ g a f d s l)(e:J a c):gZ g c f d s l:=by
 rcases h.lt with b|b
 .subst b;exact⟨h.len,Or.inl rfl⟩
 .exact h.congr (e.same _ b)
def gZ.cr{c:E}{d:Nat}(h:gZ c a f d s l)(j:g.size<=c.size):gZ g a f d s l:=by
 refine⟨h.len,?_⟩;rcases h.aH with b|⟨e,i,tail,b,h2,h3,h4,h5⟩
 .exact Or.inl b
 .exact Or.inr ⟨e,i,tail,b,bJ j h2,h3,h4,h5⟩
def gZ.D{c:Nat}(h:gZ g a f c s l):s=.nil\/g.size<=s.D:=by
 rcases h.aH with b|⟨d,e,tail,b,h2,h3,h4,h5⟩
 .exact Or.inl b
 .rw[b];exact Or.inr h2
def fS.Nj{b o:Nat}{r:List Ce}(h:fS a b o (l++r)):fS a b o l:=λi d c=>h i d (by rw[ax (aw c)];exact c)
def gZ.iE{g a:E}{f e:Nat}{s:O}{l:List Ce}(h:gZ g a f e s l):fS a s.D s.off l:=by
 rcases h.aH with b|⟨i,c,tail,b,h2,h3,h4,h5⟩
 .have:l=[]:=List.length_eq_zero_iff.1 (by rw[h.len,b];simp);subst this;intro j c d;simp at d
 .rw[b];exact h3.iE.Nj
def Cu(l a tail:List Ce)(h:a.length<=tail.length):jf (l++tail) l.length a=l++a++tail.drop a.length:=by
 apply gY;intro i;rw[wD];simp only[be];by_cases b:l.length<=i/\i<l.length+a.length/\i<l.length+tail.length
 .rw[an b,fG,aK b.1,ax V]
 .rw[ae b];by_cases c:i<l.length
  .rw[ax c,fG,ax c]
  .rw[aK V,fG,aK V,aK V,sE];congr 1;omega
def gZ.append{zs:List Ce}{v:Nat}{x:O}{d:List Ce}{K:O->E->Prop}(j:gZ g a f zs.length s l)(p:J g a)
 (q:d.length=x.len*zs.length)(F:fS a x.D x.off d)(t:(s.len+x.len)*v<=140737488355328)
 (u:∀k n,gZ g n f zs.length k (l++d)->J g n->k.len=s.len+x.len->a.size<=n.size->(∀c,c<a.size->(s≠.nil->c≠s.D)->n[c]? =a[c]?)->((s=.nil/\k=.nil)\/(s≠.nil/\k.D=s.D/\k≠.nil)\/k.D=a.size)->K k n):
 jP a f zs v s x K:=by
 refine⟨d,q,F,λC=>?_,λI=>⟨t,l,j.len,j.iE,λi y=>?_⟩⟩
 .rcases j.aH with h|⟨c,i,tail,h,h2,h3,h4,h5⟩
  .subst h
   have w:x.len=0:=by simpa using C
   have A:d=[]:=List.length_eq_zero_iff.1 (by rw[q,w];simp)
   subst A
   refine⟨λB z=>by simp at z,?_⟩
   exact u .nil _ ⟨by rw[dY];exact j.len,Or.inl rfl⟩ (by simpa[ah]using p) (by simp[w]) (uq (av _ _ _ _).symm) (λc t _=>by simp[ah]) (Or.inl ⟨rfl,rfl⟩)
  .have z:=j.len
   have H:s.cap=i:=by rw[h];rfl
   rw[h]
   simp only[O.jF,O.nh,O.gJ,bT]
   simp only[be]at h4
   have B:d.length<=tail.length:=by
    have A:(s.len+x.len)*zs.length<=i*zs.length:=dg _ V;rw[gS]at A;omega
   refine⟨h3.fN (by simp only[be];omega),?_⟩
   have w:=cz.ah (m:=a) (b:=c) (e:=f) (r:=d) (o:=s.len*zs.length) h3
   rw[<-z,Cu l d tail B]at w
   refine u _ _ ⟨?_,Or.inr ⟨c,i,tail.drop d.length,rfl,h2,?_,?_,?_⟩⟩ (p.ah h2 _ _) aL (uq (av _ _ _ _).symm) (λG _ D=>bd _ _ _ _ ?_) (Or.inr (Or.inl ⟨by rw[h];simp,by rw[h];rfl,aL⟩))
   .simp only[be,O.gJ,gS];omega
   .rw[<-z];exact w
   .simp only[be,List.length_drop];omega
   .simp only[O.gJ];omega
   .have:=D (by rw[h];simp)
    rw[h]at this;exact this
 .refine u _ _ ⟨?_,Or.inr ⟨a.size,i,mN zs (i -(s.len+x.len)),rfl,p.size,cz.push _ _ _,?_,by simpa using y⟩⟩ (p.aJ _) aL aL (λc t _=>by rw[mS,ae V]) (Or.inr (Or.inr rfl))
  .simp only[be,O.gJ,gS,j.len,q]
  .simp only[be,rT,j.len,q]
   rw[Nat.sub_mul,<-gS]
   have:(s.len+x.len)*zs.length<=i*zs.length:=dg _ y
   omega
def ap.gE{l:List Int}(h:gZ g a f 1 s (l.map Ce.i))(n:l.length<=9223372036854775807):ap a s l:=by
 have i:s.len=l.length:=by have:=h.len;simp at this;omega
 refine⟨i,?_,V,λk x e=>⟨[.i x],rfl,λj d c=>?_⟩⟩
 .rcases h.aH with b|⟨m,d,tail,b,h2,h3,h4,h5⟩
  .rw[b];exact ad _
  .rw[b];exact h5
 .have b:j=0:=by have:=aw c;simp at this;omega
  subst b;simp at c;subst c;have:=h.iE k (.i x) (by simp[e]);simpa using this
def fZ{g:Nat}:∀{d:List (List Ce)}(_:∀a∈d,a.length=g){b:Nat}{a:List Ce}(_:d[b]? =some a){i:Nat}{c:Ce}(_:a[i]? =some c),d.flatten[b*g+i]? =some c
 |[],_,b,a,h,_,_,_=>by simp at h
 |x::d,f,0,a,h,i,c,e=>by
  simp at h;subst h;rw[jH,QM,bT,ax (aw e)];exact e
 |x::d,f,b+1,a,h,i,c,e=>by
  have k:x.length=g:=f x bg;rw[jH,aK (by rw[k,gS];omega)];have:=fZ (d:=d) (λy l=>f y (ai _ l)) (b:=b) (by simpa using h) e;rw[<-this];congr 1;rw[k,gS];omega
def cw{b:Nat}:∀{d:List (List Ce)},(∀a∈d,a.length=b)->d.flatten.length=d.length*b
 |[],_=>aL
 |x::d,a=>by
  rw[jH,be,cw (λy c=>a y (ai _ c)),a x bg,aZ,gS];omega
structure gU{α:Type}(sz:Nat)(R:List Ce->α->Prop)(d:List (List Ce))(l:List α):Prop where
 len:d.length=l.length
 size:∀cs∈d,cs.length=sz
 dA:∀(j:Nat)(cs:List Ce)(x:α),d[j]? =some cs->l[j]? =some x->R cs x
def gU.nil{α:Type}(a:Nat)(R:List Ce->α->Prop):gU a R [] []:=⟨rfl,aL,aL⟩
def gU.zg{α:Type}{f:Nat}{R:List Ce->α->Prop}{l:List α}(h:gU f R d l){cs:List Ce}{x:α}(i:cs.length=f)(k:R cs x):gU f R (d++[cs]) (l++[x]):=by
 refine⟨by simp[h.len],λe a=>?_,λj e y a b=>?_⟩
 .rcases List.mem_append.1 a with a|a
  .exact h.size e a
  .simp at a;subst a;exact i
 .rcases aW j d.length with c|c
  .rw[ax c]at a;rw[ax (h.len▸c)]at b;exact h.dA j e y a b
  .rw[aK c]at a;rw[aK (by rw[<-h.len];exact c),<-h.len]at b;have g:j -d.length=0:=by have:=aw a;simp at this;omega
   rw[g]at a b;simp at a b;subst a;subst b;exact k
def gU.mono{α:Type}{c:Nat}{R b:List Ce->α->Prop}{l:List α}(h:gU c R d l)(g:∀a x,R a x->b a x):gU c b d l:=
 ⟨h.len,h.size,λj a x e f=>g _ _ (h.dA j a x e f)⟩
def eU.gE{α:Type}{e:Nat}{R:List Ce->α->Prop}{l:List α}(h:gZ g a f e s d.flatten)(c:gU e R d l)(q:0<e)(t:l.length<=9223372036854775807):eU a e R s l:=by
 have p:s.len=l.length:=by
  have b:=h.len;rw[cw c.size]at b;have:=UK q b;rw[<-this,c.len]
 refine⟨p,?_,V,λk x n=>?_⟩
 .rcases h.aH with b|⟨j,i,tail,b,h2,h3,h4,h5⟩
  .rw[b];exact ad _
  .rw[b];exact h5
 .let⟨j,m⟩:=cG d k (by rw[c.len];exact aw n);refine⟨j,c.dA k j x m n,λr i o=>?_⟩;have:=h.iE (k*e+r) i (fZ c.size m o);rwa[<-di]at this
end Go.Vc
end
section
namespace Go.Vc
variable{S c:List Nat}{m a d:E}{b o e:Nat}{l:List Ce}{s:O}
def bI(S:List Nat)(m:E):E:=m.mapIdx λb o=>if b∈S then .cells #[] 0 else o
def Le(M a:E):Prop:=∀b o v,af M b o=some v->af a b o=some v
def eR{v:Value}:af (bI S m) b o=some v<->b∉S/\af m b o=some v:=by
 unfold af bI;rw[XY];cases h:m[b]? with
 |none=>simp
 |some x=>by_cases a:b∈S<;>simp[a]
def Le.az(m:E):Le m m:=λ_ _ _ h=>h
def Le.trans{a b c:E}(h:Le a b)(k:Le b c):Le a c:=λx o v d=>k x o v (h x o v d)
def J.le(h:J m a):Le m a:=λ_ _ _ b=>h.af b
def bA(S:List Nat)(m:E):Le (bI S m) m:=λ_ _ _ h=>(eR.1 h).2
def pP(h:∀b,b<m.size->b∉S->b∉c/\a[b]? =m[b]?):Le (bI S m) (bI c a):=λb o v i=>by
 let⟨e,d⟩:=eR.1 i;let⟨f,g⟩:=h b (lC d) e;exact eR.2 ⟨f,by rw[aE g];exact d⟩
def J.bI(h:J m a)(d:∀b∈c,b∈S\/m.size<=b):Le (bI S m) (bI c a):=
 pP λb e g=>⟨λf=>(d b f).elim g λh=>V,h.same b e⟩
def J.df(h:J m a)(S:List Nat):Le (Vc.bI S m) (Vc.bI S a):=h.bI λ_ b=>Or.inl b
def iW(m:E)(a:∀b∈c,b∈S):Le (bI S m) (bI c m):=(J.az m).bI λb d=>Or.inl (a b d)
def Le.iE{M a:E}(h:Le M a)(e:fS M b o l):fS a b o l:=λi c d=>h _ _ _ (e i c d)
def eU.le{α:Type}{d:Nat}{R c:List Ce->α->Prop}{l:List α}(h:eU m d R s l)(j:Le m a)(g:∀b x,R b x->c b x):eU a d c s l:=
 ⟨h.len,h.cap,h.gX,λk x i=>let⟨b,e,f⟩:=h.iE k x i;⟨b,g _ _ e,j.iE f⟩⟩
def ap.le{m a:E}(b:Le m a){s:O}{l:List Int}(h:ap m s l):ap a s l:=eU.le h b λ_ _ h=>h
def mU.le{m a:E}(g:Le m a)(b:List Ce)(c:List Int):mU m b c->mU a b c:=λ⟨f,d,e⟩=>⟨f,d,e.le g⟩
def iQ.le{m a:E}(d:Le m a)(b:List Ce)(c:bz):iQ m b c->iQ a b c:=λ⟨f,e,g⟩=>⟨f,e,eU.le g d (mU.le d)⟩
def cx.le{m a:E}(b:Le m a){s:O}{l:List bz}(h:cx m s l):cx a s l:=eU.le h b (iQ.le b)
def KG(a:b∉S)(h:fS m b o l):fS (bI S m) b o l:=λi c d=>eR.2 ⟨a,h i c d⟩
def eU.Rk{α:Type}{a:Nat}{R:List Ce->α->Prop}{c:List (List Ce)}{l:List α}(o:∀b∈S,b<d.size)(h:gZ d m e a s c.flatten)(q:gU a R c l)(r:0<a)(p:l.length<=9223372036854775807):eU (bI S m) a R s l:=by
 have H:=eU.gE h q r p;refine⟨H.len,H.cap,H.gX,λt x i=>?_⟩;let⟨j,k,n⟩:=H.iE t x i;rcases h.D with f|f
 .have g:=H.len;have:=aw i;rw[f]at g;simp at g;omega
 .exact⟨j,k,KG (λg=>oh (o _ g)) n⟩
def ap.Rk{l:List Int}(k:∀b∈S,b<d.size)(h:gZ d m e 1 s (l.map Ce.i))(n:l.length<=9223372036854775807):ap (bI S m) s l:=by
 have H:=ap.gE h n;refine⟨H.len,H.cap,H.gX,λo x f=>?_⟩;let⟨g,i,j⟩:=H.iE o x f;rcases h.D with a|a
 .have c:=H.len;have:=aw f;rw[a]at c;simp at c;omega
 .exact⟨g,i,KG (λc=>oh (k _ c)) j⟩
end Go.Vc
end
section
namespace Go.Vc
variable{X Y S:List Nat}{a b c m d:E}{f:List Ce}{s:O}{k:Nat}
structure Fz(X:List Nat)(m d:E):Prop where
 size:m.size<=d.size
 same:∀b,b<m.size->b∉X->d[b]? =m[b]?
def Fz.az(X:List Nat)(m:E):Fz X m m:=⟨ad _,λ_ _ _=>rfl⟩
def Fz.sD(h:Fz X a b)(k:Fz Y b c)(g:∀y∈Y,y∈X\/a.size<=y):Fz X a c:=
 ⟨bJ h.size k.size,λi d e=>(k.same i (aO d h.size) λf=>(g i f).elim e λh=>V).trans (h.same i d e)⟩
def Fz.trans(h:Fz X a b)(k:Fz X b c):Fz X a c:=h.sD k λ_ d=>Or.inl d
def J.fz(h:J m d)(X:List Nat):Fz X m d:=⟨h.size,λb a _=>h.same b a⟩
def Fz.then(h:Fz X a b)(k:J b c):Fz X a c:=h.trans (k.fz X)
def Fz.push{X:List Nat}{a m:E}(h:Fz X a m)(o:Obj):Fz X a (m.push o):=h.then (J.push m o)
def Fz.ext(h:Fz [] m d):J m d:=⟨h.size,λb a=>h.same b a aL⟩
def Fz.Ea(h:Fz X m d)(f:∀b∈X,b∈Y\/m.size<=b):Fz Y m d:=⟨h.size,λb a e=>h.same b a λc=>(f b c).elim e λh=>V⟩
def Fz.ah(h:Fz X a m){b:Nat}(c:b∈X\/a.size<=b)(o:Nat)(l:List Ce):Fz X a (ah m b o l):=
 ⟨by rw[av];exact h.size,λj f d=>by
  have e:j≠b:=λe=>by subst e;exact c.elim d λc=>V
  rw[bd l m b o e];exact h.same j f d⟩
def Fz.bI(h:Fz X m d){a:List Nat}(f:∀b∈X,b∈S)(e:∀b∈a,b∈S\/m.size<=b):Le (bI S m) (bI a d):=
 pP λb g c=>⟨λi=>(e b i).elim c λh=>V,h.same b g λj=>c (f b j)⟩
def Fz.df(h:Fz X m d)(a:∀b∈X,b∈S):Le (Vc.bI S m) (Vc.bI S d):=h.bI a λ_ h=>Or.inl h
def Fz.dp(h:Fz X m d){l:List Nat}(c:∀b∈l,b<m.size/\b∉X):eG l m d:=λb a=>h.same b (c b a).1 (c b a).2
inductive Ex where
 |mk (op bQ:Int) (bD:List Ex)
def Ex.op:Ex->Int| .mk o _ _=>o
def Ex.bQ:Ex->Int| .mk _ n _=>n
def Ex.bD:Ex->List Ex| .mk _ _ k=>k
structure MP(β:Type)where
 op:Int
 bQ:Int
 cp:Int
 args:List Int
 bD:List β
inductive Bk where
 |mk (aB:List (MP Bk)) (aT:Int)
abbrev cU:=MP Bk
def Bk.aB:Bk->List cU| .mk s _=>s
def Bk.aT:Bk->Int| .mk _ r=>r
@[simp] theorem Ex.Wc (o n:Int) (k:List Ex):(Ex.mk o n k).op=o:=rfl
@[simp] theorem Ex.Up (o n:Int) (k:List Ex):(Ex.mk o n k).bQ=n:=rfl
@[simp] theorem Ex.Sd (o n:Int) (k:List Ex):(Ex.mk o n k).bD=k:=rfl
@[simp] theorem Bk.jW (s:List cU) (r:Int):(Bk.mk s r).aB=s:=rfl
@[simp] theorem Bk.jy (s:List cU) (r:Int):(Bk.mk s r).aT=r:=rfl
inductive Ci(m:E):List Ce->Ex->Prop
 |mk (op bQ:Int) (bD:List Ex) (s:O) (css:Nat->List Ce) (hl:s.len=bD.length) (hc:s.len<=s.cap) (hm:s.len<=9223372036854775807)
  (hr:∀(k:Nat)(x:Ex),bD[k]? =some x->fS m s.D (s.off+k*3) (css k)) (hk:∀(k:Nat)(x:Ex),bD[k]? =some x->Ci m (css k) x):Ci m [.i op,.i bQ,.s s] (.mk op bQ bD)
inductive rW(m:E):List Ce->Bk->Prop
 |mk (aB:List (MP Bk)) (r:Int) (s:O) (hl:s.len=aB.length) (hc:s.len<=s.cap) (hm:s.len<=9223372036854775807) (aa ks:Nat->O) (kcs:Nat->Nat->List Ce)
  (hr:∀(k:Nat)(x:MP Bk),aB[k]? =some x->fS m s.D (s.off+k*5) [.i x.op,.i x.bQ,.i x.cp,.s (aa k),.s (ks k)]/\ap m (aa k) x.args/\(ks k).len=x.bD.length/\(ks k).len<=(ks k).cap/\(ks k).len<=9223372036854775807)
  (hb:∀(k:Nat)(x:MP Bk)(j:Nat)(b:Bk),aB[k]? =some x->x.bD[j]? =some b->fS m (ks k).D ((ks k).off+j*2) (kcs k j))
  (hk:∀(k:Nat)(x:MP Bk)(j:Nat)(b:Bk),aB[k]? =some x->x.bD[j]? =some b->rW m (kcs k j) b):rW m [.s s,.i r] (.mk aB r)
def gD(m:E)(f:List Ce)(x:cU):Prop:=∃a k,f=[.i x.op,.i x.bQ,.i x.cp,.s a,.s k]/\ap m a x.args/\eU m 2 (rW m) k x.bD
abbrev fJ(m:E)(s:O)(l:List Ex):Prop:=eU m 3 (Ci m) s l
abbrev eQ(m:E)(s:O)(l:List cU):Prop:=eU m 5 (gD m) s l
abbrev nQ(m:E)(s:O)(l:List Bk):Prop:=eU m 2 (rW m) s l
def Ci.le(h:Le m d){e:Ex}(a:Ci m f e):Ci d f e:=by
 induction a with
 |mk n bQ bD s b g c i a o l=>exact .mk n bQ bD s b g c i (λk x j=>h.iE (a k x j)) l
def rW.le{m d:E}(h:Le m d){f:List Ce}{b:Bk}(a:rW m f b):rW d f b:=by
 induction a with
 |mk aB t s o n p e ks r a l u q=>
  exact .mk aB t s o n p e ks r (λk x c=>let⟨g,i,j⟩:=a k x c;⟨h.iE g,i.le h,j⟩) (λk x j b c g=>h.iE (l k x j b c g)) q
def eU.choose{α:Type}{m:E}{a:Nat}{R:List Ce->α->Prop}{s:O}{l:List α}(h:eU m a R s l):
 ∃b:Nat->List Ce,∀(k:Nat)(x:α),l[k]? =some x->R (b k) x/\fS m s.D (s.off+k*a) (b k):=by
 have:∀k:Nat,∃f:List Ce,∀x:α,l[k]? =some x->R f x/\fS m s.D (s.off+k*a) f:=λk=>by
  cases e:l[k]? with
  |none=>exact⟨[],λx c=>by simp at c⟩
  |some x=>obtain⟨f,d⟩:=h.iE k x e;exact⟨f,λy c=>by simp at c;exact c▸d⟩
 exact⟨λk=>Classical.choose (this k),λk=>fO (this k)⟩
def Ci.aS{e:Ex}(h:Ci m f e):∃s,f=[.i e.op,.i e.bQ,.s s]/\fJ m s e.bD:=by
 cases h with
 |mk l bQ bD s b g c i j d=>exact⟨s,rfl,g,c,i,λk x a=>⟨b k,d k x a,j k x a⟩⟩
def Ci.of{b bQ:Int}{bD:List Ex}(h:fJ m s bD):Ci m [.i b,.i bQ,.s s] (.mk b bQ bD):=by
 let⟨d,c⟩:=h.choose;exact .mk b bQ bD s d h.len h.cap h.gX (λk x a=>(c k x a).2) λk x a=>(c k x a).1
def rW.aS{b:Bk}(h:rW m f b):∃s,f=[.s s,.i b.aT]/\eQ m s b.aB:=by
 cases h with
 |mk aB w s r p t d ks v u o q=>
  exact⟨s,rfl,r,p,t,λk x a=>let⟨e,g,i,l,n⟩:=u k x a;⟨_,⟨d k,ks k,rfl,g,i,l,n,λj b c=>⟨v k j,q k x j b a c,o k x j b a c⟩⟩,e⟩⟩
def rW.of{r:Int}{aB:List cU}(h:eQ m s aB):rW m [.s s,.i r] (.mk aB r):=by
 let⟨n,l⟩:=h.choose;have:∀k:Nat,∃(a c:O)(kc:Nat->List Ce),∀x:cU,aB[k]? =some x->n k=[.i x.op,.i x.bQ,.i x.cp,.s a,.s c]/\ap m a x.args/\(c.len=x.bD.length/\c.len<=c.cap/\c.len<=9223372036854775807)/\
  ∀(j:Nat)(b:Bk),x.bD[j]? =some b->rW m (kc j) b/\fS m c.D (c.off+j*2) (kc j):=λk=>by
  cases o:aB[k]? with
  |none=>exact⟨.nil,.nil,λ_=>[],λx d=>by simp at d⟩
  |some x=>
   obtain⟨⟨a,c,f,g,e⟩,_⟩:=l k x o
   let⟨kc,p⟩:=e.choose
   exact⟨a,c,kc,λy i=>by simp at i;subst i;exact⟨f,g,⟨e.len,e.cap,e.gX⟩,p⟩⟩
 have H:=λk=>fO (fO (fO (this k)));refine .mk aB r s h.len h.cap h.gX (λk=>Classical.choose (this k)) (λk=>Classical.choose (fO (this k))) (λk=>Classical.choose (fO (fO (this k)))) (λk x d=>?_) (λk x j b d i=>((H k x d).2.2.2 j b i).2) λk x j b d i=>((H k x d).2.2.2 j b i).1;obtain⟨f,g,e,_⟩:=H k x d;exact⟨by rw[<-f];exact(l k x d).2,g,e⟩
def gD.le{m d:E}(h:Le m d){f:List Ce}{x:cU}:gD m f x->gD d f x:=λ⟨a,k,b,c,e⟩=>⟨a,k,b,c.le h,eU.le e h λ_ _=>rW.le h⟩
def fJ.le{m d:E}(a:Le m d){s:O}{l:List Ex}(h:fJ m s l):fJ d s l:=eU.le h a λ_ _=>Ci.le a
def eQ.le{m d:E}(a:Le m d){s:O}{l:List cU}(h:eQ m s l):eQ d s l:=eU.le h a λ_ _=>gD.le a
def nQ.le{m d:E}(a:Le m d){s:O}{l:List Bk}(h:nQ m s l):nQ d s l:=eU.le h a λ_ _=>rW.le a
def fJ.aH{l:List Ex}(h:fJ m s l){x:Ex}(b:l[k]? =some x):
 ∃t,fJ m t x.bD/\af m s.D (s.off+k*3)=some (vi x.op)/\af m s.D (s.off+k*3+1)=some (vi x.bQ)/\af m s.D (s.off+k*3+2)=some (O.v t):=by
 let⟨f,d,a⟩:=h.iE k x b
 obtain⟨t,rfl,c⟩:=d.aS
 exact⟨t,c,a 0 _ rfl,a 1 _ rfl,a 2 _ rfl⟩
def eQ.aH{l:List cU}(h:eQ m s l){x:cU}(e:l[k]? =some x):
 ∃a t,ap m a x.args/\nQ m t x.bD/\af m s.D (s.off+k*5)=some (vi x.op)/\af m s.D (s.off+k*5+1)=some (vi x.bQ)/\af m s.D (s.off+k*5+2)=some (vi x.cp)/\af m s.D (s.off+k*5+3)=some (O.v a)/\af m s.D (s.off+k*5+4)=some (O.v t):=by
 obtain⟨f,⟨a,t,rfl,c,d⟩,b⟩:=h.iE k x e
 exact⟨a,t,c,d,b 0 _ rfl,b 1 _ rfl,b 2 _ rfl,b 3 _ rfl,b 4 _ rfl⟩
def nQ.aH{l:List Bk}(h:nQ m s l){x:Bk}(b:l[k]? =some x):
 ∃t,eQ m t x.aB/\af m s.D (s.off+k*2)=some (O.v t)/\af m s.D (s.off+k*2+1)=some (vi x.aT):=by
 let⟨f,d,a⟩:=h.iE k x b
 obtain⟨t,rfl,c⟩:=d.aS
 exact⟨t,c,a 0 _ rfl,a 1 _ rfl⟩
def Bk.w:Bk->Nat
 | .mk aB _=>1+(aB.map λs=>1+s.args.length+(s.bD.map Bk.w).sum).sum
decreasing_by
 rename_i s a _ _
 have b:=oY a
 have c:=oY (by assumption:_∈s.bD)
 have d:SizeOf.sizeOf s.bD<SizeOf.sizeOf s:=by cases s;simp;omega
 simp;omega
def MP.w(s:MP Bk):Nat:=1+s.args.length+(s.bD.map Bk.w).sum
def Bk.Zo(b:Bk):b.w=1+(b.aB.map MP.w).sum:=by
 cases b;rw[Bk.w];rfl
def Ex.n:Ex->Nat
 | .mk _ _ bD=>1+(bD.map Ex.n).sum
end Go.Vc
end
section
namespace Go.Vc
variable{S Y S' X:List Nat}{d a c:E}{b k n h tb:Nat}{s x:O}{g cs i:List Ce}{f:List (List Ce)}{K:O->E->Prop}
structure oN{α:Type}(sz:Nat)(R:E->List Ce->α->Prop):Prop where
 le:∀{M M':E}{cs:List Ce}{x:α},Le M M'->R M cs x->R M' cs x
 len:∀{M:E}{cs:List Ce}{x:α},R M cs x->cs.length=sz
def uv(_:E)(cs:List Ce)(n:Int):Prop:=UZ cs n
def uv.mono:oN 1 uv:=⟨λ_ h=>h,λh=>by rw[h];rfl⟩
def Ci.mono:oN 3 Ci:=⟨λh=>Ci.le h,λh=>by obtain⟨s,rfl,_⟩:=h.aS;rfl⟩
def rW.mono:oN 2 rW:=⟨λh=>rW.le h,λh=>by obtain⟨s,rfl,_⟩:=h.aS;rfl⟩
def gD.mono:oN 5 gD:=⟨λh=>gD.le h,λh=>by obtain⟨_,_,rfl,_⟩:=h;rfl⟩
structure Gr{α:Type}(S:List Nat)(d a:E)(b sz:Nat)(R:E->List Ce->α->Prop)(s:O)(l:List α):Prop where
 jb:s≠.nil
 aR:∃f,gZ d a b sz s f.flatten/\gU sz (R (bI (s.D::S) a)) f l
def Gr.len{α:Type}{S:List Nat}{d a:E}{b e:Nat}{R:E->List Ce->α->Prop}{s:O}{l:List α}(h:Gr S d a b e R s l)(i:0<e):s.len=l.length:=by
 obtain⟨_,f,g,c⟩:=h;have:=g.len;rw[cw c.size]at this;rw[<-c.len,UK i this]
def Gr.bn{α:Type}{g:Nat}{R:E->List Ce->α->Prop}{l:List α}(h:Gr S d a b g R s l):d.size<=s.D/\s.D<a.size:=by
 let⟨c,f,e,i⟩:=h;exact⟨e.D.resolve_left c,e.lt.resolve_left c⟩
def Gr.new{α:Type}(S:List Nat){d a:E}(h:d.size<=a.size)(b c:Nat)(R:E->List Ce->α->Prop):Gr S d (a.push (.cells (bt []) b)) b c R (.mk a.size 0 0 0) []:=
 ⟨aL,[],(gZ.new (J.az a) b c [] 0 aL).cr h,gU.nil _ _⟩
def Gr.eA{α:Type}{g:Nat}{R:E->List Ce->α->Prop}{l:List α}(o:oN g R)(h:Gr S d a b g R s l)(j:Fz Y a c)(i:∀e∈Y,e∈S/\e<d.size):Gr S d c b g R s l:=by
 have q:=h.bn;let⟨k,f,m,n⟩:=h;refine⟨k,f,m.congr (j.same _ q.2 λp=>oh ((i _ p).2)),n.mono λcs x=>o.le ?_⟩;exact j.df λe p=>ai _ (i e p).1
def Gr.NX{α:Type}{g:Nat}{R:E->List Ce->α->Prop}{l:List α}(n:oN g R)(h:Gr S d a b g R s l)(i:Fz Y a c)(o:∀e∈Y,e∈S)(q:s.D∉Y):Gr S d c b g R s l:=by
 have r:=h.bn;let⟨j,f,k,m⟩:=h;exact⟨j,f,k.congr (i.same _ r.2 q),m.mono λcs x=>n.le (i.df λe p=>ai _ (o e p))⟩
def Gr.re{α:Type}{h:Nat}{R:E->List Ce->α->Prop}{l:List α}(o:oN h R)(i:Gr S d a b h R s l)(j:Fz Y a c)(q:∀e∈Y,e∈S)(r:s.D∉Y)(p:∀e∈S',e∈S\/a.size<=e):Gr S' d c b h R s l:=by
 have t:=i.bn;let⟨k,f,m,n⟩:=i;refine⟨k,f,m.congr (j.same _ t.2 r),n.mono λcs x=>o.le (j.bI (λe g=>ai _ (q e g)) λe g=>?_)⟩;rcases List.mem_cons.1 g with g|g
 .exact Or.inl (by rw[g];exact bg)
 .exact(p e g).imp (ai _) id
def Gr.ext{α:Type}{e:Nat}{R:E->List Ce->α->Prop}{l:List α}(f:oN e R)(h:Gr S d a b e R s l)(g:J a c):Gr S d c b e R s l:=
 h.eA f (g.fz []) aL
def Gr.done{α:Type}{c:Nat}{R:E->List Ce->α->Prop}{l:List α}(j:oN c R)(h:Gr S d a b c R s l)(k:∀e∈S,e<d.size)(o:0<c)(n:l.length<=9223372036854775807):eU (bI S a) c (R (bI S a)) s l:=by
 obtain⟨_,f,g,i⟩:=h;exact eU.Rk k g (i.mono λcs x=>j.le (iW a λe m=>ai _ m)) o n
def J.Nj(h:k<=a.size):J (a.extract 0 k) a:=by
 refine⟨bF,λb c=>?_⟩;have d:b<k:=by simp at c;omega
 rw[Array.getElem?_extract];simp;omega
def mj(h:k<=a.size):(a.extract 0 k).size=k:=bF
def Gr.next{α:Type}{F:Nat}{R:E->List Ce->α->Prop}{C D:List α}(G:oN g.length R)(W:0<g.length)
 (y:Gr S d a b g.length R s C)(H:Fz X d a)(u:x.len=f.length)(T:fS a x.D x.off f.flatten)(n:gU g.length (R (bI (s.D::S) a)) f D)(i:(C.length+D.length)*F<=140737488355328)
 (P:∀r c,Gr S d c b g.length R r (C++D)->Fz X d c->(a.size<=c.size/\(r.D=s.D\/a.size<=r.D))->(∀e,e<a.size->e≠s.D->c[e]? =a[e]?)->K r c):jP a b g F s x K:=by
 have Q:=y.len W
 have hy:=y.bn
 let⟨z,w,O,j⟩:=y
 have q:d.size<=a.size:=H.size
 refine gZ.append (g:=a.extract 0 d.size) (zs:=g) (d:=f.flatten) (l:=w.flatten) (O.cr (by rw[mj q];exact ad _)) (J.Nj q) ?_ T (by rw[Q,u,n.len];exact i) λr c Y k2 k3 Z k5 B=>?_
 .rw[cw n.size,u]
 have A:∀e,e<a.size->e≠s.D->c[e]? =a[e]? :=λe i k=>k5 e i λ_=>k
 have U:r≠.nil:=by
  rcases B with⟨h,_⟩|⟨_,_,h⟩|h
  .exact absurd h z
  .exact h
  .intro b;rw[b]at h;simp at h;omega
 have L:a.size<=c.size:=Z
 have I:Le (bI (s.D::S) a) (bI (r.D::S) c):=pP λe i k=>by
  simp only[aV,vS]at k;refine⟨?_,A e i k.1⟩;simp only[aV,vS];refine⟨?_,k.2⟩;rcases B with⟨h,_⟩|⟨_,h,_⟩|h
  .exact absurd h z
  .rw[h];exact k.1
  .omega
 refine P r c ⟨U,w++f,?_,?_⟩ ⟨bJ q L,λe i u=>?_⟩ ⟨L,?_⟩ A
 .rw[qU]
  exact Y.cr (by rw[mj q];exact ad _)
 .refine⟨by simp[j.len,n.len],λm o=>?_,λM m N t v=>?_⟩
  .rcases List.mem_append.1 o with o|o
   .exact j.size m o
   .exact n.size m o
  .rcases aW M w.length with p|p
   .rw[ax p]at t
    rw[ax (j.len▸p)]at v
    exact G.le I (j.dA M m N t v)
   .rw[aK p]at t
    rw[aK (by rw[<-j.len];exact p),<-j.len]at v
    exact G.le I (n.dA _ m N t v)
 .rw[A e (aO i q) V];exact H.same e i u
 .rcases B with⟨h,_⟩|⟨_,h,_⟩|h
  .exact absurd h z
  .exact Or.inl h
  .exact Or.inr V
def Gr.kM{α:Type}{n:Nat}{R:E->List Ce->α->Prop}{m:List α}{k:α}(i:oN g.length R)(z:0<g.length)
 (q:Gr S d a b g.length R s m)(w:Fz X d a)(p:R (bI (s.D::S) a) cs k)(j:(m.length+1)*n<=140737488355328)
 (x:∀r c,Gr S d c b g.length R r (m++[k])->Fz X d c->(a.size<=c.size/\(r.D=s.D\/a.size<=r.D))->(∀f,f<a.size->f≠s.D->c[f]? =a[f]?)->K r c):jP (a.push (.cells (bt cs) b)) b g n s (.mk a.size 0 1 1) K:=by
 have h:=J.push a (.cells (bt cs) b)
 refine Gr.next (f:=[cs]) (D:=[k]) i z (q.ext i h) (w.then h) rfl ?_ ?_ j λr c t u o v=>x r c t u ⟨bJ h.size o.1,o.2.imp id (bJ h.size)⟩ λf j y=>(v f (aO j h.size) y).trans (h.same f j)
 .have:=(cz.push a (e:=b) (l:=cs)).iE
  simpa using this
 .have:=gU.zg (gU.nil g.length (R (bI (s.D::S) (a.push (.cells (bt cs) b))))) (i.len p) (i.le (h.df _) p)
  simpa using this
def eU.We{α:Type}{b:Nat}{R:List Ce->α->Prop}{l:List α}(z:∀cs x,R cs x->cs.length=b)(r:eU a b R s l):
 ∃f,s.len=f.length/\fS a s.D s.off f.flatten/\gU b R f l:=by
 let⟨e,k⟩:=r.choose
 have w:∀(c:Nat)(cs:List Ce),((List.range l.length).map e)[c]? =some cs->c<l.length/\cs=e c:=λc cs d=>by
  simp only[cJ,jK]at d;let⟨E,o,B⟩:=d;let⟨t,u⟩:=List.getElem?_eq_some_iff.1 o;simp at t u;subst u;exact⟨t,B.symm⟩
 have m:∀cs∈(List.range l.length).map e,cs.length=b:=λcs D=>by
  let⟨c,d⟩:=List.mem_iff_getElem?.1 D;obtain⟨o,rfl⟩:=w c cs d;let⟨x,h⟩:=dC o;exact z _ _ (k c x h).1
 refine⟨(List.range l.length).map e,by simp[r.len],λi A q=>?_,aL,m,λc cs x d h=>?_⟩
 .rcases j9 b with n|n
  .have g:=aw q
   rw[cw m,n]at g;simp at g
  have g:=aw q
  rw[cw m]at g
  simp at g
  have d:i/b<l.length:=Nat.div_lt_of_lt_mul (by rw[Nat.mul_comm];exact g)
  let⟨x,h⟩:=dC d
  have y:i=i/b*b+i%b:=by rw[Nat.mul_comm];exact(Nat.div_add_mod i b).symm
  have H:=Nat.mod_lt i n
  have G:(e (i/b)).length=b:=z _ _ (k _ x h).1
  let⟨F,v⟩:=cG (e (i/b)) (i%b)
  have p:=fZ (d:=(List.range l.length).map e) m (b:=i/b) (a:=e (i/b)) (by simp[d]) v
  rw[<-y,q]at p
  simp at p;subst p
  have C:=(k _ x h).2 _ A v
  rw[y,<-di];exact C
 .obtain⟨_,rfl⟩:=w c cs d
  exact(k c x h).1
def Gr.all{α:Type}{j:Nat}{R:E->List Ce->α->Prop}{l i:List α}(k:oN g.length R)(v:0<g.length)
 (h:Gr S d a b g.length R s l)(t:Fz X d a)(p:eU (bI (s.D::S) a) g.length (R (bI (s.D::S) a)) x i)(q:(l.length+i.length)*j<=140737488355328)
 (u:∀r c,Gr S d c b g.length R r (l++i)->Fz X d c->(a.size<=c.size/\(r.D=s.D\/a.size<=r.D))->(∀e,e<a.size->e≠s.D->c[e]? =a[e]?)->K r c):jP a b g j s x K:=by
 let⟨f,m,n,o⟩:=p.We λ_ _ h=>k.len h
 exact Gr.next k v h t m ((bA _ _).iE n) o q u
def Gr.lit{α:Type}{e:Nat}{R:E->List Ce->α->Prop}{l:List α}(j:oN e R)(i:d.size<=a.size)(p:∀g∈S,g<d.size)(k:cs=f.flatten)(m:n=f.length)(h:gU e (R (bI S a)) f l):
 Gr S d (a.push (.cells (bt cs) b)) b e R (.mk a.size 0 n n) l:=by
 subst k m
 refine⟨aL,f,(gZ.new (J.az a) b e f.flatten f.length (cw h.size)).cr i,h.mono λo x=>j.le ?_⟩
 exact(J.push a _).bI λg c=>by
  rcases List.mem_cons.1 c with c|c
  .exact Or.inr (by simp[c])
  .exact Or.inl c
def Gr.nT{α:Type}{c:Nat}{R:E->List Ce->α->Prop}{l:List α}(m:oN c R)(h:Gr S d a b c R s l)(n:s.D∉S)(q:0<c)(p:l.length<=9223372036854775807):eU (bI S a) c (R (bI S a)) s l:=by
 obtain⟨_,f,e,g⟩:=h;have H:=eU.gE e (g.mono λcs x=>m.le (iW a λj i=>ai s.D i)) q p;exact⟨H.len,H.cap,H.gX,λk x o=>let⟨cs,i,j⟩:=H.iE k x o;⟨cs,i,KG n j⟩⟩
def Gr.ne{α:Type}{p:Nat}{R:E->List Ce->α->Prop}{o:List α}(k:Gr S d a b p R s o)(g:cz a h tb i)(n:tb≠b):s.D≠h:=by
 let⟨l,f,m,w⟩:=k;let⟨q,r,tail,j,t,c,u,v⟩:=m.aH.resolve_left l;intro e;rw[j]at e;simp only[O.jF]at e;subst e;unfold cz at g c;rw[g]at c;simp at c;exact n c.2
def Gr.LJ{α β:Type}{q:E}{r c t:Nat}{R:E->List Ce->α->Prop}{g:E->List Ce->β->Prop}{e:O}{o:List α}{p:List β}(j:Gr S d a b r R s o)(k:Gr S' q a c t g e p)(n:c≠b):s.D≠e.D:=by
 let⟨l,f,m,z⟩:=k;let⟨u,v,tail,h,w,i,x,y⟩:=m.aH.resolve_left l;have:=j.ne i n;rw[h];exact this
def Gr.box{α:Type}{L:List Nat}{j y:Nat}{R:E->List Ce->α->Prop}{u:List α}{w:α}{K:E->Prop}(B:oN g.length R)(U:0<g.length)
 (o:Gr S d a b g.length R s u)(C:Fz X d a)(P:R (bI (s.D::S) a) cs w)(k:(u.length+1)*y<=140737488355328)
 (p:cz a h tb i)(hi:j<i.length)(G:tb≠b)(t:d.size<=h/\h∈S)(A:∀e∈L,e<a.size/\e≠h/\e≠s.D)
 (Q:∀r c,Gr S d c b g.length R r (u++[w])->cz c h tb (jf i j [.s r])->Fz X d c->a.size<=c.size->(∀e,e<a.size->e≠s.D->e≠h->c[e]? =a[e]?)->K c):
 af (a.push (.cells (bt cs) b)) h j=af a h j/\
 jP (a.push (.cells (bt cs) b)) b g y s (.mk a.size 0 1 1) λr c=>eG L (a.push (.cells (bt cs) b)) c/\fN c h j 1/\(eG L c (ah c h j [.s r])/\K (ah c h j [.s r])):=by
 have D:=p.lt
 have H:=J.push a (.cells (bt cs) b)
 have hy:=o.bn
 refine⟨aE (H.same h D) j,Gr.kM B U o C P k λr c z I W v=>?_⟩
 have q:cz c h tb i:=p.congr (v h D (kH (o.ne p G)))
 have T:=z.ne q G
 have n:∀e,e≠h->(ah c h j [.s r])[e]? =c[e]? :=λe k=>bd _ _ _ _ k
 have Z:=C.size
 have Y:=t.1
 refine⟨λe k=>?_,q.fN V,λe k=>n e (A e k).2.1,Q r _ ?_ (cz.ah (m:=c) q) (I.ah (Or.inr t.1) _ _) (by rw[av];exact W.1) λe l N O=>(n e O).trans (v e l N)⟩
 .have l:=A e k
  rw[v e l.1 l.2.2,H.same e l.1]
 .let⟨M,f,g1,g2⟩:=z
  refine⟨M,f,g1.congr (n _ T),g2.mono λcs x=>B.le ?_⟩
  exact pP λe k F=>⟨F,n e λb=>F (by rw[b];exact ai _ t.2)⟩
def ap.lit(b:Nat)(l:List Int)(d:∀c∈S,c<a.size)(c:cs=l.map Ce.i)(f:n=l.length)(e:l.length<=9223372036854775807):ap (bI S (a.push (.cells (bt cs) b))) (.mk a.size 0 n n) l:=by
 subst c f;have h:=gZ.new (J.az a) b 1 (l.map Ce.i) l.length aL;exact ap.Rk d h e
end Go.Vc
end
section
namespace Go.Vc
variable{x y:Operand}{k:SV->Prop}{l h:List Ce}{f:Int->Prop}{r:List Sh}{a:Int}{g:Array (Nat×Operand)}{e:List Oper}{Q:Exit->Fr->E->Prop}{c:Code}
section
variable{P:Program}{T:TT}{G:List Nat}{n:Nat}{A:Px}{m q:E}{p u:Fr}{b o j i t:Nat}{s:Sh}{d:Option Nat}{v:Value}
def nc(n:Nat):Int:=n
def nce{n:Nat}:nc n=n:=rfl
def VU:TN T p .len [t] [x] k=match fL T t,ev p x with
 |some ⟨.slice _,_,_⟩,.c (.s s)=>k (.c (.i (nc s.len)))
 |_,_=>False:=rfl
def VV{l:List Nat}:TN T p .max l [x,y] k=match ev p x,ev p y with
 | .c (.i a),.c (.i b)=>k (.c (.i (if b>a then b else a)))
 |_,_=>False:=rfl
def VW{l:List Nat}:TN T p .min l [x,y] k=match ev p x,ev p y with
 | .c (.i a),.c (.i b)=>k (.c (.i (if b<a then b else a)))
 |_,_=>False:=rfl
def Si(m:E)(k:E->Prop):O6 m k=(let q:=m;k q):=rfl
def pa{α:Type}(x:α)(f:α->Prop):Prop:=f x
def Tl(s:Sh)(f:s.ty->Prop):Prop:=∃x,f x
def U1(s:Sh)(f:s.ty->Prop):Prop:=∀x,f x
def exI:Tl .I f=∃x,pa x f:=rfl
def exU{k:IntKind}:Tl (.U k) f=∃x,pa x f:=rfl
def exB{f:Bool->Prop}:Tl .T f=∃x,pa x f:=rfl
def YB{f:O->Prop}:Tl .S f=∃x,pa x f:=rfl
def exP{f:Nat×Nat->Prop}:Tl .P f=∃x,pa x f:=rfl
def exF{f:Fn×Array Value×Array Value->Prop}:Tl .F f=∃x,pa x f:=rfl
def exM{f:Nat->Prop}:Tl .M f=∃x,pa x f:=rfl
def alI:U1 .I f=∀x,f x:=rfl
def alU{k:IntKind}:U1 (.U k) f=∀x,f x:=rfl
def alB{f:Bool->Prop}:U1 .T f=∀x,f x:=rfl
def Yl{f:O->Prop}:U1 .S f=∀x,f x:=rfl
def alP{f:Nat×Nat->Prop}:U1 .P f=∀x,f x:=rfl
def alF{f:Fn×Array Value×Array Value->Prop}:U1 .F f=∀x,f x:=rfl
def alM{f:Nat->Prop}:U1 .M f=∀x,f x:=rfl
def cU8{x:Int}:kN (.int .u8 x)=some (.u .u8 x):=rfl
def z0:mN h 0=[]:=rfl
def z1:mN h (n+1)=h++mN h n:=rfl
def tb{a b:Nat}:Nat.testBit a b=(1&&&(a>>>b)!=0):=rfl
def VP{e:Edge}{a:List Edge}:lE (e::a)=bif Region.binds .any e then 2^e.on|||lE a else lE a:=rfl
def b1:Region.binds .any ⟨i,.data⟩=true:=rfl
def b2:Region.binds .any ⟨i,.chain⟩=true:=rfl
def b3:Region.binds .any ⟨i,.guard⟩=true:=rfl
def b4:Region.binds .any ⟨i,.phase⟩=true:=rfl
def b5{x:Departure}:Region.binds .any ⟨i,.gcOnly x⟩=false:=rfl
def b6{x:Departure}:Region.binds .any ⟨i,.textOnly x⟩=false:=rfl
def Sb(c:Ce)(k:List Ce->Prop)(l:List Ce):Prop:=k (c::l)
def Vo(k:SV->Prop)(l:List Ce):Prop:=k (.agg l)
def kld(m:E)(b o j:Nat)(s:Sh)(r:List Sh)(k:List Ce->Prop)(x:s.ty):Prop:=
 af m b (bif j==0 then o else o+j)=some (s.mk x).v/\V9 m b o (j+1) r (Sb (s.mk x) k)
def Yw{k:List Ce->Prop}:V9 m b o j (s::r) k=Tl s (kld m b o j s r k):=by
 cases j<;>rfl
def klc(m:E)(b o:Nat)(s:Sh)(k:SV->Prop)(x:s.ty):Prop:=af m b o=some (s.mk x).v/\k (.c (s.mk x))
def T5{t:Nat}:Qd T m t b o k=match fL T t with
 |some ⟨.struct _,a,_⟩=>V9 m b o 0 a (Vo k)
 |some ⟨.cell,[s],_⟩=>Tl s (klc m b o s k)
 |some ⟨.slice _,[_],_⟩=>∃x:O,af m b o=some x.v/\k (.c (.s x))
 |_=>False:=rfl
def ile{b:Int}:Int.le a b=(a<=b):=rfl
def khi(s:O)(z:Nat)(l:Int)(k:SV->Prop)(h:Int):Prop:=Int.le 0 l/\Int.le l h/\Int.le h (nc s.cap)/\k (.c (.s (s.cut l.toNat h.toNat z)))
def klo(p:Fr)(a:Option Operand)(s:O)(z:Nat)(k:SV->Prop)(l:Int):Prop:=Nh p a (nc s.len) (khi s z l k)
def Yu{f:Nat}{mk:Nat->SV}:Gc T t f o mk k=match fL T t with
 |some ⟨.struct c,_,_⟩=>match Io c f with
  |some (a,u)=>match fL T u with
   |some b=>bif b.uU||Nat.beq b.sh.length 0 then False else bif a==0 then k (mk o)else k (mk (o+a))
   |none=>False
  |none=>False
 |_=>False:=by
 have h:∀a,(bif a==0 then k (mk o)else k (mk (o+a)))=k (mk (o+a)):=λa=>by cases a<;>rfl
 simp only[h];rfl
def VT{s:O}{n:Int}:Xr T t s n k=match fL T t with
 |some ⟨.slice e,_,_⟩=>match fL T e with
  |some a=>bif a.uU then False else Int.le 0 n/\n<nc s.len/\k (.c (.p s.D (s.off+n.toNat*a.sh.length)))
  |none=>False
 |_=>False:=rfl
def RY{s:O}{b a:Option Operand}:Rv T p t s b a k=match fL T t with
 |some ⟨.slice e,_,_⟩=>match fL T e with
  |some c=>bif c.uU then False else Nh p b 0 (klo p a s c.sh.length k)
  |none=>False
 |_=>False:=rfl
def RU:rd T p m k (.build t g)=match fL T t with
 |some ⟨.struct a,b,_⟩=>bif vC T a then FW T p a (b.map Sh.zero) g.toList (Vo k)else False
 |_=>False:=rfl
def kxc(s:Sh)(r:List Sh)(k:List Ce->Prop)(x:s.ty):Prop:=UR r (Sb (s.mk x) k)
def VR{k:List Ce->Prop}:UR (s::r) k=Tl s (kxc s r k):=rfl
def YJ(a:AV)(k:List AV->Prop)(l:List AV):Prop:=k (a::l)
def kxt(T:TT)(r:List Nat)(k:List AV->Prop)(l:List Ce):Prop:=SL T r (YJ (.agg l) k)
def kxs(T:TT)(s:Sh)(r:List Nat)(k:List AV->Prop)(x:s.ty):Prop:=SL T r (YJ (.c (s.mk x)) k)
def VS{r:List Nat}{k:List AV->Prop}:SL T (t::r) k=match fL T t with
 |some ⟨.struct _,a,_⟩=>UR a (kxt T r k)
 |some ⟨.cell,[s],_⟩=>Tl s (kxs T s r k)
 |some ⟨.slice _,[_],_⟩=>∃x:O,SL T r (YJ (.c (.s x)) k)
 |_=>False:=rfl
def krt(v:Value)(k:SV->Prop)(l:List AV):Prop:=v=.tuple (l.map AV.v).toArray/\k (.XD l)
def krs(v:Value)(k:SV->Prop)(l:List Ce):Prop:=v=.agg (l.map Ce.v).toArray/\k (.agg l)
def krc(v:Value)(s:Sh)(k:SV->Prop)(x:s.ty):Prop:=v=(s.mk x).v/\k (.c (s.mk x))
def V1:Ql T t v k=match fL T t with
 |some ⟨.tuple [],_,_⟩=>k .fX
 |some ⟨.tuple a,_,_⟩=>SL T a (krt v k)
 |some ⟨.struct _,a,_⟩=>UR a (krs v k)
 |some ⟨.cell,[s],_⟩=>Tl s (krc v s k)
 |some ⟨.slice _,[_],_⟩=>∃x:O,v=x.v/\k (.c (.s x))
 |_=>False:=rfl
def Vp(k:Fr->SV->E->Prop)(p:Fr)(m:E)(x:SV):Prop:=k p x m
def inG(G:List Nat)(g:Nat):Prop:=G.elem g=true
def YH{G:List Nat}{g:Nat}:inG G g=(G.elem g=true):=rfl
def nz(b:Int):Prop:=b≠0
def nze{b:Int}:nz b=(b≠0):=rfl
def VY{b:Int}:rZ .quo a b k=(nz b/\k (.c (.i (cQ (a.tdiv b))))):=rfl
def V0{b:Int}:rZ .rem a b k=(nz b/\k (.c (.i (a.tmod b)))):=rfl
def TY{c:Nat}{f:Operand}{a:List Operand}{k:Fr->SV->E->Prop}:TQ P T G n p m c f a k=match Ud p (a.map (ev p))with
 |none=>False
 |some u=>match ev p f with
  | .c (.fn (.func g) first b)=>bif G.elem g&&a.all (λx=>(ev p x).jM)then
   aN P g (first.toList++(a.map λx=>(ev p x).v)++b.toList) m λv q=>AH (MN n u []) m q (Ql T c v (Vp k u q))
   else False
  | .c (.fv b)=>bif a.all (λx=>(ev p x).jM)then
   ∃g,b.1=.func g/\inG G g/\aN P g (b.2.1.toList++(a.map λx=>(ev p x).v)++b.2.2.toList) m λv q=>AH (MN n u []) m q (Ql T c v (Vp k u q))
   else False
  |_=>False:=rfl
def p3(m:E)(k:Fr->SV->E->Prop)(p:Fr)(x:SV):Prop:=k p x m
def p2(m:E)(k:SV->E->Prop)(x:SV):Prop:=k x m
def Ua{k:Fr->SV->E->Prop}:SY n p none m t l k=O6 (m.push (.cells (bt l) t)) λq=>p3 q k p (.c (.p m.size 0)):=rfl
def Ub{j:Nat}{k:Fr->SV->E->Prop}:SY n p (some j) m t l k=match iu p (n+j)with
 | .zZ _ _ _=>False
 |_=>O6 (m.push (.cells (bt l) t)) λq=>p3 q k ((n+j,.box m.size t l)::p) (.c (.bp (n+j) m.size 0)):=rfl
def Yz{x:SV}{k:Fr->SV->E->Prop}:Po n p m x l k=match x with
 | .c (.p b o)=>fN m b o l.length/\O6 (ah m b o l) λq=>AH (MN n p []) m q (k p .un q)
 | .c (.bp d b o)=>match iu p d with
  | .box a e c=>bif Nat.ble (o+l.length) c.length then MU a b (O6 (ah m b o l) λq=>p3 q k ((d,.box a e (jf c o l))::p) .un)else False
  | .zZ _ _ _=>False
  |_=>fN m b o l.length/\O6 (ah m b o l) λq=>AH (MN n p []) m q (k p .un q)
 |_=>False:=rfl
def Yy{b:Nat}{k:Fr->SV->E->Prop}:wr P T G n p m d b k (.makeSlice t x y)=match fL T t,ev p x,ev p y with
 |some ⟨.slice e,_,_⟩,.c (.i l),.c (.i c)=>match fL T e with
  |some a=>bif a.uU then False else Int.le 0 l/\Int.le l c/\Int.le (nc a.bytes*c) 281474976710656/\Int.le c 9223372036854775807/\
   O6 (m.push (.cells (bt (mN (a.sh.map Sh.zero) c.toNat)) e)) λq=>p3 q k p (.c (.s (.mk m.size 0 l.toNat c.toNat)))
  |none=>False
 |_,_,_=>False:=rfl
def Yx{a:Nat}{k:Fr->SV->E->Prop}:wr P T G n p m d a k (.makeMap t none)=O6 (m.push (.map #[] 0)) λq=>p3 q k p (.c (.mp m.size)):=rfl
def VQ{z:Nat}{s x:O}{k:SV->E->Prop}:Xl m z s x k=∃a:List Ce,a.length=Nat.min x.len s.len*z/\fS m x.D x.off a/\fN m s.D s.off a.length/\
 O6 (ah m s.D s.off a) λq=>p2 q k (.c (.i (nc (Nat.min x.len s.len)))):=rfl
def kbs(p:Fr)(m:E)(e a:Nat)(k:Fr->SV->E->Prop)(l:List Ce):Prop:=match Ga p l with
 |some u=>O6 (m.push (.cells (bt l) e)) λq=>p3 q k u (.c (.s (.mk m.size 0 a a)))
 |none=>False
def Yt{c a:Nat}{k:Fr->SV->E->Prop}:wr P T G n p m d c k (.buildSlice t a g)=match fL T t with
 |some ⟨.slice e,_,_⟩=>match fL T e with
  |some b=>bif b.uU||!(Nat.ble (a*b.sh.length) 16777216)then False else
   xH T p b.sh.length (mN (b.sh.map Sh.zero) a) g.toList (kbs p m e a k)
  |none=>False
 |_=>False:=rfl
def kcp(n:Nat)(p:Fr)(m:E)(k:Fr->SV->E->Prop)(x:SV)(q:E):Prop:=AH (MN n p []) m q (k p x q)
def TZ{b:Nat}{u:Nat}{c:List Nat}{k:Fr->SV->E->Prop}:wr P T G n p m d b k (.call ⟨.builtin .copy,⟨[x,y]⟩,⟨u::c⟩⟩)=match fL T u,ev p x,ev p y with
 |some ⟨.slice e,_,_⟩,.c (.s s),.c (.s z)=>match fL T e with
  |some a=>bif a.uU then False else Xl m a.sh.length s z (kcp n p m k)
  |none=>False
 |_,_,_=>False:=rfl
def kw(P:Program)(T:TT)(G:List Nat)(n:Nat)(e:List Oper)(d:Option Nat)(jR:List Oper)(k:Fr->E->Prop)(p:Fr)(x:SV)(m:E):Prop:=sK P T G n e jR (uw p d x) m k
def kr(P:Program)(T:TT)(G:List Nat)(n:Nat)(e:List Oper)(d:Option Nat)(jR:List Oper)(k:Fr->E->Prop)(p:Fr)(m:E)(x:SV):Prop:=sK P T G n e jR (uw p d x) m k
def ky(P:Program)(T:TT)(G:List Nat)(n:Nat)(e:List Oper)(o:Oper)(jR:List Oper)(k:Fr->E->Prop)(m:E)(p:Fr):Prop:=
 bif LA o.op then wr P T G n p m o.dst o.type (kw P T G n e o.dst jR k) o.op else rd T p m (kr P T G n e o.dst jR k p m) o.op
def kn(P:Program)(T:TT)(G:List Nat)(n:Nat)(e:List Oper)(d:Option Nat)(jR:List Oper)(k:Fr->E->Prop)(m:E)(p:Fr):Prop:=sK P T G n e jR (uw p d .un) m k
def VX{o:Oper}{jR:List Oper}{k:Fr->E->Prop}:sK P T G n e (o::jR) p m k=
 bif sF n o.dst then gd e p o.guard (ky P T G n e o jR k m) (kn P T G n e o.dst jR k m)else False:=rfl
abbrev LL:=List (Nat×List (Nat×Nat))
def Z2(P:Program)(T:TT)(G:List Nat)(n:Nat)(e:List Oper)(c a:List Nat)(b done:Nat)(o:Oper)(i:Nat)(m:E)(L:LL)(k:Fr->E->Prop)(p:Fr)(x:SV):Prop:=
 oX P T G n e c a b (done|||2^i) (uw p o.dst x) m ((i,Tm T p o.op)::L) k
def Z5(P:Program)(T:TT)(G:List Nat)(n:Nat)(e:List Oper)(c a:List Nat)(b done:Nat)(o:Oper)(i:Nat)(m:E)(L:LL)(k:Fr->E->Prop)(p:Fr):Prop:=
 rd T p m (Z2 P T G n e c a b done o i m L k p) o.op
def Zx(P:Program)(T:TT)(G:List Nat)(n:Nat)(e:List Oper)(c a:List Nat)(b done:Nat)(o:Oper)(i:Nat)(m:E)(L:LL)(k:Fr->E->Prop)(p:Fr):Prop:=
 oX P T G n e c a b (done|||2^i) (uw p o.dst .un) m L k
def Z3(P:Program)(T:TT)(G:List Nat)(n:Nat)(e:List Oper)(c a:List Nat)(b done:Nat)(o:Oper)(i:Nat)(m:E)(L:LL)(k:Fr->E->Prop)(p:Fr)(x:SV)(q:E):Prop:=
 DZ (uy a i) m q L (oX P T G n e c a b (done|||2^i) (uw p o.dst x) q L k)
def Z6(P:Program)(T:TT)(G:List Nat)(n:Nat)(e:List Oper)(c a:List Nat)(b done:Nat)(o:Oper)(i:Nat)(m:E)(L:LL)(k:Fr->E->Prop)(p:Fr):Prop:=
 wr P T G n p m o.dst o.type (Z3 P T G n e c a b done o i m L k) o.op
def Z4(P:Program)(T:TT)(G:List Nat)(n:Nat)(e:List Oper)(c a:List Nat)(b done:Nat)(m:E)(L:LL)(k:Fr->E->Prop)(p:Fr)(i:Nat):Prop:=match Io e i with
 |some o=>bif sF n o.dst then gd e p o.guard (Z6 P T G n e c a b done o i m L k) (Zx P T G n e c a b done o i m L k)else False
 |none=>False
def T0{a b:List Nat}{c done:Nat}{L:LL}{k:Fr->E->Prop}:oX P T G n e a b (c+1) done p m L k=match xr done 0 e a with
 |some i=>match Io e i with
  |some o=>bif sF n o.dst then gd e p o.guard (Z5 P T G n e a b c done o i m L k) (Zx P T G n e a b c done o i m L k)else False
  |none=>False
 |none=>match pV done 0 e a with
  |[]=>k p m
  |d=>OH d (Z4 P T G n e a b c done m L k p):=rfl
def TW{f:Nat->Prop}:OH [i] f=f i:=rfl
def TX{r:List Nat}{f:Nat->Prop}:OH (i::j::r) f=(f i/\OH (j::r) f):=rfl
def kq(Q:Exit->Fr->E->Prop)(p:Fr)(m:E):Prop:=Q .normal p m
def VZ{e:Array Oper}{a:Bool}:vc P T G n A (.region i e a) p m Q=
 bif a then oX P T G n e.toList (Vv e.toList) (TO [] e.toList) e.toList.length 0 p m [] (kq Q)
 else sK P T G n e.toList e.toList p m (kq Q):=rfl
def Z9(t:Nat)(s:Sh)(r:List (Nat×Sh))(I:s.ty->HQ r)(p:Fr)(k:Fr->(E->Prop)->Prop)(x:s.ty):Prop:=PK r (I x) ((t,.c (s.mk x))::p) k
def VN{r:List (Nat×Sh)}{I:s.ty->HQ r}{k:Fr->(E->Prop)->Prop}:PK ((t,s)::r) I p k=U1 s (Z9 t s r I p k):=rfl
def kam(t:Nat)(s:Sh)(r:List (Nat×Sh))(I:s.ty->HQ r)(μ:s.ty->OE r)(p:Fr)(k:Fr->(E->Prop)->(E->Nat)->Prop)(x:s.ty):Prop:=PL r (I x) (μ x) ((t,.c (s.mk x))::p) k
def VO{r:List (Nat×Sh)}{I:s.ty->HQ r}{μ:s.ty->OE r}{k:Fr->(E->Prop)->(E->Nat)->Prop}:PL ((t,s)::r) I μ p k=U1 s (kam t s r I μ p k):=rfl
def ks(P:Program)(T:TT)(G:List Nat)(n:Nat)(A:Px)(b:Code)(Q:Exit->Fr->E->Prop):Exit->Fr->E->Prop
 | .normal,u,q=>vc P T G n A b u q Q
 |e,u,q=>Q e u q
def kc(A:Px)(b:Code)(p:Fr)(l:List (Nat×Sh))(K:HQ l)(Q:Exit->Fr->E->Prop):Exit->Fr->E->Prop
 | .normal,u,q=>UQ p u (lj A b) (HU l K u q)
 |e,u,q=>Q e u q
def ki(P:Program)(T:TT)(G:List Nat)(n:Nat)(A:Px)(b:Code)(Q:Exit->Fr->E->Prop)(u:Fr)(a:E->Prop):Prop:=∀q,a q->vc P T G n A b u q Q
def V2{a b:Code}:vc P T G n A (.seq a b) p m Q=match Wb A.Vk b with
 |none=>vc P T G n A a p m (ks P T G n A b Q)
 |some l=>bif qb (oU a) l then∃K:HQ l,vc P T G n A a p m (kc A b p l K Q)/\
  PK l K (nN (oU a) (uP n (lj A b) p)) (ki P T G n A b Q)else False:=by
 unfold ks kc ki;rfl
def kb(i:Nat)(Q:Exit->Fr->E->Prop):Exit->Fr->E->Prop
 | .exit j,u,q=>bif Nat.beq j i then Q .normal u q else Q (.exit j) u q
 |e,u,q=>Q e u q
def RT:vc P T G n A (.block i c) p m Q=vc P T G n A c p m (kb i Q):=by
 unfold kb;rfl
def ke(A:Px)(c:Code)(p:Fr)(l:List (Nat×Sh))(I:HQ l)(μ:OE l)(N:Nat)(Q:Exit->Fr->E->Prop):Exit->Fr->E->Prop
 | .normal,a,b=>UQ p a (lj A c) (OK l I μ a b N)
 |e,a,b=>Q e a b
def kl(P:Program)(T:TT)(G:List Nat)(n:Nat)(A:Px)(c:Code)(p:Fr)(l:List (Nat×Sh))(I:HQ l)(μ:OE l)(Q:Exit->Fr->E->Prop)(u:Fr)(a:E->Prop)(μ':E->Nat):Prop:=
 ∀q,a q->vc P T G n A c u q (ke A c p l I μ (μ' q) Q)
def T9:vc P T G n A (.loop c) p m Q=match Wb A.Uk c with
 |none=>False
 |some l=>bif qb (oU c) l then∃(I:HQ l)(μ:OE l),HU l I p m/\
  PL l I μ (nN (oU c) (uP n (lj A c) p)) (kl P T G n A c p l I μ Q)else False:=by
 unfold kl ke;rfl
def kR(m:E)(R:Value->E->Prop)(l:List SV):Prop:=match l with
 |[x]=>R x.v m
 |l=>R (.tuple (l.map SV.v).toArray) m
def kx(x:SV)(k:List SV->Prop)(l:List SV):Prop:=k (x::l)
def kz(T:TT)(p:Fr)(m:E)(r:List ResultVar)(k:List SV->Prop)(x:SV):Prop:=bif x.jM then GJ T p m r (kx x k)else False
def RW{r:List ResultVar}{k:List SV->Prop}:GJ T p m (.tmp t::r) k=bif (iu p t).jM then GJ T p m r (kx (iu p t) k)else False:=rfl
def RX{a:Nat}{r:List ResultVar}{k:List SV->Prop}:GJ T p m (.cell a t::r) k=rd T p m (kz T p m r k) (.load t (.tmp a)):=rfl
def kf(T:TT)(a:List ResultVar)(R:Value->E->Prop):Exit->Fr->E->Prop
 | .normal,p,m=>GJ T p m a (kR m R)
 | .ret,p,m=>GJ T p m a (kR m R)
 |_,_,_=>False
def Yv{b:List ResultVar}{a:List SV}{R:Value->E->Prop}:Ti P T G A n b c a m R=vc P T G n A c (uO 0 a) m (kf T b R):=by
 unfold kf kR;rfl
end
def Tg(_:Prop):Type:=Prop
def Tg.p{q:Prop}(t:Tg q):Prop:=t
def Tg.lf(q:Prop):Tg q:=q
def Tg.pm{a b:Prop}{h:Tg a=Tg b}:Tg.p (Eq.mpr h (Tg.lf b))=b:=rfl
def rg1:List.range 1=[0]:=rfl
def rg2:List.range 2=[0,1]:=rfl
def rg3:List.range 3=[0,1,2]:=rfl
def rg4:List.range 4=[0,1,2,3]:=rfl
def rg5:List.range 5=[0,1,2,3,4]:=rfl
def rg6:List.range 6=[0,1,2,3,4,5]:=rfl
def rg7:List.range 7=[0,1,2,3,4,5,6]:=rfl
def Tg.pm2{a b c:Prop}{h:Tg a=Tg b}{d:Tg b=Tg c}:Tg.p (Eq.mpr h (Eq.mpr d (Tg.lf c)))=c:=rfl
def Wi(_ _:Prop):Type:=Unit
def mkT{a X:Prop}(_:Wi a X)(t:Tg a)(_:t.p=X):True:=trivial
end Go.Vc
end
namespace Go.Proofs.YtkoifinbblcbiaaGreat
open Go.Vc
section
noncomputable abbrev cq:=Tryz.prog
def Xj:TT:=[(0,⟨.tuple [],[],0⟩),
 (3,⟨.cell,[.I],8⟩),
 (4,⟨.cell,[.T],1⟩),
 (5,⟨.cell,[(.U .u8)],1⟩),
 (22,⟨.slice 5,[.S],24⟩),
 (23,⟨.slice 90,[.S],24⟩),
 (24,⟨.slice 43,[.S],24⟩),
 (26,⟨.struct [(0,23),(1,24)],[.S,.S],48⟩),
 (27,⟨.slice 3,[.S],24⟩),
 (28,⟨.slice 46,[.S],24⟩),
 (29,⟨.slice 38,[.S],24⟩),
 (31,⟨.struct [(0,3),(1,3),(2,3),(3,3),(4,27),(5,28),(6,29)],[.I,.I,.I,.I,.S,.S,.S],104⟩),
 (32,⟨.tuple [26,31],[],0⟩),
 (34,⟨.tuple [31,4],[],0⟩),
 (38,⟨.struct [(0,3),(1,3),(2,3),(3,27),(4,27),(5,27)],[.I,.I,.I,.S,.S,.S],96⟩),
 (40,⟨.struct [(0,3),(1,3),(2,3),(3,3),(4,27),(5,27)],[.I,.I,.I,.I,.S,.S],80⟩),
 (41,⟨.slice 40,[.S],24⟩),
 (43,⟨.struct [(0,27),(1,27),(2,3),(3,3),(4,41)],[.S,.S,.I,.I,.S],88⟩),
 (46,⟨.struct [(0,3),(1,3),(2,27)],[.I,.I,.S],40⟩),
 (49,⟨.tuple [26,31,3],[],0⟩),
 (54,⟨.tuple [26,3],[],0⟩),
 (57,⟨.struct [(0,3),(1,3),(2,3),(3,3),(4,3),(5,3),(6,3),(7,3)],[.I,.I,.I,.I,.I,.I,.I,.I],64⟩),
 (58,⟨.tuple [57,4],[],0⟩),
 (63,⟨.cell,[.P],8⟩),
 (68,⟨.struct [(0,26),(2,3),(3,31)],[.S,.S,.I,.I,.I,.I,.I,.S,.S,.S],160⟩),
 (69,⟨.cell,[.P],8⟩),
 (71,⟨.struct [(0,26),(2,31)],[.S,.S,.I,.I,.I,.I,.S,.S,.S],152⟩),
 (87,⟨.struct [(0,22),(1,3)],[.S,.I],32⟩),
 (88,⟨.slice 218,[.S],24⟩),
 (90,⟨.struct [(0,3),(1,3),(2,88)],[.I,.I,.S],40⟩),
 (94,⟨.cell,[.P],8⟩),
 (95,⟨.cell,[.P],8⟩),
 (101,⟨.cell,[.F],8⟩),
 (107,⟨.slice 163,[.S],24⟩),
 (109,⟨.struct [(0,23),(1,107)],[.S,.S],48⟩),
 (110,⟨.tuple [109,4],[],0⟩),
 (113,⟨.tuple [27,4],[],0⟩),
 (120,⟨.cell,[.P],8⟩),
 (122,⟨.slice 175,[.S],24⟩),
 (124,⟨.struct [(0,23),(1,122)],[.S,.S],48⟩),
 (127,⟨.cell,[.P],8⟩),
 (129,⟨.struct [(0,3),(1,3),(2,3),(3,3),(4,3),(5,3),(6,3),(7,3)],[.I,.I,.I,.I,.I,.I,.I,.I],64⟩),
 (130,⟨.tuple [3,3],[],0⟩),
 (135,⟨.tuple [27,27],[],0⟩),
 (140,⟨.slice 46,[.S],24⟩),
 (163,⟨.struct [(0,27),(1,27),(2,3)],[.S,.S,.I],56⟩),
 (167,⟨.tuple [3,4],[],0⟩),
 (171,⟨.slice 173,[.S],24⟩),
 (173,⟨.struct [(0,3),(1,3),(2,171)],[.I,.I,.S],40⟩),
 (175,⟨.struct [(0,27),(1,3),(2,173)],[.S,.I,.I,.I,.S],72⟩),
 (181,⟨.slice 205,[.S],24⟩),
 (183,⟨.struct [(0,23),(1,181)],[.S,.S],48⟩),
 (188,⟨.cell,[.F],8⟩),
 (189,⟨.cell,[.P],8⟩),
 (191,⟨.slice 4,[.S],24⟩),
 (201,⟨.slice 226,[.S],24⟩),
 (203,⟨.struct [(0,201),(1,3)],[.S,.I],32⟩),
 (205,⟨.struct [(0,27),(1,27),(2,3),(3,203)],[.S,.S,.I,.S,.I],88⟩),
 (206,⟨.cell,[.P],8⟩),
 (208,⟨.struct [(0,41)],[.S],24⟩),
 (218,⟨.struct [(0,27)],[.S],24⟩),
 (220,⟨.map 3 3,[.M],8⟩),
 (222,⟨.tuple [3,218],[],0⟩),
 (224,⟨.slice 203,[.S],24⟩),
 (226,⟨.struct [(0,3),(1,3),(2,3),(3,27),(4,224)],[.I,.I,.I,.S,.S],72⟩),
 (229,⟨.cell,[.P],8⟩),
 (230,⟨.tuple [229,4],[],0⟩),
 (233,⟨.struct [(0,27),(1,27),(2,27),(3,27),(4,27),(5,27),(6,27)],[.S,.S,.S,.S,.S,.S,.S],168⟩),
 (259,⟨.slice 27,[.S],24⟩),
 (275,⟨.cell,[.P],8⟩),
 (277,⟨.struct [(0,201),(1,3)],[.S,.I],32⟩)]
abbrev tg:Nat:=4
abbrev QB:Nat:=22
abbrev dh:Nat:=203
abbrev mf:Nat:=46
abbrev px:Nat:=218
abbrev j7:Nat:=90
abbrev bH:Nat:=173
abbrev dP:Nat:=38
abbrev fu:Nat:=175
abbrev vM:Nat:=26
abbrev dX:Nat:=40
abbrev ns:Nat:=183
abbrev jD:Nat:=43
abbrev kL:Nat:=124
abbrev jT:Nat:=205
abbrev iA:Nat:=31
abbrev gG:Nat:=226
abbrev eC:Nat:=140
abbrev bB:Nat:=68
abbrev qt:Nat:=163
abbrev mg:Nat:=109
abbrev aA:Nat:=3
abbrev yr:Nat:=27
abbrev oI:Nat:=208
abbrev Cb:Nat:=233
abbrev lH:Nat:=277
abbrev bL:Nat:=71
abbrev qu:Nat:=87
abbrev Uz:Nat:=5
def Pr:uN cq Xj:=by
 unfold uN;kernel_rfl
def GL:List Nat:=List.range' 3 337
def Zz:UY cq GL:=by
 unfold UY;kernel_rfl
def ZA:cq.follows .mixedOrders=true:=by kernel_rfl
def nbq(a b:Nat):Nat.beq a b=(a==b):=by rw[JT];simp
def nbl(a b:Nat):Nat.ble a b=(a -b==0):=by rw[JT];simp;omega
def nbt(a b:Nat):Nat.blt a b=(a+1 -b==0):=by rw[JT];simp[Nat.blt];omega
def gel(g:Nat):List.elem g GL=(3 -g==0&&(g -339==0)):=by rw[JT];simp[GL];omega
section
variable{α β:Type}{a:α}{b:β}
def atl(l:List α):(Array.mk l).toList=l:=rfl
end
section
variable(a b c d e f)
def o1:(Oper.mk a b c d e f).dst=a:=rfl
def o2:(Oper.mk a b c d e f).op=b:=rfl
def o3:(Oper.mk a b c d e f).type=c:=rfl
def o5:(Oper.mk a b c d e f).after=e:=rfl
def o6:(Oper.mk a b c d e f).guard=f:=rfl
end
section
variable(a b c)
def a2:(Px.mk a b c).Uk=a:=rfl
def a3:(Px.mk a b c).Vk=b:=rfl
def a4:(Px.mk a b c).eA=c:=rfl
def t1:(TI.mk a b c).Ij=a:=rfl
def t2:(TI.mk a b c).sh=b:=rfl
def t3:(TI.mk a b c).bytes=c:=rfl
def g1:(Edge.mk a b).on=a:=rfl
def g2:(Edge.mk a b).ground=b:=rfl
end
def A0:Px:=⟨[],[],[]⟩
def cI(x:Int):SV:=.c (.i x)
def cS(x:O):SV:=.c (.s x)
def cP(x:Nat×Nat):SV:=.c (.p x.1 x.2)
instance:Coe Int SV:=⟨cI⟩
instance:Coe O SV:=⟨cS⟩
instance:Coe (Nat×Nat) SV:=⟨cP⟩
instance:Coe Int Ce:=⟨.i⟩
instance:Coe O Ce:=⟨.s⟩
def nm(n:Nat){x:TI}(h:fL Xj n=some x:=by cbv):fL Xj n=some x:=h
def tg0:=nm 0
def tg3:=nm 3
def tg4:=nm 4
def tg5:=nm 5
def YU:=nm 22
def YV:=nm 23
def YW:=nm 24
def YX:=nm 26
def YY:=nm 27
def YZ:=nm 28
def Y0:=nm 29
def Y1:=nm 31
def Y2:=nm 32
def Y3:=nm 34
def Y4:=nm 38
def Y5:=nm 40
def Y6:=nm 41
def Y7:=nm 43
def Y8:=nm 46
def Y9:=nm 49
def Za:=nm 54
def Zb:=nm 57
def Zc:=nm 58
def Zd:=nm 63
def Ze:=nm 68
def Zf:=nm 69
def Zg:=nm 71
def Zh:=nm 87
def Zi:=nm 88
def Zj:=nm 90
def Zk:=nm 94
def Zl:=nm 95
def Wg:=nm 101
def Wh:=nm 107
def Wj:=nm 109
def Wk:=nm 110
def Wl:=nm 113
def Wm:=nm 120
def Wn:=nm 122
def Wo:=nm 124
def Wp:=nm 127
def Wq:=nm 129
def Wr:=nm 130
def Ws:=nm 135
def Wt:=nm 140
def Wu:=nm 163
def Wv:=nm 167
def Ww:=nm 171
def Wx:=nm 173
def Wy:=nm 175
def Wz:=nm 181
def WA:=nm 183
def WC:=nm 188
def WD:=nm 189
def WE:=nm 191
def WG:=nm 201
def WH:=nm 203
def WI:=nm 205
def WJ:=nm 206
def WK:=nm 208
def WM:=nm 218
def WN:=nm 220
def WO:=nm 222
def WQ:=nm 224
def WR:=nm 226
def WT:=nm 229
def WU:=nm 230
def WV:=nm 233
def WW:=nm 259
def WY:=nm 275
def WZ:=nm 277
def cY(m:E)(R:Value->E->Prop)(A:Px)(a:List SV){f:FuncId}{b:Go.Func}{X:Prop}{c:Code}{n:Nat}{e:List ResultVar}{g:List Value}(k:cq.funcs[f]? =some b)
 (d:(b.body,b.ntmps,b.results)=(some c,n,Array.mk e):=by cbv)
 (i:a.all SV.jM=true:=by kernel_rfl)(l:Nat.ble a.length n=true:=by kernel_rfl)(hd:qE c=true:=by kernel_rfl)
 (o:a.map SV.v=g:=by dsimp only[List.map,cI,cS,cP,SV.v,Ce.v])
 (w:Wi (Ti cq Xj GL A n e c a m R) X->True:=by intro w;obtain - :=mkT w (by sym -abstractProof=>simp[gel,A0.eq_1,cI.eq_1,cS.eq_1,cP.eq_1,tg0,tg3,tg4,tg5,YU,YV,YW,YX,YY,YZ,Y0,Y1,Y2,Y3,Y4,Y5,Y6,Y7,Y8,Y9,Za,Zb,Zc,Zd,Ze,Zf,Zg,Zh,Zi,Zj,Zk,Zl,Wg,Wh,Wj,Wk,Wl,Wm,Wn,Wo,Wp,Wq,Wr,Ws,Wt,Wu,Wv,Ww,Wx,Wy,Wz,WA,WC,WD,WE,WG,WH,WI,WJ,WK,WM,WN,WO,WQ,WR,WT,WU,WV,WW,WY,WZ,nbq,nbl,nbt,atl,o1,o2,o3,o5,o6,a2,a3,a4,t1,t2,t3,g1,g2,cK,fH,cZ,eF,Ow,List.all_nil,aZ,eW,List.elem_cons,Ov,Bool.false_and,VH,VG,Bool.true_or,Ou,MJ,Bool.and_true,ov,Option.map_none,iC,ju,mG,List.flatMap_nil,List.isEmpty_cons,List.isEmpty_nil,List.any_cons,QI,qW,NA,uO.eq_1,uO.eq_2,vc.eq_1,vc.eq_4,vc.eq_6,vc.eq_7,vc.eq_8,uX.eq_def,YO.eq_def,Wd.eq_def,rj.eq_1,rj.eq_2,LR.eq_def,UQ.eq_1,UQ.eq_2,uP.eq_1,DJ.eq_1,DJ.eq_2,lj.eq_1,qb.eq_1,qb.eq_2,oU.eq_def,nN.eq_1,nN.eq_2,PL.eq_1,PK.eq_1,OK.eq_1,OK.eq_2,HU.eq_1,HU.eq_2,Ra.eq_def,Wb.eq_1,DN.eq_def,lk.eq_1,lk.eq_2,oX.eq_1,DZ.eq_1,DZ.eq_2,Ma.eq_1,Ma.eq_2,pV.eq_def,xr.eq_def,kQ.eq_1,oF.eq_1,oF.eq_2,lE.eq_1,uy.eq_1,uy.eq_2,uy.eq_3,sK.eq_1,Ae.eq_1,Ae.eq_2,gd.eq_1,gd.eq_2,Lr.eq_1,sF.eq_1,sF.eq_2,LA.eq_def,wr.eq_1,wr.eq_2,wr.eq_4,wr.eq_6,wr.eq_8,wr.eq_9,wr.eq_10,wr.eq_11,xH.eq_1,xH.eq_2,SL.eq_1,UR.eq_1,MN.eq_def,AH.eq_def,rd.eq_1,rd.eq_2,rd.eq_3,rd.eq_4,rd.eq_5,rd.eq_6,rd.eq_7,rd.eq_8,rd.eq_9,rd.eq_10,rd.eq_11,rd.eq_12,rd.eq_13,rd.eq_15,Tm.eq_def,VU,VV,VW,NR.eq_1,HA.eq_1,HA.eq_2,OU.eq_1,Nh.eq_1,Nh.eq_2,vC.eq_1,vC.eq_2,FW.eq_1,FW.eq_2,mq.eq_1,mq.eq_2,mq.eq_3,mq.eq_4,mq.eq_5,SV.cells.eq_def,ZF.eq_def,Vq.eq_def,U8.eq_def,rZ.eq_1,rZ.eq_2,rZ.eq_3,rZ.eq_6,rZ.eq_7,rZ.eq_8,rZ.eq_9,rZ.eq_10,rZ.eq_11,rZ.eq_12,VY,V0,V9.eq_1,Io.eq_1,Io.eq_2,Io.eq_3,lA.eq_def,SV.jM.eq_def,TI.uU.eq_1,TI.agg.eq_1,Sh.zero.eq_1,Sh.zero.eq_2,Sh.zero.eq_3,Sh.zero.eq_4,Sh.zero.eq_5,Sh.zero.eq_6,Sh.zero.eq_7,ev.eq_1,ev.eq_2,ev.eq_3,ev.eq_4,FZ.eq_def,pO.eq_1,pO.eq_2,kN.eq_1,kN.eq_3,kN.eq_4,kN.eq_5,kN.eq_6,kN.eq_7,uw.eq_1,uw.eq_2,SV.nb.eq_def,iu.eq_1,iu.eq_2,AV.sv.eq_1,AV.sv.eq_2,SV.v.eq_1,SV.v.eq_2,SV.v.eq_3,SV.v.eq_4,SV.v.eq_5,SV.v.eq_6,SV.v.eq_7,SV.v.eq_8,SV.v.eq_9,AV.v.eq_1,AV.v.eq_2,Ce.v.eq_1,Ce.v.eq_2,Ce.v.eq_3,Ce.v.eq_4,Ce.v.eq_5,Ce.v.eq_6,Ce.v.eq_7,Ce.v.eq_8,Ce.v.eq_9,Ce.v.eq_10,Ce.v.eq_11,Ce.v.eq_12,Ce.v.eq_13,vA.eq_1,vA.eq_2,Ud.eq_1,Ga.eq_def,jf.eq_1,jf.eq_2,HQ.eq_1,HQ.eq_2,OE.eq_1,OE.eq_2,Sh.ty.eq_1,Sh.ty.eq_2,Sh.ty.eq_3,Sh.ty.eq_4,Sh.ty.eq_5,Sh.ty.eq_6,Sh.ty.eq_7,Sh.mk.eq_1,Sh.mk.eq_2,Sh.mk.eq_3,Sh.mk.eq_4,Sh.mk.eq_5,Sh.mk.eq_6,Sh.mk.eq_7,OL.eq_1,SV.Vf.eq_def,AV.Vf.eq_1,AV.Vf.eq_2,GJ.eq_1,Vv.eq_1,Vv.eq_2,TO.eq_1,TO.eq_2,kld.eq_1,klc.eq_1,kxc.eq_1,kxs.eq_1,krc.eq_1,Z9.eq_1,kam.eq_1,pa.eq_1,p3.eq_1,p2.eq_1,Sb.eq_1,Vo.eq_1,khi.eq_1,klo.eq_1,YJ.eq_1,kxt.eq_1,krt.eq_1,krs.eq_1,Vp.eq_1,kbs.eq_1,kcp.eq_1,kw.eq_1,kr.eq_1,ky.eq_1,kn.eq_1,Z2.eq_1,Z5.eq_1,Zx.eq_1,Z3.eq_1,Z6.eq_1,Z4.eq_1,kq.eq_1,ks.eq_def,kc.eq_def,ki.eq_1,kb.eq_def,ke.eq_def,kl.eq_1,kR.eq_def,kx.eq_1,kz.eq_1,kf.eq_def,OH.eq_1,Yw,T5,RY,RU,VR,VS,V1,TY,Yt,TZ,VX,T0,TW,TX,VZ,V2,RT,T9,RW,RX,Yv,Yu,VN,VO,exI,exU,exB,YB,exP,exF,exM,alI,alU,alB,Yl,alP,alF,alM,cU8,z0,z1,tb,VP,b1,b2,b3,b4,b5,b6,Ua,Ub,Yz,Yy,Yx,VQ,VT,rg1,rg2,rg3,rg4,rg5,rg6,rg7,jJ];exact Tg.lf _) (by refine Tg.pm.trans ?_;dsimp -zeta+instances only[↓Si,ile,↓YH,nze,nce,HQ,OE,Sh.ty,Int.cast_ofNat_Int]);trivial)
 (j:X=Ti cq Xj GL A n e c a m R:=by kernel_rfl)
 :X->aN cq f g m R:=λh=>by
 subst o
 exact yu Pr Zz ZA k (oA Prod.fst d) (oA (λx=>x.2.1) d) (oA (λx=>x.2.2) d) i (lM l) hd (j▸h)
def aag(m:E)(R:Value->E->Prop)(A:Px)(a:List SV){f:FuncId}{b:Go.Func}{X:Prop}{c:Code}{n:Nat}{e:List ResultVar}{g:List Value}(k:cq.funcs[f]? =some b)
 (d:(b.body,b.ntmps,b.results)=(some c,n,Array.mk e):=by cbv)
 (i:a.all SV.jM=true:=by kernel_rfl)(l:Nat.ble a.length n=true:=by kernel_rfl)(hd:qE c=true:=by kernel_rfl)
 (o:a.map SV.v=g:=by dsimp only[List.map,cI,cS,cP,SV.v,Ce.v])
 (w:Wi (Ti cq Xj GL A n e c a m R) X->True:=by intro w;obtain - :=mkT w (by sym -abstractProof=>simp[gel,A0.eq_1,cI.eq_1,cS.eq_1,cP.eq_1,tg0,tg3,tg4,tg5,YU,YV,YW,YX,YY,YZ,Y0,Y1,Y2,Y3,Y4,Y5,Y6,Y7,Y8,Y9,Za,Zb,Zc,Zd,Ze,Zf,Zg,Zh,Zi,Zj,Zk,Zl,Wg,Wh,Wj,Wk,Wl,Wm,Wn,Wo,Wp,Wq,Wr,Ws,Wt,Wu,Wv,Ww,Wx,Wy,Wz,WA,WC,WD,WE,WG,WH,WI,WJ,WK,WM,WN,WO,WQ,WR,WT,WU,WV,WW,WY,WZ,nbq,nbl,nbt,atl,o1,o2,o3,o5,o6,a2,a3,a4,t1,t2,t3,g1,g2,cK,fH,cZ,eF,Ow,List.all_nil,aZ,eW,List.elem_cons,Ov,Bool.false_and,VH,VG,Bool.true_or,Ou,MJ,Bool.and_true,ov,Option.map_none,iC,ju,mG,List.flatMap_nil,List.isEmpty_cons,List.isEmpty_nil,List.any_cons,QI,qW,NA,uO.eq_1,uO.eq_2,vc.eq_1,vc.eq_4,vc.eq_6,vc.eq_7,vc.eq_8,uX.eq_def,YO.eq_def,Wd.eq_def,rj.eq_1,rj.eq_2,LR.eq_def,UQ.eq_1,UQ.eq_2,uP.eq_1,DJ.eq_1,DJ.eq_2,lj.eq_1,qb.eq_1,qb.eq_2,oU.eq_def,nN.eq_1,nN.eq_2,PL.eq_1,PK.eq_1,OK.eq_1,OK.eq_2,HU.eq_1,HU.eq_2,Ra.eq_def,Wb.eq_1,DN.eq_def,lk.eq_1,lk.eq_2,oX.eq_1,DZ.eq_1,DZ.eq_2,pV.eq_def,xr.eq_def,kQ.eq_1,oF.eq_1,oF.eq_2,lE.eq_1,uy.eq_1,uy.eq_2,uy.eq_3,sK.eq_1,Ae.eq_1,Ae.eq_2,gd.eq_1,gd.eq_2,Lr.eq_1,sF.eq_1,sF.eq_2,LA.eq_def,wr.eq_1,wr.eq_2,wr.eq_4,wr.eq_6,wr.eq_8,wr.eq_9,wr.eq_10,wr.eq_11,xH.eq_1,xH.eq_2,SL.eq_1,UR.eq_1,MN.eq_def,AH.eq_def,rd.eq_1,rd.eq_2,rd.eq_3,rd.eq_4,rd.eq_5,rd.eq_6,rd.eq_7,rd.eq_8,rd.eq_9,rd.eq_10,rd.eq_11,rd.eq_12,rd.eq_13,rd.eq_15,Tm.eq_def,VU,VV,VW,NR.eq_1,HA.eq_1,HA.eq_2,OU.eq_1,Nh.eq_1,Nh.eq_2,vC.eq_1,vC.eq_2,FW.eq_1,FW.eq_2,mq.eq_1,mq.eq_2,mq.eq_3,mq.eq_4,mq.eq_5,SV.cells.eq_def,ZF.eq_def,Vq.eq_def,U8.eq_def,rZ.eq_1,rZ.eq_2,rZ.eq_3,rZ.eq_6,rZ.eq_7,rZ.eq_8,rZ.eq_9,rZ.eq_10,rZ.eq_11,rZ.eq_12,VY,V0,V9.eq_1,Io.eq_1,Io.eq_2,Io.eq_3,lA.eq_def,SV.jM.eq_def,TI.uU.eq_1,TI.agg.eq_1,Sh.zero.eq_1,Sh.zero.eq_2,Sh.zero.eq_3,Sh.zero.eq_4,Sh.zero.eq_5,Sh.zero.eq_6,Sh.zero.eq_7,ev.eq_1,ev.eq_2,ev.eq_3,ev.eq_4,FZ.eq_def,pO.eq_1,pO.eq_2,kN.eq_1,kN.eq_3,kN.eq_4,kN.eq_5,kN.eq_6,kN.eq_7,uw.eq_1,uw.eq_2,SV.nb.eq_def,iu.eq_1,iu.eq_2,AV.sv.eq_1,AV.sv.eq_2,SV.v.eq_1,SV.v.eq_2,SV.v.eq_3,SV.v.eq_4,SV.v.eq_5,SV.v.eq_6,SV.v.eq_7,SV.v.eq_8,SV.v.eq_9,AV.v.eq_1,AV.v.eq_2,Ce.v.eq_1,Ce.v.eq_2,Ce.v.eq_3,Ce.v.eq_4,Ce.v.eq_5,Ce.v.eq_6,Ce.v.eq_7,Ce.v.eq_8,Ce.v.eq_9,Ce.v.eq_10,Ce.v.eq_11,Ce.v.eq_12,Ce.v.eq_13,vA.eq_1,vA.eq_2,Ud.eq_1,Ga.eq_def,jf.eq_1,jf.eq_2,HQ.eq_1,HQ.eq_2,OE.eq_1,OE.eq_2,Sh.ty.eq_1,Sh.ty.eq_2,Sh.ty.eq_3,Sh.ty.eq_4,Sh.ty.eq_5,Sh.ty.eq_6,Sh.ty.eq_7,Sh.mk.eq_1,Sh.mk.eq_2,Sh.mk.eq_3,Sh.mk.eq_4,Sh.mk.eq_5,Sh.mk.eq_6,Sh.mk.eq_7,OL.eq_1,SV.Vf.eq_def,AV.Vf.eq_1,AV.Vf.eq_2,GJ.eq_1,Vv.eq_1,Vv.eq_2,TO.eq_1,TO.eq_2,kld.eq_1,klc.eq_1,kxc.eq_1,kxs.eq_1,krc.eq_1,Z9.eq_1,kam.eq_1,pa.eq_1,p3.eq_1,p2.eq_1,Sb.eq_1,Vo.eq_1,khi.eq_1,klo.eq_1,YJ.eq_1,kxt.eq_1,krt.eq_1,krs.eq_1,Vp.eq_1,kbs.eq_1,kcp.eq_1,kw.eq_1,kr.eq_1,ky.eq_1,kn.eq_1,Z2.eq_1,Z5.eq_1,Zx.eq_1,Z3.eq_1,Z6.eq_1,Z4.eq_1,kq.eq_1,ks.eq_def,kc.eq_def,ki.eq_1,kb.eq_def,ke.eq_def,kl.eq_1,kR.eq_def,kx.eq_1,kz.eq_1,kf.eq_def,OH.eq_1,Yw,T5,RY,RU,VR,VS,V1,TY,Yt,TZ,VX,T0,TW,TX,VZ,V2,RT,T9,RW,RX,Yv,Yu,VN,VO,exI,exU,exB,YB,exP,exF,exM,alI,alU,alB,Yl,alP,alF,alM,cU8,z0,z1,tb,VP,b1,b2,b3,b4,b5,b6,Ua,Ub,Yz,Yy,Yx,VQ,VT];simp[cK,fH,jJ,Ma.eq_1,Ma.eq_2,rg1,rg2,rg3,rg4,rg5,rg6,rg7];exact Tg.lf _) (by refine Tg.pm2.trans ?_;dsimp -zeta+instances only[↓Si,ile,↓YH,nze,nce,HQ,OE,Sh.ty,Int.cast_ofNat_Int]);trivial)
 (j:X=Ti cq Xj GL A n e c a m R:=by kernel_rfl)
 :X->aN cq f g m R:=λh=>by
 subst o
 exact yu Pr Zz ZA k (oA Prod.fst d) (oA (λx=>x.2.1) d) (oA (λx=>x.2.2) d) i (lM l) hd (j▸h)
end
section
open Tryz
variable{m:E}{R:Value->E->Prop}
variable{a b c d e f g h p q r u v w x y:O}{i j k l n o s t z A B C D F G H:Int}
def Ak(a:O):=cY m R ⟨[],[(4,[(6,.P)])],[(4,[26,25,24])]⟩ [.agg [a,b],.agg [i,j,k,l,c,d,e]] func13
def zc(i:Int):=cY m R A0 [.agg [i,j,k,l,a,b,c],.agg [n,o,s,t,d,e,f]] func15
def Ax(a:O):=cY m R ⟨[(4,[(5,.I)])],[],[]⟩ [a,b] func16
def y9(i:Int):=cY m R A0 [.agg [i,j,k,a,b,c],.agg [l,n,o,d,e,f]] func17
def wF(a:O):=cY m R A0 [a] func18
def CD(a:O):=cY m R ⟨[(5,[(9,.I)])],[(4,[(8,.P)])],[(4,[50,48,47]),(5,[50,48,47])]⟩ [.agg [a,b],.agg [i,j,k,l,c,d,e],n] func19
def CM(a:O):=cY m R A0 [.agg [a,b],.agg [i,j,k,l,c,d,e],n] func20
end
section
open Tryz
variable{m:E}{R:Value->E->Prop}
variable{a b c d e f g h p q r u v w x y:O}{i j k l n o s t z A B C D F G H:Int}
def yS(a:O):=cY m R A0 [.agg [a,b],.agg [i,j,k,l,c,d,e]] func21
def zj(p:Nat×Nat):=cY m R A0 [p] func29
def Bu(a:O):=cY m R A0 [a] func30
def CG(a:O):=cY m R ⟨[(3,[(3,.I),(8,.I)])],[],[]⟩ [a] func31
def yU(i:Int):=cY m R ⟨[(3,[(20,.I)])],[],[(3,[52,53])]⟩ [.agg [i,j,k,l,a,b,c]] func32
def wm(p:Nat×Nat):=cY m R ⟨[],[(5,[(4,.T)])],[(5,[91])]⟩ [p] func33
def zL(a:O):=cY m R ⟨[(8,[(5,.I)])],[(5,[])],[(5,[93,92]),(8,[93,92])]⟩ [.agg [a,b],.agg [i,j,k,l,c,d,e]] func34
def A2(i:Int):=cY m R ⟨[(3,[(4,.I)])],[(2,[(3,.P)])],[(2,[58,57]),(3,[58,57])]⟩ [.agg [i,j,k,l,a,b,c]] func35
def wS(p:Nat×Nat):=cY m R A0 [p] func36
def Aw(a:O):=cY m R ⟨[(4,[(5,.I)])],[],[]⟩ [a,b] func37
def xG(a:O):=cY m R ⟨[(4,[(5,.I)])],[],[]⟩ [a,b] func38
def zA(p:Nat×Nat):=cY m R A0 [p,a] func39
def yd(p:Nat×Nat):=cY m R A0 [p,i] func40
end
section
open Tryz
variable{m:E}{R:Value->E->Prop}
variable{a b c d e f g h p q r u v w x y:O}{i j k l n o s t z A B C D F G H:Int}
def EV(i:Int):=cY m R A0 [i,j,k] func41
def xY(p:Nat×Nat):=cY m R ⟨[(2,[(5,.I)])],[],[]⟩ [p,i] func42
def yR(a:O):=cY m R ⟨[(5,[(20,.I)]),(13,[(66,.I)])],[(12,[])],[(5,[82,80]),(12,[85,82,80]),(13,[85,82,80])]⟩ [.agg [a,b]] func43
def yZ(a:O):=cY m R ⟨[(10,[(95,.I)]),(20,[(158,.I)])],[(3,[]),(16,[]),(24,[])],[(3,[191,190]),(10,[191,190]),(16,[197,191,190]),(20,[191,190]),(24,[191,190])]⟩ [.agg [a,b],.agg [i,j,k,l,c,d,e]] func44
def zI(a:O):=cY m R ⟨[(4,[(3,.I)])],[],[(4,[30])]⟩ [.agg [a,b]] func51
def CQ(p:Nat×Nat):=cY m R A0 [p] func53
def zE(p:Nat×Nat):=cY m R A0 [p,.agg [i,j,k,l,a,b,c]] func54
def Bh(p:Nat×Nat):=cY m R A0 [p,.agg [a,b]] func55
def tO(a:O):=cY m R A0 [a] func56
def An(a:O):=cY m R ⟨[(3,[(10,.I)])],[],[]⟩ [a] func57
def mM(a:O):=cY m R A0 [a] func58
end
section
open Tryz
variable{m:E}{R:Value->E->Prop}
variable{a b c d e f g h p q r u v w x y:O}{i j k l n o s t z A B C D F G H:Int}
def xz(p q:Nat×Nat):=cY m R ⟨[(4,[(28,.I)]),(14,[(65,.I)])],[(13,[])],[(4,[212,211]),(13,[212,211]),(14,[212,211])]⟩ [p,q,.agg [i,j,k,l,a,b]] func59
def yX(p q:Nat×Nat):=cY m R ⟨[(3,[(24,.I)])],[],[(3,[353])]⟩ [p,q,.agg [i,j,k,l,a,b]] func60
def zh(a:O):=cY m R ⟨[(2,[(3,.I)])],[],[]⟩ [a] func61
def BR(a:O):=cY m R ⟨[(4,[(3,.I)]),(10,[(5,.I)])],[(3,[])],[]⟩ [a] func62
def zH(a:O):=cY m R A0 [.agg [a,b],.agg [i,j,k,l,c,d,e],n] func63
def Dh(i:Int):=cY m R ⟨[(3,[(4,.I)]),(6,[(5,.I)]),(14,[(7,.I)])],[],[(3,[101]),(6,[101]),(14,[101])]⟩ [.agg [i,j,k,l,a,b,c]] func64
def xR(i:Int):=cY m R ⟨[(4,[(5,.I)])],[],[(4,[44])]⟩ [.agg [i,j,k,l,a,b,c]] func65
def nL(a:O):=cY m R A0 [a] func66
def CX(a:O):=cY m R ⟨[(3,[(3,.S),(4,.I)])],[],[]⟩ [a] func67
def Hd(i:Int):=cY m R A0 [i] func68
def Ds(i:Int):=cY m R ⟨[(3,[(6,.I)])],[],[(3,[42])]⟩ [.agg [i,j,k,a,b,c],d] func69
def Fm(a:O):=cY m R ⟨[(4,[(5,.S),(6,.I)])],[(3,[(30,.T)])],[(3,[70,69]),(4,[70,69])]⟩ [.agg [a,b],.agg [i,j,k,l,c,d]] func70
def uH(p:Nat×Nat):=cY m R ⟨[],[(3,[])],[(3,[226,225])]⟩ [p,.agg [i,j,k,a,b,c],.agg [l,n,o,s,d,e],f] func71
def tU(p:Nat×Nat):=cY m R A0 [p,.agg [i,j,k,a,b,c],.agg [l,n,o,s,d,e]] func72
def Av(i:Int):=cY m R A0 [.agg [i,j,a],.agg [k,l,b]] func73
def Aq(a:O):=cY m R ⟨[(5,[(18,.I)])],[],[(5,[43,42])]⟩ [.agg [a,b]] func74
def pR(a:O):=cY m R ⟨[(6,[(88,.I)])],[(5,[])],[(5,[147,146,145,144]),(6,[147,146,145,144])]⟩ [.agg [a,b],.agg [c,d,i,j,e],k,.agg [l,n,o,s,f,g]] func75
def If(i:Int):=cY m R A0 [i] func76
end
section
open Tryz
variable{m:E}{R:Value->E->Prop}
variable{a b c d e f g h p q r u v w x y:O}{i j k l n o s t z A B C D F G H:Int}
def xy(a:O):=cY m R ⟨[(3,[(26,.I)]),(8,[(37,.I)]),(21,[(12,.S),(73,.I)]),(28,[(12,.S),(13,.I)]),(33,[(12,.S),(127,.I)])],[(17,[])],[(8,[165]),(33,[175])]⟩ [a] func77
def pC(s:O)(f:Fn×Array Value×Array Value):=cY m R A0 [s,.c (.fv f)] func78
def wu(i:Int):=cY m R A0 [i] func79
def yV(a:O):=cY m R ⟨[(7,[(63,.I)])],[],[(7,[97,95,94])]⟩ [.agg [a,b],.agg [i,j,k,c,d,e]] func80
def xu(i:Int):=cY m R ⟨[(2,[(17,.I)])],[(9,[])],[(2,[82]),(9,[82])]⟩ [.agg [i,j,k,a,b,c],d,e,f] func81
def CI(a:O):=cY m R A0 [.agg [a,b],i,j] func83
def BY(a:O):=cY m R ⟨[(4,[(3,.I)])],[],[(4,[65])]⟩ [.agg [a,b]] func84
def yg(a:O):=cY m R ⟨[(3,[(4,.I)])],[],[(3,[37,36])]⟩ [.agg [a,b]] func85
def BV(a:O):=cY m R ⟨[(5,[(6,.I)])],[],[(5,[62,61])]⟩ [.agg [a,b],.agg [c,d,i,j,e]] func86
def zG(a:O):=cY m R A0 [.agg [a,b],i] func87
def Bg(p:Nat×Nat):=cY m R A0 [p] func90
def AQ(p:Nat×Nat):=cY m R ⟨[(3,[(6,.I)])],[],[(3,[57,56,55])]⟩ [p,.agg [a,b]] func91
def zC(p:Nat×Nat):=cY m R A0 [p,.agg [a,b],i] func92
def ta(p:Nat×Nat):=cY m R A0 [p,a] func93
def nj(a:O):=cY m R A0 [a] func94
end
section
open Tryz
variable{m:E}{R:Value->E->Prop}
variable{a b c d e f g h p q r u v w x y:O}{i j k l n o s t z A B C D F G H:Int}
def sQ(p:Nat×Nat):=cY m R ⟨[(15,[(4,.S),(5,.S),(31,.I)])],[],[(15,[62])]⟩ [p,.agg [i,j,k,l,a,b]] func95
def wt(i:Int):=cY m R A0 [i] func96
def ux(p:Nat×Nat):=cY m R A0 [p,i] func97
def vx(p:Nat×Nat):=cY m R A0 [i,p] func98
def En(a:O):=cY m R A0 [a] func99
def sS(p q:Nat×Nat):=cY m R A0 [p,q,.agg [i,j,k,l,a,b]] func100
def rD(p q:Nat×Nat):=cY m R ⟨[(14,[(10,.S),(74,.I)])],[],[(14,[125,121])]⟩ [p,q,.agg [i,j,k,l,a,b]] func101
def tE(p q:Nat×Nat):=cY m R A0 [p,q,.agg [i,j,k,l,a,b]] func102
def Aj(p:Nat×Nat):=cY m R A0 [p,i,j,k] func103
def se(p q:Nat×Nat):=cY m R A0 [p,q,.agg [i,j,k,l,a,b]] func104
def vv(p:Nat×Nat):=cY m R A0 [p,i,a] func105
def xw(p:Nat×Nat):=cY m R ⟨[(3,[(13,.I)])],[],[]⟩ [p,a] func106
def Ao(p:Nat×Nat):=cY m R ⟨[(1,[(4,.S)])],[],[]⟩ [p,i] func107
def wj(p q:Nat×Nat):=cY m R ⟨[(5,[(39,.I)])],[],[(5,[58])]⟩ [p,q,.agg [i,j,k,l,a,b]] func108
def wq(i:Int):=cY m R A0 [i] func109
def tQ(a:O):=cY m R ⟨[(2,[(8,.I)])],[],[]⟩ [a,i] func110
def Gk(a:O):=cY m R ⟨[(6,[(6,.S),(28,.I)])],[],[]⟩ [a,i] func111
def wi(p:Nat×Nat):=cY m R ⟨[(9,[(63,.I)])],[(7,[(9,.I)])],[(7,[111]),(9,[114,111])]⟩ [p,i,a,.agg [j,k,l,n,b,c]] func112
end
section
open Tryz
variable{m:E}{R:Value->E->Prop}
variable{a b c d e f g h p q r u v w x y:O}{i j k l n o s t z A B C D F G H:Int}
def vw(a:Nat×Nat)(w:Int)(eA:Bool):=cY m R ⟨[(13,[(69,.I)])],[(5,[])],[]⟩ [a,w,.c (.t eA)] func113
def sR(p:Nat×Nat):=cY m R A0 [p,i] func114
def BP(a:O):=cY m R ⟨[(6,[(5,.I)])],[],[(6,[59])]⟩ [a,.agg [i,j,b]] func115
def Hj(a:O):=cY m R ⟨[(3,[(4,.I)]),(6,[(5,.I)])],[],[]⟩ [a] func116
def Bl(a:O):=cY m R ⟨[(4,[(4,.I),(5,.T)]),(7,[(4,.I),(5,.T),(6,.I)])],[],[]⟩ [a] func117
def BW(a:O):=cY m R ⟨[(2,[(5,.I)])],[],[(2,[53])]⟩ [a,.agg [i,j,k,b,c,d]] func118
def Bn(i:Int):=cY m R A0 [i] func119
def Dt(i:Int):=cY m R ⟨[(3,[(4,.I)]),(7,[(6,.I)])],[],[(3,[61]),(7,[65,61])]⟩ [.agg [i,j,k,l,a,b,c]] func120
def sH(i:Int):=cY m R A0 [i] func121
def E8(a:O):=cY m R A0 [.agg [a,b],.agg [i,j,k,l,c,d],n] func122
def wU(a:O):=cY m R ⟨[(2,[(3,.I)])],[],[]⟩ [a] func123
def Kw(i:Int):=cY m R A0 [i] func124
def zi(i:Int):=cY m R ⟨[(2,[(5,.I)])],[],[(2,[26,25])]⟩ [.agg [i,j,k,a,b,c],.agg [l,n,o,s,d,e]] func125
def sY(p:Nat×Nat):=cY m R A0 [p,.agg [i,j,k,a,b,c],.agg [l,n,o,s,d,e]] func126
def sW(p:Nat×Nat):=cY m R ⟨[(2,[(7,.I)])],[],[(2,[51,50])]⟩ [p,.agg [i,j,k,a,b,c],.agg [l,n,o,s,d,e]] func127
def EH(a:O):=cY m R ⟨[(2,[(3,.I)])],[],[]⟩ [a] func128
def sX(p:Nat×Nat):=cY m R A0 [p,i] func129
def He(a:O):=cY m R A0 [a,i] func130
end
section
open Tryz
variable{m:E}{R:Value->E->Prop}
variable{a b c d e f g h p q r u v w x y:O}{i j k l n o s t z A B C D F G H:Int}
def uG(p:Nat×Nat):=cY m R A0 [p,i] func131
def tT(p:Nat×Nat):=cY m R A0 [p,.agg [i,j,k,a,b,c],.agg [l,n,o,s,d,e]] func132
def Ke(a:O):=cY m R ⟨[(2,[(5,.I)])],[],[]⟩ [a,i] func133
def uZ(a:O):=cY m R ⟨[(5,[(5,.S),(6,.I)])],[],[]⟩ [a,i] func134
def uJ(p:Nat×Nat):=cY m R A0 [p,i,j] func135
def Kr(i:Int):=cY m R A0 [i,j,k] func136
def sq(p:Nat×Nat):=cY m R ⟨[],[(5,[(8,.I)])],[(5,[75,74])]⟩ [p,.agg [i,j,k,a,b,c],.agg [l,n,o,s,d,e],t] func137
def CW(a:O):=cY m R ⟨[(3,[(3,.I),(4,.I)])],[],[]⟩ [a] func138
def vH(p:Nat×Nat):=cY m R ⟨[],[(10,[(6,.I),(7,.S)])],[(10,[128,127])]⟩ [p,.agg [i,j,k,a,b,c],.agg [l,n,o,s,d,e]] func139
def vI(p:Nat×Nat):=cY m R A0 [p,.agg [i,j,k,a,b,c],l] func140
def vJ(p:Nat×Nat):=cY m R ⟨[(1,[(4,.I)])],[],[]⟩ [p,a] func141
def pw(p:Nat×Nat):=cY m R A0 [p,i] func142
def Bd(a:O):=cY m R ⟨[(2,[(5,.S)])],[],[]⟩ [a,b] func143
def sZ(p:Nat×Nat):=cY m R ⟨[(4,[(8,.I)])],[],[(4,[111,110])]⟩ [p,.agg [i,j,k,a,b,c],.agg [l,n,o,s,d,e]] func144
def uI(p:Nat×Nat):=cY m R A0 [p,i,j] func145
def Dd(a:O):=cY m R ⟨[(3,[(5,.I),(6,.I)])],[],[]⟩ [a,i] func146
def Ar(a:O):=cY m R ⟨[(4,[(39,.I)]),(9,[(64,.I)])],[],[(9,[108])]⟩ [a,b] func147
def oR(p q:Nat×Nat):=cY m R A0 [i,p,q] func148
end
section
open Tryz
variable{m:E}{R:Value->E->Prop}
variable{a b c d e f g h p q r u v w x y:O}{i j k l n o s t z A B C D F G H:Int}
def oT(p:Nat×Nat):=cY m R A0 [i,p] func149
def qL(b c:O)(d e f g:Int)(h i:O)(a:Fn×Array Value×Array Value):=cY m R A0 [.agg [b,c],.agg [d,e,f,g,h,i],.c (.fv a)] func150
def sg(a:O):=cY m R A0 [.agg [a,b],.agg [i,j,k,l,c,d]] func151
def Am(a:O):=cY m R ⟨[(6,[(48,.I)])],[(5,[])],[(5,[69]),(6,[69])]⟩ [a,.agg [i,j,b]] func152
def Gq(a:O):=cY m R A0 [a,i] func153
def qO(s:O)(f:Fn×Array Value×Array Value):=cY m R ⟨[(2,[(8,.I)])],[],[]⟩ [s,.c (.fv f)] func154
def zN(a:O):=cY m R ⟨[(4,[(3,.I)])],[],[]⟩ [a] func155
def CO(a:O):=cY m R ⟨[(2,[(5,.I)])],[],[]⟩ [a,b] func156
def BU(a:O):=cY m R ⟨[(2,[(5,.I)])],[],[]⟩ [a,b] func157
def zJ(a:O):=cY m R ⟨[(4,[(9,.I)])],[(10,[])],[(4,[241,238,237]),(10,[241,238,237])]⟩ [.agg [a,b],.agg [c,d,i,j,e],k] func158
def ET(a:O):=cY m R A0 [.agg [a,b],i,j,c,d] func159
def ER(a:O):=cY m R ⟨[(3,[(4,.I)])],[],[(3,[75,74])]⟩ [.agg [a,b]] func162
def wH(p:Nat×Nat):=cY m R ⟨[],[(4,[]),(6,[]),(9,[]),(11,[])],[(4,[37]),(6,[37]),(9,[37]),(11,[37])]⟩ [p] func163
def BN(a:O):=cY m R ⟨[(3,[(4,.I)])],[],[(3,[45,44])]⟩ [.agg [a,b]] func164
def AZ(a:O):=cY m R ⟨[(3,[(4,.I)]),(8,[(6,.S),(7,.I)])],[],[(3,[62,61]),(8,[65,62,61])]⟩ [.agg [a,b]] func165
def AP(p:Nat×Nat):=cY m R A0 [p,.agg [i,j,k,l,a,b]] func166
end
end Go.Proofs.YtkoifinbblcbiaaGreat
