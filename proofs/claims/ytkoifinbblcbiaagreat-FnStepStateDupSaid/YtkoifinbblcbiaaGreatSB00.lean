/- Part of a proof. -/
import Derived.KernelRfl
import Derived.Laws.Append
import Derived.Laws.Cells
import Derived.Laws.Entries
import Derived.Laws.IdiomCopy
import Derived.Orders
import Derived.OrdersHeld
import Derived.Still
import Derived.Tactics
import Derived.Test.YtkoifinbblcbiaaGreatProg
set_option linter.all false
set_option maxHeartbeats 8000000
set_option maxRecDepth 100000
namespace Go.Vc
def ad:=@Nat.le_refl
def ae:=@if_neg
def ai:=@List.mem_cons_of_mem
def aj:=@beq_eq_false_iff_ne
def ao:=@if_pos
def ar:=@decide_eq_true_eq
def ax:=@List.getElem?_append_left
def aG:=@beq_iff_eq
def aJ:=@List.getElem?_append_right
def aO:=@Nat.lt_of_lt_of_le
def aV:=@List.mem_cons
def aW:=@Nat.lt_or_ge
def ba:=@List.length_cons
def be:=@List.length_append
def bg:=@List.mem_cons_self
def br:=@Nat.eq_of_beq_eq_true
def bt:=@Bool.or_eq_false_iff
def bI:=@Nat.le_trans
def bJ:=@List.mem_append_left
def bL:=@Bool.and_eq_true
def bM:=@decide_eq_false_iff_not
def bT:=@Bool.or_eq_true
def bV:=@Nat.zero_add
def cv:=@List.getElem?_set_ne
def cF:=@List.mem_or_eq_of_mem_set
def cL:=@List.getElem?_map
def cN:=@List.map_cons
def cQ:=@List.getElem?_eq_none
def db:=@List.cons_append
def di:=@Nat.mul_le_mul_right
def dk:=@Nat.add_assoc
def dp:=@List.take_append_drop
def dt:=@List.getElem?_set_self
def dx:=@Int.le_refl
def dC:=@List.mem_of_mem_take
def dJ:=@List.getElem?_take_of_lt
def dP:=@Nat.zero_le
def dS:=@Classical.byContradiction
def dT:=@Classical.em
def eg:=@List.append_nil
def eu:=@List.length_map
def ez:=@List.length_set
def eF:=@List.mem_append_right
def eG:=@List.nil_append
def eS:=@Nat.mul_one
def eX:=@List.length_nil
def eY:=@Nat.not_lt_zero
def fy:=@List.dropLast_concat_getLast
def fA:=@List.map_append
def fB:=@List.take_length
def fF:=@List.append_assoc
def fG:=@List.map_nil
def fN:=@Classical.choose_spec
def fU:=@List.getD_eq_getElem?_getD
def gE:=@List.getLast?_eq_some_getLast
def gP:=@List.length_take
def gS:=@Nat.add_mul
def hO:=@List.ext_getElem?
def iy:=@List.getElem?_cons_succ
def iE:=@List.mem_of_getElem?
def iH:=@List.set_cons_zero
def iS:=@bne_eq_false_iff_eq
def iU:=@Bool.not_eq_true'
def jq:=@Nat.min_eq_left
def jx:=@Bool.false_eq_true
def jy:=@List.set_cons_succ
def jK:=@List.flatten_cons
def jL:=@List.getElem?_set
def jM:=@Nat.add_zero
def jN:=@Option.map_eq_some_iff
def jO:=@cond_true
def jS:=@Option.some.inj
def jY:=@Array.getElem?_setIfInBounds_ne
def kj:=@List.not_mem_nil
def km:=@Nat.eq_zero_or_pos
def kO:=@Ne.symm
def kQ:=@gt_iff_lt
def lR:=@List.getElem?_take
def lS:=@List.mem_singleton
def lT:=@Array.getElem?_modify
def lU:=@List.getElem?_toArray
def lV:=@Nat.le_of_ble_eq_true
def mK:=@List.flatMap_cons
def mT:=@cond_false
def mX:=@Array.getElem?_push
def mZ:=@List.length_reverse
def nC:=@List.map_toArray
def nD:=@congrArg
def nH:=@List.take_append_of_le_length
def nO:=@List.take_of_length_le
def nP:=@Nat.lt_of_le_of_lt
def oA:=@Option.map_some
def oH:=@ge_iff_le
def oV:=@List.sizeOf_lt_of_mem
def pv:=@Nat.le_succ_of_le
def ql:=@Int.tdiv_eq_ediv_of_nonneg
def qt:=@Nat.succ_mul
def qx:=@List.drop_eq_getElem_cons
def qR:=@List.flatten_append
def qS:=@List.length_take_le
def qT:=@List.replicate_succ
def rR:=@List.set_eq_of_length_le
def rS:=@if_false
def sA:=@List.getElem?_drop
def sH:=@List.getElem?_cons_zero
def ub:=@Int.toNat_natCast
def uc:=@List.findIdx_lt_length_of_exists
def ud:=@List.map_set
def ue:=@Nat.le_of_eq
def vE:=@Option.getD_some
def vF:=@bne_iff_ne
def vG:=@not_or
def wS:=@List.mem_of_mem_drop
def zw:=@Array.getD_eq_getD_getElem?
def BU:=@Array.ext_getElem?
def BV:=@or_false
def DR:=@List.size_toArray
def DS:=@Option.some.injEq
def Hw:=@Nat.add_sub_cancel_left
def Hx:=@Nat.le_of_not_lt
def Jh:=@Array.getElem?_eq_none
def Ji:=@Int.lt_or_le
def Jj:=@List.drop_of_length_le
def JH:=@Bool.eq_iff_iff
def Mw:=@Bool.not_false
def Mx:=@List.set_append_left
def My:=@List.take_take
def Mz:=@Nat.mul_le_mul
def MB:=@if_true
def Nn:=@List.getElem?_range
def No:=@List.replicate_zero
def Np:=@List.take_succ_cons
def Nq:=@Nat.testBit_two_pow
def Od:=@Bool.not_true
def Oe:=@Bool.true_and
def Of:=@List.all_cons
def Og:=@List.map_take
def Oh:=@Prod.mk.injEq
def Pm:=@List.set_eq_take_append_cons_drop
def Qx:=@List.any_nil
def Qy:=@List.reverse_cons
def Qz:=@Nat.le_of_lt
def QA:=@Nat.sub_self
def QB:=@Nat.zero_mul
def SZ:=@List.range_succ
def Tb:=@Iff.rfl
def Tc:=@dif_pos
def Uz:=@List.mapM_cons
def UA:=@Nat.eq_of_mul_eq_mul_right
def UB:=@Nat.testBit_or
def UH:=@Array.mapM_eq_mapM_toList
def UJ:=@List.exists_mem_of_ne_nil
def Vw:=@Array.getElem?_replicate
def Vx:=@Bool.false_or
def Vy:=@Bool.or_false
def Vz:=@List.eq_of_mem_replicate
def Xx:=@List.map_map
def Xy:=@List.mem_map
def Xz:=@List.set_set
def XB:=@Nat.sub_zero
def XQ:=@Array.getElem?_mapIdx
def XR:=@Array.getElem?_toList
def XS:=@List.set_append_right
def XT:=@Nat.ble_eq_true_of_le
def Zj:=@Int.add_mul
def Zz:=@Array.length_toList
def ZA:=@Array.toList_zipIdx
def aai:=@Array.foldl_toList
def aaj:=@Bool.not_eq_false'
theorem dit{p A B:Prop}{i:Decidable p}(f:p->A)(g:¬p->B):(decide p=true->A)/\(decide p=false->B):=⟨λh=>f (of_decide_eq_true h),λh=>g (of_decide_eq_false h)⟩
theorem V{p:Prop}(h:p:=by omega):p:=h
theorem aL{p:Prop}(h:p:=by simp):p:=h
theorem bh{p:Prop}(h:p:=by decide):p:=h
theorem bF{p:Prop}(h:p:=by simp;omega):p:=h
end Go.Vc
section
namespace Go.Vc
variable{n:Nat}{a:Act}
abbrev E:=Array Obj
def af(m:E)(b o:Nat):Option Value:=
 match m[b]? with
 |some (.cells c _ _)=>c[o]?
 |_=>none
def vQ(m:E)(b o:Nat):Bool:=
 match m[b]? with
 |some (.cells _ _ (c,a))=>c<=o&&o<a
 |_=>false
def rE(m:E)(b o:Nat)(v:Value):E:=
 m.modify b λ
  | .cells c e f=>.cells (c.setIfInBounds o v) e f
  |x=>x
def zQ(w:World)(b o:Nat):w.cell? ⟨b,o,none⟩=af w.heap b o:=by
 simp only[World.cell?,af];cases h:w.heap[b]? with
 |none=>rfl
 |some x=>cases x<;>simp
def QX(w:World)(b o:Nat):w.frozen? ⟨b,o,none⟩=vQ w.heap b o:=by
 simp only[World.frozen?,vQ];cases h:w.heap[b]? with
 |none=>rfl
 |some x=>cases x<;>simp
def OV(w:World)(b o:Nat)(v:Value):(w.setCell ⟨b,o,none⟩ v).heap=rE w.heap b o v:=by
 simp only[World.setCell,rE];congr 1
structure pF(w w':World):Prop where
 os:w'.os=w.os
 tape:w'.tape=w.tape
 output:w'.output=w.output
def pF.az(w:World):pF w w:=⟨rfl,rfl,rfl⟩
def pF.trans{a b c:World}(h:pF a b)(k:pF b c):pF a c:=⟨k.os.trans h.os,k.tape.trans h.tape,k.output.trans h.output⟩
def aN(P:Program)(f:FuncId)(b:List Value)(m:E)(K:Value->E->Prop):Prop:=
 ∀w:World,w.heap=m->Calls P f b.toArray w λe a=>∃v,e=.returned v/\pF w a/\K v a.heap
def aN.mono{P:Program}{f:FuncId}{b:List Value}{m:E}{K a:Value->E->Prop}(h:aN P f b m K)
 (e:∀v c,K v c->a v c):aN P f b m a:=
 λw i=>(h w i).mono λ_ _⟨v,d,g,c⟩=>⟨v,d,g,e _ _ c⟩
inductive O where
 |nil
 |mk (b o len cap:Nat)
 |zT (b o sp:Nat)
def O.v:O->Value
 | .nil=>.slice none 0 0
 | .mk b o l c=>.slice (some ⟨b,o,none⟩) l c
 | .zT b o a=>.slice (some ⟨b,o,some a⟩) 0 0
def O.len:O->Nat
 | .nil=>0
 | .mk _ _ l _=>l
 | .zT _ _ _=>0
def O.cap:O->Nat
 | .nil=>0
 | .mk _ _ _ c=>c
 | .zT _ _ _=>0
def O.D:O->Nat
 | .nil=>0
 | .mk b _ _ _=>b
 | .zT b _ _=>b
def O.off:O->Nat
 | .nil=>0
 | .mk _ o _ _=>o
 | .zT _ o _=>o
@[simp] theorem O.RY (b o sp:Nat):(O.zT b o sp).len=0:=rfl
@[simp] theorem O.UY (b o sp:Nat):(O.zT b o sp).cap=0:=rfl
@[simp] theorem O.OO:O.nil.len=0:=rfl
@[simp] theorem O.UZ:O.nil.cap=0:=rfl
@[simp] theorem O.Zp:O.nil.D=0:=rfl
@[simp] theorem O.Zv:O.nil.off=0:=rfl
@[simp] theorem O.gK (b o l c:Nat):(O.mk b o l c).len=l:=rfl
@[simp] theorem O.Ox (b o l c:Nat):(O.mk b o l c).cap=c:=rfl
@[simp] theorem O.jI (b o l c:Nat):(O.mk b o l c).D=b:=rfl
@[simp] theorem O.nm (b o l c:Nat):(O.mk b o l c).off=o:=rfl
def O.Gh:O->Bool
 | .nil=>true
 | .mk _ _ _ _=>false
 | .zT _ _ _=>false
@[simp] theorem O.XJ:O.nil.Gh=true:=rfl
@[simp] theorem O.XI (b o sp:Nat):(O.zT b o sp).Gh=false:=rfl
@[simp] theorem O.YB (b o l c:Nat):(O.mk b o l c).Gh=false:=rfl
def O.cz:O->Option Addr
 | .nil=>none
 | .mk b o _ _=>some ⟨b,o,none⟩
 | .zT b o a=>some ⟨b,o,some a⟩
def O.Xw(s:O):s.v=.slice s.cz s.len s.cap:=by cases s<;>rfl
inductive Ce where
 |i (n:Int)
 |u (k:IntKind) (n:Int)
 |t (x:Bool)
 |s (x:O)
 |p (b o:Nat)
 |pn
 |fn (f:Fn) (first captured:Array Value)
 |fv (q:Fn×Array Value×Array Value)
 |nf
 |str (x:ByteArray)
 |mp (b:Nat)
 |mn
 |bp (k b o:Nat)
def Ce.v:Ce->Value
 | .i n=>.int .i64 n
 | .u k n=>.int k n
 | .t x=>.bool x
 | .s x=>x.v
 | .p b o=>.pointer (some ⟨b,o,none⟩)
 | .pn=>.pointer none
 | .fn f a c=>.func f a c
 | .fv q=>.func q.1 q.2.1 q.2.2
 | .nf=>.nilFunc
 | .str x=>.string x
 | .mp b=>.map (some b)
 | .mn=>.map none
 | .bp _ b o=>.pointer (some ⟨b,o,none⟩)
inductive AV where
 |c (x:Ce)
 |agg (l:List Ce)
def AV.v:AV->Value
 | .c x=>x.v
 | .agg l=>.agg (l.map Ce.v).toArray
inductive SV where
 |c (x:Ce)
 |tt
 |ff
 |agg (l:List Ce)
 |Xv (l:List AV)
 |un
 |fV
 |box (b e:Nat) (l:List Ce)
 |zN (b e:Nat) (l:List Ce)
def SV.v:SV->Value
 | .c x=>x.v
 | .tt=>.bool true
 | .ff=>.bool false
 | .agg l=>.agg (l.map Ce.v).toArray
 | .Xv l=>.tuple (l.map AV.v).toArray
 | .un=>undef
 | .fV=>undef
 | .box _ _ _=>undef
 | .zN _ _ _=>undef
def SV.Is:SV->Value->Prop
 | .fV,_=>True
 | .box _ _ _,_=>True
 | .zN _ _ _,_=>True
 |s,v=>v=s.v
def AV.sv:AV->SV
 | .c x=>.c x
 | .agg l=>.agg l
def AV.aag(x:AV):x.sv.v=x.v:=by cases x<;>rfl
abbrev Fr:=List (Nat×SV)
def iA:Fr->Nat->SV
 |[],_=>.fV
 |(u,x)::r,t=>bif Nat.beq u t then x else iA r t
def SV.nb:SV->SV
 | .box _ _ _=>.fV
 | .zN _ _ _=>.fV
 |x=>x
def ug(a:Fr)(d:Option Nat)(x:SV):Fr:=
 match d with
 |some d=>(d,x.nb)::a
 |none=>a
def SV.Ue{x:SV}{v:Value}(h:x.Is v):x.nb.Is v:=by
 cases x<;>first|exact h|trivial
def Ce.lX(x:Ce):x.v.cells=#[x.v]:=by
 cases x with
 |s y=>cases y<;>rfl
 |_=>rfl
def kW:Value->Option Ce
 | .int .i64 n=>some (.i n)
 | .int k n=>some (.u k n)
 | .bool x=>some (.t x)
 | .slice none 0 0=>some (.s .nil)
 | .pointer none=>some .pn
 | .nilFunc=>some .nf
 | .string x=>some (.str x)
 |_=>none
def NE{x:Value}{c:Ce}(h:kW x=some c):c.v=x:=by
 unfold kW at h;split at h<;>simp at h<;>subst h<;>rfl
def pL:List Value->Option (List Ce)
 |[]=>some []
 |v::b=>match kW v,pL b with
  |some c,some a=>some (c::a)
  |_,_=>none
def KO:∀{b:List Value}{a:List Ce},pL b=some a->a.map Ce.v=b
 |[],_,h=>by simp[pL]at h;subst h;rfl
 |v::b,a,h=>by
  simp only[pL]at h;split at h
  .rename_i e f c d;simp at h;subst h;simp[NE c,KO d]
  .simp at h
def FK:Value->SV
 | .bool true=>.tt
 | .bool false=>.ff
 | .agg a=>match pL a.toList with
  |some l=>.agg l
  |none=>.fV
 | .tuple a=>bif a.toList.isEmpty then .un else .fV
 |v=>match kW v with
  |some c=>.c c
  |none=>.fV
def QN(x:Value):(FK x).Is x:=by
 unfold FK;split
 .rfl
 .rfl
 .rename_i a;split
  .rename_i l b;show Value.agg a=.agg (l.map Ce.v).toArray;rw[KO b]
  .trivial
 .rename_i a;cases h:a.toList.isEmpty
  .trivial
  .show Value.tuple a=undef;have:a=#[]:=by simpa using h
   rw[this];rfl
 .split
  .rename_i c a;exact(NE a).symm
  .trivial
def ev(a:Fr):Operand->SV
 | .tmp t=>(iA a t).nb
 | .const v=>FK v
 | .global g=>.c (.p g 0)
 | .func f=>.c (.fn (.func f) #[] #[])
structure ku(n:Nat)(fr:Fr)(a:Act):Prop where
 size:a.tmps.size=n
 defers:a.defers=[]
 aE:∀t,(iA fr t).Is (a.tmps.getD t undef)
def ku.ev{b:Fr}(h:ku n b a)(x:Operand):(ev b x).Is (a.eval x):=by
 cases x with
 |tmp t=>exact SV.Ue (h.aE t)
 |const v=>exact QN v
 |global g=>rfl
 |func f=>rfl
def ku.put{n:Nat}{b:Fr}{a:Act}(h:ku n b a){d:Option Nat}{x:SV}{v:Value}(g:x.Is v)(hd:∀t,d=some t->t<n):
 ku n (ug b d x) (a.put d v):=by
 cases d with
 |none=>exact h
 |some d=>
  refine⟨by simpa[Act.put]using h.size,h.defers,λt=>?_⟩
  have f:d<a.tmps.size:=by rw[h.size];exact hd d rfl
  simp only[ug,iA,Act.put]
  by_cases e:d=t
  .subst e
   simp only[Nat.beq_refl,jO]
   simpa[f]using SV.Ue g
  .have:Nat.beq d t=false:=by
    cases c:Nat.beq d t
    .rfl
    .exact absurd (br c) e
   simp only[this,mT]
   have:=h.aE t
   simpa[jY e]using this
def ku.cons{b:Fr}(h:ku n b a)(t:Nat){x:SV}(c:∀v,x.Is v):ku n ((t,x)::b) a:=by
 refine⟨h.size,h.defers,λu=>?_⟩;simp only[iA];cases d:Nat.beq t u
 .exact h.aE u
 .exact c _
def ku.fV{b:Fr}(h:ku n b a)(t:Nat):ku n ((t,.fV)::b) a:=by
 refine⟨h.size,h.defers,λu=>?_⟩;simp only[iA];cases c:Nat.beq t u
 .exact h.aE u
 .trivial
end Go.Vc
end
section
namespace Go.Vc
variable{P:Program}{t b e:Nat}
inductive Sh where
 |I
 |U (k:IntKind)
 |T
 |S
 |P
 |F
 |M
 deriving DecidableEq
abbrev Sh.ty:Sh->Type
 | .I=>Int
 | .U _=>Int
 | .T=>Bool
 | .S=>O
 | .P=>Nat×Nat
 | .F=>Fn×Array Value×Array Value
 | .M=>Nat
abbrev Sh.mk:(s:Sh)->s.ty->Ce
 | .I,n=>.i n
 | .U k,n=>.u k n
 | .T,x=>.t x
 | .S,x=>.s x
 | .P,q=>.p q.1 q.2
 | .F,v=>.fv v
 | .M,b=>.mp b
def Sh.zero:Sh->Ce
 | .I=>.i 0
 | .U k=>.u k 0
 | .T=>.t false
 | .S=>.s .nil
 | .P=>.pn
 | .F=>.nf
 | .M=>.mn
inductive TK where
 |cell
 |slice (elem:Nat)
 |struct (offs:List (Nat×Nat))
 |tuple (ts:List Nat)
 |map (key elem:Nat)
structure TI where
 HZ:TK
 sh:List Sh
 bytes:Nat
abbrev TT:=List (Nat×TI)
def fK:TT->Nat->Option TI
 |[],_=>none
 |(u,x)::r,t=>bif Nat.beq u t then some x else fK r t
def OX:Sh->Value->Bool
 | .I,.int .i64 0=>true
 | .U k,.int a 0=>decide (k=a)
 | .T,.bool false=>true
 | .S,.slice none 0 0=>true
 | .P,.pointer none=>true
 | .F,.nilFunc=>true
 | .M,.map none=>true
 |_,_=>false
def OY{s:Sh}{v:Value}(h:OX s v=true):v=s.zero.v:=by
 unfold OX at h;split at h<;>first|rfl|(simp at h;subst h;rfl)|simp at h
def Fs:List Value->List Sh->Bool
 |[],[]=>true
 |v::b,s::a=>OX s v&&Fs b a
 |_,_=>false
def BT:∀{b:List Value}{a:List Sh},Fs b a=true->b=a.map λs=>s.zero.v
 |[],[],_=>rfl
 |v::b,s::a,h=>by
  simp only[Fs,bL]at h;simp[OY h.1,BT h.2]
 |[],_::_,h=>by simp[Fs]at h
 |_::_,[],h=>by simp[Fs]at h
def NK:List Field->List (Nat×Nat)->Bool
 |[],[]=>true
 |f::a,(o,t)::r=>Nat.beq f.offset o&&Nat.beq f.type t&&NK a r
 |_,_=>false
def Lu:∀{a:List Field}{b:List (Nat×Nat)},NK a b=true->a.map (λf=>(f.offset,f.type))=b
 |[],[],_=>rfl
 |f::a,(o,t)::r,h=>by
  simp only[NK,bL]at h;simp[br h.1.1,br h.1.2,Lu h.2]
 |[],_::_,h=>by simp[NK]at h
 |_::_,[],h=>by simp[NK]at h
def An:TypeDesc->List Sh->Bool
 | .bool,[.T]=>true
 | .int .i64,[.I]=>true
 | .int k,[.U k']=>decide (k=k')
 | .pointer _,[.P]=>true
 | .func ..,[.F]=>true
 |_,_=>false
def Cb(i:TypeInfo)(a:TI)(b:Bool):Bool:=
 Nat.beq i.size a.sh.length&&Nat.beq i.bytes a.bytes&&
 (match i.zero with
  |some (.agg c)=>b&&Fs c.toList a.sh
  |some z=>!b&&Fs [z] a.sh
  |none=>false)
def YM(t:Nat):Nat:=t+1000000
def U1(P:Program)(t:Nat):Bool:=
 match P.underlying t with
 |some (.struct a)=>a.toList.all (λf=>f.name != "_")&&!P.stoodInHeld t&&!P.eqGuardType P.depth t
 |_=>false
def yA(P:Program)(t:Nat)(a:TI):Bool:=
 match a.HZ with
 | .tuple _=>if t<1000000 then true else U1 P (t -1000000)
 | .slice e=>match P.info? t,P.underlying t with
  |some i,some (.slice b)=>Nat.beq e b&&Cb i a false
  |_,_=>false
 | .struct d=>match P.info? t,P.underlying t with
  |some i,some (.struct c)=>NK c.toList d&&Cb i a true
  |_,_=>false
 | .map k e=>match P.info? t,P.underlying t with
  |some i,some (.map c b)=>Nat.beq k c&&Nat.beq e b&&Cb i a false
  |_,_=>false
 | .cell=>match P.info? t,P.underlying t with
  |some i,some d=>An d a.sh&&Cb i a false
  |_,_=>false
def uB(P:Program)(T:TT):Prop:=T.all (λx=>yA P x.1 x.2)=true
def Qn:∀{T:TT}{t:Nat}{b:TI},fK T t=some b->(t,b)∈T
 |[],_,_,h=>by simp[fK]at h
 |(u,x)::r,t,b,h=>by
  simp only[fK]at h;cases a:Nat.beq u t
  .rw[a]at h;exact ai _ (Qn h)
  .rw[a]at h;have:=br a;simp at h;subst h;subst this;exact bg
def uB.yA{T:TT}(h:uB P T){a:TI}(b:fK T t=some a):yA P t a=true:=
 List.all_eq_true.1 h _ (Qn b)
def uB.cmp{T:TT}(h:uB P T){l:List Nat}{c:List Sh}(a:fK T (YM t)=some ⟨.tuple l,c,b⟩):U1 P t=true:=by
 have:=h.yA a;simp only[Go.Vc.yA]at this;rw[ae (by unfold YM;omega),show YM t -1000000=t by unfold YM;omega]at this;exact this
structure KC(P:Program)(t:Nat)(ti:TI)(agg:Bool):Prop where
 aan:∃i,P.info? t=some i/\i.size=ti.sh.length/\i.bytes=ti.bytes/\
  ∃z,i.zero=some z/\z.cells.toList=(ti.sh.map λs=>s.zero.v)/\(agg=false->∀cs,z≠.agg cs)
def sQ{g:TI}{i:TypeInfo}{c:Bool}(j:P.info? t=some i)(h:Cb i g c=true):KC P t g c:=by
 simp only[Cb,bL]at h;refine⟨i,j,br h.1.1,br h.1.2,?_⟩;have a:=h.2;split at a
 .rename_i d b;simp only[bL]at a;exact⟨_,b,by simpa[Value.cells]using BT a.2,λf=>by rw[f]at a;simp at a⟩
 .rename_i z f b;simp only[bL]at a;refine⟨_,b,?_,λ_ d e=>f d (by rw[e])⟩;have:=BT a.2;rw[<-this];cases z<;>first|rfl|exact(f _ rfl).elim
 .simp at a
def kE{a:List Sh}(h:yA P t ⟨.slice e,a,b⟩=true):P.underlying t=some (.slice e)/\KC P t ⟨.slice e,a,b⟩ false:=by
 simp only[yA]at h;split at h
 .rename_i i f c d;simp only[bL]at h;have:=br h.1;subst this;exact⟨d,sQ c h.2⟩
 .simp at h
def Co{k:Nat}{a:List Sh}(h:yA P t ⟨.map k e,a,b⟩=true):P.underlying t=some (.map k e)/\KC P t ⟨.map k e,a,b⟩ false:=by
 simp only[yA]at h;split at h
 .rename_i j l i f g;simp only[bL]at h;have c:=br h.1.1;have d:=br h.1.2;subst c;subst d;exact⟨g,sQ f h.2⟩
 .simp at h
def nv{c:List (Nat×Nat)}{d:List Sh}(h:yA P t ⟨.struct c,d,b⟩=true):
 (∃a,P.underlying t=some (.struct a)/\a.toList.map (λf=>(f.offset,f.type))=c)/\KC P t ⟨.struct c,d,b⟩ true:=by
 simp only[yA]at h
 split at h
 .rename_i i a e f
  simp only[bL]at h
  exact⟨⟨a,f,Lu h.1⟩,sQ e h.2⟩
 .simp at h
def ov{a:List Sh}(h:yA P t ⟨.cell,a,b⟩=true):
 (∃d,P.underlying t=some d/\An d a=true)/\KC P t ⟨.cell,a,b⟩ false:=by
 simp only[yA]at h
 split at h
 .rename_i i d c e
  simp only[bL]at h
  exact⟨⟨d,e,h.1⟩,sQ c h.2⟩
 .simp at h
def TI.agg(a:TI):Bool:=match a.HZ with| .struct _=>true|_=>false
def TI.uI(a:TI):Bool:=match a.HZ with| .tuple _=>true|_=>false
def kL{T:TT}(f:uB P T){d:TI}(g:fK T t=some d)(j:d.uI=false)(w:World):
 (sizeOf t).run P w=.ok d.sh.length w:=by
 have h:=f.yA g
 obtain⟨HZ,k,b⟩:=d
 have:∃i,P.info? t=some i/\i.size=k.length:=by
  cases HZ with
  |cell=>obtain⟨_,⟨i,a,c,_⟩⟩:=ov h;exact⟨i,a,c⟩
  |slice e=>obtain⟨_,⟨i,a,c,_⟩⟩:=kE h;exact⟨i,a,c⟩
  |map l e=>obtain⟨_,⟨i,a,c,_⟩⟩:=Co h;exact⟨i,a,c⟩
  |struct o=>obtain⟨_,⟨i,a,c,_⟩⟩:=nv h;exact⟨i,a,c⟩
  |tuple l=>simp[TI.uI]at j
 obtain⟨i,a,c⟩:=this
 simp[sizeOf,typeInfo,a,c]
def Gt{T:TT}(g:uB P T){f:TI}(j:fK T t=some f)(k:f.uI=false):
 ∃i,i.bytes=f.bytes/\i.size=f.sh.length/\(∀w,(typeInfo t).run P w=.ok i w)/\P.info? t=some i:=by
 have h:=g.yA j
 obtain⟨HZ,l,b⟩:=f
 have:∃i,P.info? t=some i/\i.size=l.length/\i.bytes=b:=by
  cases HZ with
  |cell=>obtain⟨_,⟨i,a,c,d,_⟩⟩:=ov h;exact⟨i,a,c,d⟩
  |slice e=>obtain⟨_,⟨i,a,c,d,_⟩⟩:=kE h;exact⟨i,a,c,d⟩
  |map m e=>obtain⟨_,⟨i,a,c,d,_⟩⟩:=Co h;exact⟨i,a,c,d⟩
  |struct o=>obtain⟨_,⟨i,a,c,d,_⟩⟩:=nv h;exact⟨i,a,c,d⟩
  |tuple m=>simp[TI.uI]at k
 obtain⟨i,a,c,d⟩:=this
 exact⟨i,d,c,λw=>by simp[typeInfo,a],a⟩
def wm{T:TT}(m:uB P T){k:TI}(n:fK T t=some k)(o:k.uI=false):
 ∃z,z.cells.toList=k.sh.map (λs=>s.zero.v)/\(∀w,(zeroValue t).run P w=.ok z w)/\(k.agg=false->∀a,z≠.agg a):=by
 have h:=m.yA n
 obtain⟨HZ,l,b⟩:=k
 have:∃i,P.info? t=some i/\∃z,i.zero=some z/\z.cells.toList=(l.map λs=>s.zero.v)/\((TI.mk HZ l b).agg=false->∀a,z≠.agg a):=by
  cases HZ with
  |cell=>obtain⟨_,⟨i,a,g,j,z,c,d,f⟩⟩:=ov h;exact⟨i,a,z,c,d,λ_=>f rfl⟩
  |slice e=>obtain⟨_,⟨i,a,g,j,z,c,d,f⟩⟩:=kE h;exact⟨i,a,z,c,d,λ_=>f rfl⟩
  |map p e=>obtain⟨_,⟨i,a,g,j,z,c,d,f⟩⟩:=Co h;exact⟨i,a,z,c,d,λ_=>f rfl⟩
  |struct p=>obtain⟨_,⟨i,a,g,j,z,c,d,f⟩⟩:=nv h;exact⟨i,a,z,c,d,λh=>by simp[TI.agg]at h⟩
  |tuple d=>simp[TI.uI]at o
 obtain⟨i,a,z,g,j,c⟩:=this
 exact⟨z,j,λw=>by simp[zeroValue,typeInfo,a,g],c⟩
def Im{T:TT}(d:uB P T){a:TI}(f:fK T t=some a)(g:a.uI=false)(w:World):
 (isAgg t).run P w=.ok a.agg w:=by
 have h:=d.yA f
 obtain⟨HZ,j,b⟩:=a
 cases HZ with
 |cell=>
  obtain⟨⟨i,hd,c⟩,_⟩:=ov h
  unfold An at c
  split at c<;>first|(simp at c;done)|simp[isAgg,run_underlying hd,TI.agg]
 |slice e=>obtain⟨hd,_⟩:=kE h;simp[isAgg,run_underlying hd,TI.agg]
 |map k e=>obtain⟨hd,_⟩:=Co h;simp[isAgg,run_underlying hd,TI.agg]
 |struct o=>obtain⟨⟨c,hd,_⟩,_⟩:=nv h;simp[isAgg,run_underlying hd,TI.agg]
 |tuple c=>simp[TI.uI]at g
end Go.Vc
end
section
namespace Go.Vc
def lJ:SV->Option Bool
 | .tt=>some true
 | .ff=>some false
 | .c (.t x)=>some x
 |_=>none
def SV.jP:SV->Bool
 | .fV=>false
 | .box _ _ _=>false
 | .zN _ _ _=>false
 |_=>true
def cT(n:Int):Int:=IntKind.i64.wrap n
def Ic{α:Type}:List α->Nat->Option α
 |[],_=>none
 |x::_,0=>some x
 |_::r,n+1=>Ic r n
def pR{α:Type}:∀(l:List α)(n:Nat),Ic l n=l[n]?
 |[],_=>by simp[Ic]
 |x::_,0=>by simp[Ic]
 |_::r,n+1=>by simp[Ic,pR r n]
def V2(m:E)(b o:Nat):Nat->List Sh->(List Ce->Prop)->Prop
 |_,[],k=>k []
 |j,s::r,k=>∃x:s.ty,af m b (o+j)=some (s.mk x).v/\V2 m b o (j+1) r λl=>k (s.mk x::l)
def Vu(a b:Int):Int:=cT ((a%18446744073709551616).toNat^^^(b%18446744073709551616).toNat:Nat)
def rW(c:BinOp)(a b:Int)(k:SV->Prop):Prop:=
 match c with
 | .add=>k (.c (.i (cT (a+b))))
 | .sub=>k (.c (.i (cT (a -b))))
 | .mul=>k (.c (.i (cT (a*b))))
 | .quo=>b≠0/\k (.c (.i (cT (a.tdiv b))))
 | .rem=>b≠0/\k (.c (.i (a.tmod b)))
 | .xor=>k (.c (.i (Vu a b)))
 | .eql=>k (.c (.t (a==b)))
 | .neq=>k (.c (.t (a !=b)))
 | .lss=>k (.c (.t (decide (a<b))))
 | .leq=>k (.c (.t (decide (a<=b))))
 | .gtr=>k (.c (.t (decide (a>b))))
 | .geq=>k (.c (.t (decide (a>=b))))
 |_=>False
def UT(c:BinOp)(a b:Bool)(k:SV->Prop):Prop:=
 match c with
 | .eql=>k (.c (.t (a==b)))
 | .neq=>k (.c (.t (!(a==b))))
 |_=>False
def Vf(a:BinOp)(s:O)(k:SV->Prop):Prop:=
 match a with
 | .eql=>k (.c (.t s.Gh))
 | .neq=>k (.c (.t (!s.Gh)))
 |_=>False
def Zy(a:UnOp)(x:SV)(k:SV->Prop):Prop:=
 match a,x with
 | .not,.tt=>k .ff
 | .not,.ff=>k .tt
 | .not,.c (.t b)=>k (.c (.t (!b)))
 | .neg,.c (.i n)=>k (.c (.i (cT (0 -n))))
 |_,_=>False
def O.cut(x:O)(a d e:Nat):O:=
 match x with
 | .nil=>.nil
 | .mk b o _ c=>.mk b (if c=a then o else o+a*e) (d -a) (c -a)
 | .zT b o c=>.zT b o c
def SV.cells:SV->Option (List Ce)
 | .c x=>some [x]
 | .tt=>some [.t true]
 | .ff=>some [.t false]
 | .agg l=>some l
 |_=>none
def mD(l:List Ce)(b:Nat)(a:List Ce):List Ce:=
 match b,l with
 |0,l=>match a,l with
  |[],l=>l
  |n::a,_::l=>n::mD l 0 a
  |_::_,[]=>[]
 |b+1,x::l=>x::mD l b a
 |_+1,[]=>[]
termination_by structural l
def FH(T:TT)(c:Fr)(e:List (Nat×Nat)):List Ce->List (Nat×Operand)->(List Ce->Prop)->Prop
 |a,[],k=>k a
 |a,(i,x)::r,k=>
  match Ic e i,(ev c x).cells with
  |some (d,t),some b=>
   match fK T t with
   |some f=>bif !f.uI&&Nat.beq b.length f.sh.length&&Nat.ble (d+b.length) a.length then FH T c e (mD a d b) r k else False
   |none=>False
  |_,_=>False
def vo(T:TT):List (Nat×Nat)->Bool
 |[]=>true
 |(_,t)::r=>(match fK T t with|some a=>!a.uI|none=>false)&&vo T r
def MT(a:Fr)(x:Option Operand)(d:Int)(k:Int->Prop):Prop:=
 match x with
 |none=>k d
 |some x=>match ev a x with
  | .c (.i n)=>k n
  |_=>False
def Xl(T:TT)(t:Nat)(s:O)(n:Int)(k:SV->Prop):Prop:=
 match fK T t with
 |some ⟨.slice e,_,_⟩=>match fK T e with
  |some a=>bif a.uI then False else 0<=n/\n<(s.len:Int)/\k (.c (.p s.D (s.off+n.toNat*a.sh.length)))
  |none=>False
 |_=>False
def PW(T:TT)(m:E)(t b o:Nat)(k:SV->Prop):Prop:=
 match fK T t with
 |some ⟨.struct _,a,_⟩=>V2 m b o 0 a λl=>k (.agg l)
 |some ⟨.cell,[s],_⟩=>∃x:s.ty,af m b o=some (s.mk x).v/\k (.c (s.mk x))
 |some ⟨.slice _,[_],_⟩=>∃x:O,af m b o=some x.v/\k (.c (.s x))
 |_=>False
def Rl(T:TT)(a:Fr)(t:Nat)(s:O)(d c:Option Operand)(k:SV->Prop):Prop:=
 match fK T t with
 |some ⟨.slice e,_,_⟩=>match fK T e with
  |some b=>bif b.uI then False else
   MT a d 0 λl=>MT a c (s.len:Int) λh=>0<=l/\l<=h/\h<=(s.cap:Int)/\k (.c (.s (s.cut l.toNat h.toNat b.sh.length)))
  |none=>False
 |_=>False
def OG(T:TT)(t f:Nat)(l:List Ce)(k:SV->Prop):Prop:=
 match fK T t with
 |some ⟨.struct c,_,_⟩=>match Ic c f with
  |some (b,u)=>match fK T u with
   |some a=>bif a.uI then False else bif a.agg then k (.agg ((l.drop b).take a.sh.length))else(match Ic l b with|some x=>k (.c x)|none=>False)
   |none=>False
  |none=>False
 |_=>False
def FQ(T:TT)(t f o:Nat)(mk:Nat->SV)(k:SV->Prop):Prop:=
 match fK T t with
 |some ⟨.struct c,_,_⟩=>match Ic c f with
  |some (b,u)=>match fK T u with
   |some a=>bif a.uI||Nat.beq a.sh.length 0 then False else k (mk (o+b))
   |none=>False
  |none=>False
 |_=>False
def MH(a b:Nat)(k:Prop):Prop:=a=b/\k
def aC(b:Nat)(k:Prop):MH b b k=k:=by simp[MH]
def Hq:List Ce->Nat->Nat->Option (List Ce)
 |_,_,0=>some []
 |l,o,n+1=>match Ic l o,Hq l (o+1) n with
  |some c,some r=>some (c::r)
  |_,_=>none
def NC(T:TT)(t:Nat)(a:List Ce)(o:Nat)(k:SV->Prop):Prop:=
 match fK T t with
 |some ⟨.struct _,b,_⟩=>match Hq a o b.length with
  |some l=>k (.agg l)
  |none=>False
 |some ⟨.cell,[_],_⟩=>match Ic a o with
  |some c=>k (.c c)
  |none=>False
 |some ⟨.slice _,[_],_⟩=>match Ic a o with
  |some c=>k (.c c)
  |none=>False
 |some ⟨.map _ _,[_],_⟩=>match Ic a o with
  |some c=>k (.c c)
  |none=>False
 |_=>False
def Tz(T:TT)(c:Fr)(d:Builtin)(e:List Nat)(f:List Operand)(k:SV->Prop):Prop:=
 match d,e,f with
 | .len,[t],[x]=>match fK T t,ev c x with
  |some ⟨.slice _,_,_⟩,.c (.s s)=>k (.c (.i (s.len:Int)))
  |_,_=>False
 | .max,_,[x,y]=>match ev c x,ev c y with
  | .c (.i a),.c (.i b)=>k (.c (.i (if b>a then b else a)))
  |_,_=>False
 | .min,_,[x,y]=>match ev c x,ev c y with
  | .c (.i a),.c (.i b)=>k (.c (.i (if b<a then b else a)))
  |_,_=>False
 |_,_,_=>False
def XH(T:TT):Nat->List (Nat×Nat)->List Ce->List Ce->Option Bool
 |_,[],[],[]=>some true
 |i,(o,u)::c,.i a::l,.i b::r=>bif Nat.beq o i then match fK T u,XH T (i+1) c l r with
  |some ⟨.cell,[.I],_⟩,some z=>some (a==b&&z)
  |_,_=>none else none
 |_,_,_,_=>none
def eqA(T:TT)(t:Nat)(l r:List Ce)(k:SV->Prop):Prop:=
 match fK T (YM t),fK T t with
 |some ⟨.tuple _,_,_⟩,some ⟨.struct a,_,_⟩=>match XH T 0 a l r with
  |some z=>k (.c (.t z))
  |none=>False
 |_,_=>False
def rd(T:TT)(a:Fr)(m:E)(k:SV->Prop):Op->Prop
 | .move x| .assign x=>k (ev a x)
 | .pick d c b=>match ev a d with
  | .tt=>k (ev a c)
  | .ff=>k (ev a b)
  | .c (.t x)=>match lJ (ev a c),lJ (ev a b)with
   |some y,some z=>k (.c (.t (bif x then y else z)))
   |_,_=>False
  |_=>False
 | .nilCheck x=>match ev a x with
  | .c (.p b o)=>k (.c (.p b o))
  | .c (.bp q b o)=>k (.c (.bp q b o))
  | .c (.fn (.func f) c d)=>k (.c (.fn (.func f) c d))
  | .c (.fv q)=>∃g,q.1=.func g/\k (.c (.fv q))
  |_=>False
 | .binOp d t x y _=>match ev a x,ev a y with
  | .c (.i c),.c (.i b)=>rW d c b k
  | .c (.s s),.c (.s .nil)=>match fK T t with
   |some ⟨.slice _,_,_⟩=>Vf d s k
   |_=>False
  | .agg l,.agg r=>match d with
   | .eql=>eqA T t l r k
   |_=>False
  |sx,e=>match fK T t,lJ sx,lJ e with
   |some ⟨.cell,[.T],_⟩,some c,some b=>UT d c b k
   |_,_,_=>False
 | .unOp d _ x=>Zy d (ev a x) k
 | .convert s t x=>match fK T s,fK T t,ev a x with
  |some ⟨.cell,[_],_⟩,some ⟨.cell,[.I],_⟩,.c (.u _ n)=>k (.c (.i (cT n)))
  |_,_,_=>False
 | .fieldAddr t x f=>match ev a x with
  | .c (.p b o)=>FQ T t f o (λo=>.c (.p b o)) k
  | .c (.bp q b o)=>FQ T t f o (λo=>.c (.bp q b o)) k
  |_=>False
 | .field t x f=>match ev a x with
  | .agg l=>OG T t f l k
  |_=>False
 | .indexAddr t x i=>match ev a x,ev a i with
  | .c (.s s),.c (.i n)=>Xl T t s n k
  |_,_=>False
 | .load t x=>match ev a x with
  | .c (.p b o)=>PW T m t b o k
  | .c (.bp q b o)=>match iA a q with
   | .box c _ d=>MH c b (NC T t d o k)
   | .zN c _ d=>MH c b (NC T t d o k)
   |_=>PW T m t b o k
  |_=>False
 | .extract x i=>match ev a x with
  | .Xv l=>match Ic l i with
   |some y=>k y.sv
   |none=>False
  |_=>False
 | .slice t x c b none=>match ev a x with
  | .c (.s s)=>Rl T a t s c b k
  |_=>False
 | .build t c=>match fK T t with
  |some ⟨.struct b,d,_⟩=>bif vo T b then FH T a b (d.map Sh.zero) c.toList λl=>k (.agg l)else False
  |_=>False
 | .call ⟨.builtin c,b,d⟩=>Tz T a c d.toList b.toList k
 |_=>False
def lY(a:Fr)(q b e:Nat)(l:List Ce):Prop:=iA a q=.box b e l\/iA a q=.zN b e l
structure Bx(n:Nat)(fr:Fr)(m:E):Prop where
 D:∀q b e l,lY fr q b e l->m[b]? =some (.cells (l.map Ce.v).toArray e)
 OA:∀q q' b e l b' e' l',q≠q'->lY fr q b e l->lY fr q' b' e' l'->b≠b'
 key:∀q b e l,lY fr q b e l->n<=q
def Ta(T:TT)(c:Fr):Op->List (Nat×Nat)
 | .load t x=>match ev c x,fK T t with
  | .c (.p b o),some a=>(List.range a.sh.length).map λj=>(b,o+j)
  | .c (.bp _ b o),some a=>(List.range a.sh.length).map λj=>(b,o+j)
  |_,_=>[]
 |_=>[]
end Go.Vc
end
section
namespace Go.Vc
variable{s:SV}{b:Bool}
def SV.Is.eq{v:Value}(h:s.Is v)(a:s.jP=true):v=s.v:=by
 cases s<;>first|exact h|simp[SV.jP]at a
def nW(s:SV):s.Is s.v:=by cases s<;>first|rfl|trivial
def ku.eq{n:Nat}{b:Fr}{a:Act}(h:ku n b a){x:Operand}{s:SV}(c:Vc.ev b x=s)(d:s.jP=true):a.eval x=s.v:=by
 have:=h.ev x;rw[c]at this;exact this.eq d
def wV(h:lJ s=some b):s.jP=true/\s.v=.bool b:=by
 unfold lJ at h;split at h<;>simp_all [SV.jP,SV.v,Ce.v]
def ku.Zr{n:Nat}{c:Fr}{a:Act}(h:ku n c a){x:Operand}(d:lJ (Vc.ev c x)=some b):a.eval x=.bool b:=by
 rw[h.eq rfl (wV d).1,(wV d).2]
def vP(b o n:Nat):(⟨b,o,none⟩:Addr).add n=⟨b,o+n,none⟩:=by
 unfold Addr.add;split
 .rename_i h;subst h;rfl
 .rfl
def Ci:∀(l:List Ce)(a:Nat)(b:List Ce)(i:Nat),a+b.length<=l.length->
 (mD l a b)[i]? =if a<=i/\i<a+b.length then b[i -a]? else l[i]?
 |[],0,[],i,_=>by simp[mD]
 |[],0,_::_,_,h=>by simp at h
 |[],_+1,_,_,h=>by simp at h
 |x::l,0,[],i,_=>by simp[mD]
 |x::l,0,n::b,i,h=>by
  simp only[mD];cases i with
  |zero=>simp
  |succ i=>
   have:=Ci l 0 b i (by simp at h;omega);simp only[iy,this];simp
 |x::l,a+1,b,i,h=>by
  simp only[mD];cases i with
  |zero=>simp
  |succ i=>
   have:=Ci l a b i (by simp at h;omega);simp only[iy,this];have e:(i+1 -(a+1))=i -a:=V;simp only[e];congr 1;simp;omega
def NG(c:List Value):∀(k a:Nat)(b:Array Value)(i:Nat),
 ((c.zipIdx k).foldl (λ(d:Array Value)(p:Value×Nat)=>d.setIfInBounds (a+p.2) p.1) b)[i]? =
  if a+k<=i/\i<a+k+c.length/\i<b.size then c[i -(a+k)]? else b[i]? :=by
 induction c with
 |nil=>intro k a b i;simp;intro h;omega
 |cons v c g=>
  intro k a b i
  simp only[List.zipIdx_cons,List.foldl_cons,g,Array.size_setIfInBounds,ba]
  by_cases d:i=a+k
  .subst d
   by_cases e:a+k<b.size
   .simp[e];try omega
   .simp[e];try omega
  .have:¬(a+k=i):=λf=>d f.symm
   rw[jY this]
   by_cases e:a+k<=i/\i<a+k+(c.length+1)/\i<b.size
   .rw[ao e,ao V]
    have:i -(a+k)=(i -(a+(k+1)))+1:=V
    rw[this,iy]
   .rw[ae e,ae V]
def pK{l:List Ce}(h:s.cells=some l):s.jP=true/\s.v.cells=(l.map Ce.v).toArray:=by
 cases s with
 |c x=>simp[SV.cells]at h;subst h;exact⟨rfl,by simp[SV.v,Ce.lX]⟩
 |tt=>simp[SV.cells]at h;subst h;exact⟨rfl,rfl⟩
 |ff=>simp[SV.cells]at h;subst h;exact⟨rfl,rfl⟩
 |agg a=>simp[SV.cells]at h;subst h;exact⟨rfl,rfl⟩
 |Xv _=>simp[SV.cells]at h
 |un=>simp[SV.cells]at h
 |fV=>simp[SV.cells]at h
 |box _ _ _=>simp[SV.cells]at h
 |zN _ _ _=>simp[SV.cells]at h
end Go.Vc
end
section
namespace Go.Vc
variable{x y:Operand}{c:TypeId}{h b f o:Nat}{g:List Ce}
variable{e:Program}{T:TT}
def oY(e:Program)(T:TT)(b:Fr)(m:E)(a:Act)(o:Oper)(k:SV->Prop):Prop:=
 ∃x v,k x/\x.Is v/\∀w:World,(∀q∈Ta T b o.op,af w.heap q.1 q.2=af m q.1 q.2)->(execOp a.eval o).run e w=.ok (.value v) w
section
variable{n:Nat}{i:Fr}{a:Act}{j:E}{k:SV->Prop}{q:Option Tmp}{v:TypeId}{u:String}{p:Array Edge}{r:Option (Nat×Bool)}
def TY(b:ku n i a)(h:k (ev i x)):oY e T i j a ⟨q,.move x,v,u,p,r⟩ k:=
 ⟨_,_,h,b.ev x,λw _=>by simp[execOp]⟩
def SD(b:ku n i a)(h:k (ev i x)):oY e T i j a ⟨q,.assign x,v,u,p,r⟩ k:=
 ⟨_,_,h,b.ev x,λw _=>by simp[execOp]⟩
def Q1(c:ku n i a){f:Operand}(h:rd T i j k (.pick f x y)):oY e T i j a ⟨q,.pick f x y,v,u,p,r⟩ k:=by
 simp only[rd]at h;split at h
 .rename_i d;exact⟨_,_,h,c.ev x,λw _=>by simp[execOp,c.eq d rfl,SV.v,asBool]⟩
 .rename_i d;exact⟨_,_,h,c.ev y,λw _=>by simp[execOp,c.eq d rfl,SV.v,asBool]⟩
 .rename_i b d;split at h
  .rename_i m o g l;refine⟨_,_,h,nW _,λw _=>?_⟩;simp[execOp,c.eq d rfl,SV.v,Ce.v,asBool,c.Zr g,c.Zr l];try (cases b<;>rfl)
  .exact h.elim
 .exact h.elim
def K6(d:ku n i a)(h:rd T i j k (.nilCheck x)):oY e T i j a ⟨q,.nilCheck x,v,u,p,r⟩ k:=by
 simp only[rd]at h;split at h
 .rename_i b o c;exact⟨_,_,h,nW _,λw _=>by simp[execOp,d.eq c rfl,SV.v,Ce.v]⟩
 .rename_i m b o c;exact⟨_,_,h,nW _,λw _=>by simp[execOp,d.eq c rfl,SV.v,Ce.v]⟩
 .rename_i f g l c;exact⟨_,_,h,nW _,λw _=>by simp[execOp,d.eq c rfl,SV.v,Ce.v]⟩
 .rename_i m c;obtain⟨s,g,l⟩:=h;exact⟨_,_,l,nW _,λw _=>by simp[execOp,d.eq c rfl,SV.v,Ce.v,g]⟩
 .exact h.elim
def UU{a:BinOp}{x y:Int}(h:rW a x y k):∃s v,k s/\s.Is v/\∀w:World,(binOp a c (.int .i64 x) (.int .i64 y)).run e w=.ok v w:=by
 cases a<;>simp only[rW]at h
 case quo=>exact⟨_,_,h.2,nW _,λw=>by simp[binOp,Op.intDiv,h.1,SV.v,Ce.v,cT]⟩
 case rem=>exact⟨_,_,h.2,nW _,λw=>by simp[binOp,Op.intDiv,h.1,SV.v,Ce.v]⟩
 case xor=>exact⟨_,_,h,nW _,λw=>by simp[binOp,Op.intBits,SV.v,Ce.v,cT,Vu,IntKind.bits];rfl⟩
 all_goals exact⟨_,_,h,nW _,λw=>by simp[binOp,Op.intArith,Op.intCmp,SV.v,Ce.v,cT]⟩
def PH(a:BinOp)(c:TypeId)(d f:Operand)(b:IntKind)(x:Int)(y:Value)(w:World):(eqGuard a c d f (.int b x) y).run e w=.ok () w:=by
 cases a<;>simp[eqGuard]
def OE(a:BinOp)(c:TypeId)(b d:Operand)(x:Bool)(y:Value)(w:World):(eqGuard a c b d (.bool x) y).run e w=.ok () w:=by
 cases a<;>simp[eqGuard]
def QS(hd:e.underlying c=some .bool)(x y:Bool)(w:World):(Op.equal c (.bool x) (.bool y)).run e w=.ok (x==y) w:=by
 have:Op.equal c (.bool x) (.bool y)=Op.equalIn (9999+1) c (.bool x) (.bool y):=rfl;rw[this];generalize 9999=h;simp[Op.equalIn,run_underlying hd]
def JK{a:TypeId}(hd:e.underlying c=some (.slice a))(s:O)(w:World):(Op.equal c s.v (.slice none 0 0)).run e w=.ok s.Gh w:=by
 have:Op.equal c s.v (.slice none 0 0)=Op.equalIn (9999+1) c s.v (.slice none 0 0):=rfl;rw[this];generalize 9999=h;cases s<;>simp[Op.equalIn,run_underlying hd,O.v]
def PI(hd:e.underlying c=some (.int .i64))(x y:Int)(w:World):(Op.equalIn (h+1) c (.int .i64 x) (.int .i64 y)).run e w=.ok (x==y) w:=by
 simp[Op.equalIn,run_underlying hd]
def P5(d:uB e T){u:Nat}(f:fK T u=some ⟨.cell,[.I],b⟩){a:Array Value}{c:Nat}{v:Value}(h:a[c]? =some v)(w:World):(part u a c).run e w=.ok v w:=by
 simp[part,Im d f rfl,TI.agg,h]
def TU(n:uB e T){X Y:Array Value}(A:World):∀(j:List Field)(i:Nat)(l:List (Nat×Nat))(g r:List Ce)(z:Bool),j.map (λf=>(f.offset,f.type))=l->(∀f∈j,f.name≠ "_")->
 (∀k d,g[k]? =some d->X[i+k]? =some d.v)->(∀k d,r[k]? =some d->Y[i+k]? =some d.v)->XH T i l g r=some z->
 (forIn (m:=Sem) j ((none,()):Option Bool×PUnit) λf _=>do
  if f.name≠ "_" then
   if !(<-Op.equalIn (h+1) f.type (<-part f.type X f.offset) (<-part f.type Y f.offset))then pure (.done (some false,()))else pure (.yield (none,()))
  else pure (.yield (none,()))).run e A=.ok (if z=true then(none,())else(some false,())) A:=by
 intro j
 induction j with
 |nil=>
  intro i l g r z u v p q c
  subst u
  cases g<;>cases r<;>simp[XH]at c
  subst c
  simp
 |cons f j K=>
  intro i l g r z u v p q c
  subst u
  simp only[cN]at c
  unfold XH at c
  split at c
  .simp at*
  .rename_i i _ _ _ _ o N l a g b r C
   obtain⟨⟨rfl,rfl⟩,rfl⟩:=by simpa using C
   cases s:Nat.beq f.offset i
   .rw[s]at c;simp at c
   .rw[s]at c;simp only[jO]at c
    have x:=br s
    split at c
    .rename_i M L w J
     simp only[DS]at c
     obtain⟨⟨B,D,y⟩,_⟩:=ov (n.yA w)
     have F:B=.int .i64:=by unfold An at y;split at y<;>simp_all
     subst F
     have H:X[f.offset]? =some (.int .i64 a):=by have:=p 0 (.i a) rfl;rw[x];exact this
     have I:Y[f.offset]? =some (.int .i64 b):=by have:=q 0 (.i b) rfl;rw[x];exact this
     have G:=K (i+1) _ g r L rfl (λt E=>v t (ai _ E)) (λk d t=>by have:=p (k+1) d (by simpa using t);rw[<-this];congr 1;omega) (λk d t=>by have:=q (k+1) d (by simpa using t);rw[<-this];congr 1;omega) J
     rw[List.forIn_cons,Sem.run_bind,ao (v f bg)]
     simp only[Sem.run_bind,P5 n w H,P5 n w I,Result.andThen_ok,PI D]
     cases t:(a==b)
     .rw[t]at c;subst c;simp
     .rw[t]at c;simp only[Oe]at c;subst c
      simp only[Od,jx,rS,Sem.run_pure,Result.andThen_ok]
      exact G
    .simp at c
  .simp at c
def OF(j:uB e T){a:Array Field}(p:e.underlying c=some (.struct a))(o:e.stoodInHeld c=false)(n:∀f∈a.toList,f.name≠ "_"){r:List Ce}{z:Bool}
 (l:XH T 0 (a.toList.map λf=>(f.offset,f.type)) g r=some z)(w:World):(Op.equal c (.agg (g.map Ce.v).toArray) (.agg (r.map Ce.v).toArray)).run e w=.ok z w:=by
 have:Op.equal c (.agg (g.map Ce.v).toArray) (.agg (r.map Ce.v).toArray)=Op.equalIn (9998+1+1) c (.agg (g.map Ce.v).toArray) (.agg (r.map Ce.v).toArray):=rfl
 rw[this]
 generalize 9998=h
 rw[Op.equalIn]
 simp only[Sem.run_bind,run_underlying p,Result.andThen_ok]
 have m:=TU j (h:=h) (X:=(g.map Ce.v).toArray) (Y:=(r.map Ce.v).toArray) w a.toList 0 _ g r z rfl n (λk i b=>by simp[b]) (λk i b=>by simp[b]) l
 have b:(program:Sem Program).run e w=.ok e w:=rfl
 rw[b,Result.andThen_ok,ae (by simp[o]),Sem.run_bind,<-Array.forIn_toList,m]
 cases z<;>rfl
def Sw(h:U1 e c=true):∃a,e.underlying c=some (.struct a)/\(∀f∈a.toList,f.name≠ "_")/\e.stoodInHeld c=false/\e.eqGuardType e.depth c=false:=by
 unfold U1 at h;split at h
 .rename_i a b;simp only[bL,List.all_eq_true,vF,iU]at h;exact⟨a,b,h.1.1,h.1.2,h.2⟩
 .cases h
def PG(h:e.eqGuardType e.depth c=false)(f g:Operand)(a b:Array Value)(w:World):(eqGuard .eql c f g (.agg a) (.agg b)).run e w=.ok () w:=by
 have d:(program:Sem Program).run e w=.ok e w:=rfl;simp only[eqGuard,Sem.run_bind];simp[d,h]
def MG(a:BinOp)(c:TypeId)(b d:Operand)(s:O)(y:Value)(w:World):(eqGuard a c b d s.v y).run e w=.ok () w:=by
 cases s<;>cases a<;>simp[eqGuard,O.v]
def PM(m:uB e T)(d:ku n i a){z:BinOp}{D:TypeId}(b:rd T i j k (.binOp z c x y D)):oY e T i j a ⟨q,.binOp z c x y D,v,u,p,r⟩ k:=by
 simp only[rd]at b;split at b
 .rename_i L M f l;obtain⟨s,E,A,w,C⟩:=UU (e:=e) (c:=c) b;refine⟨s,E,A,w,λB _=>?_⟩;simp only[execOp,d.eq f rfl,d.eq l rfl,SV.v,Ce.v,Sem.run_bind];simp[PH,C]
 .rename_i s f l;split at b
  .rename_i I J H A;have w:=(kE (m.yA A)).1;have F:a.eval x=s.v:=d.eq f rfl;have G:a.eval y=.slice none 0 0:=d.eq l rfl;cases z<;>simp only[Vf]at b
   all_goals
    first
    |exact b.elim
    |exact⟨_,_,b,nW _,λB _=>by
     have C:∀o:BinOp,o=.eql\/o=.neq->binOp o c s.v (.slice none 0 0)=(if o=.eql then(do pure (.bool (<-Op.equal c s.v (.slice none 0 0))))else(do pure (.bool (!(<-Op.equal c s.v (.slice none 0 0)))))):=by
      intro o E;rcases E with rfl|rfl<;>cases s<;>rfl
     simp only[execOp,F,G,Sem.run_bind,MG,Result.andThen_ok];rw[C _ aL];simp[JK w,SV.v,Ce.v]⟩
  .exact b.elim
 .rename_i g N f l;split at b
  .unfold eqA at b;split at b
   .rename_i G A;split at b
    .rename_i R C;obtain⟨O,w,J,K,H⟩:=Sw (m.cmp G);obtain⟨⟨Q,s,I⟩,_⟩:=nv (m.yA A);rw[w]at s;obtain rfl:=(TypeDesc.struct.inj (jS s));rw[<-I]at C;refine⟨_,_,b,nW _,λB _=>?_⟩;have E:a.eval x=.agg (g.map Ce.v).toArray:=d.eq f rfl;have F:a.eval y=.agg (N.map Ce.v).toArray:=d.eq l rfl;simp only[execOp,E,F,Sem.run_bind,PG H,Result.andThen_ok,binOp,OF m w K J C];rfl
    .exact b.elim
   .exact b.elim
  .exact b.elim
 .split at b
  .rename_i L M w f l;obtain⟨⟨h,hd,A⟩,_⟩:=ov (m.yA w);have s:h=.bool:=by
    cases h<;>simp_all [An]
   subst s;cases z<;>simp only[UT]at b
   all_goals
    first
    |exact b.elim
    |exact⟨_,_,b,nW _,λB _=>by
     simp only[execOp,d.Zr f,d.Zr l,Sem.run_bind,OE,Result.andThen,binOp,QS hd];rfl⟩
  .exact b.elim
def ML(d:uB e T)(l:ku n i a){s:TypeId}(b:rd T i j k (.convert s c x)):oY e T i j a ⟨q,.convert s c x,v,u,p,r⟩ k:=by
 simp only[rd]at b;split at b
 .rename_i B b1 b2 z A t w y;obtain⟨⟨h,hd,_⟩,_⟩:=ov (d.yA t);obtain⟨⟨g,m,f⟩,_⟩:=ov (d.yA w);have o:g=.int .i64:=by unfold An at f;split at f<;>simp_all
  subst o;exact⟨_,_,b,nW _,λC _=>by
   simp only[execOp,l.eq y rfl,SV.v,Ce.v,Sem.run_bind];simp[convert,run_underlying hd,run_underlying m,Conv.intToInt,cT]⟩
 .exact b.elim
def Q2(b:ku n i a){f:UnOp}(h:rd T i j k (.unOp f c x)):oY e T i j a ⟨q,.unOp f c x,v,u,p,r⟩ k:=by
 simp only[rd]at h;generalize d:ev i x=sx at h;unfold Zy at h;split at h
 .exact⟨_,_,h,nW _,λw _=>by simp[execOp,b.eq d rfl,SV.v,Op.unary]⟩
 .exact⟨_,_,h,nW _,λw _=>by simp[execOp,b.eq d rfl,SV.v,Op.unary]⟩
 .exact⟨_,_,h,nW _,λw _=>by simp[execOp,b.eq d rfl,SV.v,Ce.v,Op.unary]⟩
 .exact⟨_,_,h,nW _,λw _=>by simp[execOp,b.eq d rfl,SV.v,Ce.v,Op.unary,Op.intArith,cT]⟩
 .exact h.elim
def Dy(l:uB e T)(L:ku n i a){mk:Nat->SV}(E:∀o,(mk o).v=.pointer (some ⟨b,o,none⟩))(J:a.eval x=.pointer (some ⟨b,o,none⟩))(h:FQ T c f o mk k):
 oY e T i j a ⟨q,.fieldAddr c x f,v,u,p,r⟩ k:=by
 unfold FQ at h
 split at h
 .rename_i N O K H
  split at h
  .rename_i M P s
   split at h
   .rename_i g I
    cases d:(g.uI||Nat.beq g.sh.length 0)
    .rw[d]at h
     simp only[bt]at d
     obtain⟨⟨z,C,D⟩,_⟩:=nv (l.yA H)
     rw[pR,<-D,cL]at s
     obtain⟨y,A,m⟩:=Option.map_eq_some_iff.1 s
     simp only[Oh]at m
     obtain⟨rfl,rfl⟩:=m
     have G:=λw=>kL l I d.1 w
     have F:g.sh.length≠0:=λt=>by rw[t]at d;simp at d
     refine⟨_,_,h,nW _,λw _=>?_⟩
     have B:z[f]? =some y:=by simpa using A
     rw[E]
     simp[execOp,Instr.fieldAt,J,run_underlying C,B,Instr.sureAddr,fieldPlace,G,F,vP]
    .rw[d]at h;exact h.elim
   .exact h.elim
  .exact h.elim
 .exact h.elim
def JL(l:uB e T)(d:ku n i a)(h:rd T i j k (.fieldAddr c x f)):oY e T i j a ⟨q,.fieldAddr c x f,v,u,p,r⟩ k:=by
 simp only[rd]at h;split at h
 .rename_i b o g;exact Dy l d (λo=>rfl) (d.eq g rfl) h
 .rename_i m b o g;exact Dy l d (λo=>rfl) (d.eq g rfl) h
 .exact h.elim
def PO(l:uB e T)(m:ku n i a)(h:rd T i j k (.field c x f)):oY e T i j a ⟨q,.field c x f,v,u,p,r⟩ k:=by
 simp only[rd]at h;split at h
 .rename_i g C;unfold OG at h;split at h
  .rename_i N O L K;split at h
   .rename_i M P A;split at h
    .rename_i E B;cases b:E.uI
     .rw[b]at h;obtain⟨⟨G,z,I⟩,_⟩:=nv (l.yA K);rw[pR,<-I,cL]at A;obtain⟨F,H,s⟩:=Option.map_eq_some_iff.1 A;simp only[Oh]at s;obtain⟨rfl,rfl⟩:=s;have J:=λw=>kL l B b w;have o:=λw=>Im l B b w;have t:G[f]? =some F:=by simpa using H
      cases d:E.agg
      .simp only[d,mT]at h;split at h
       .rename_i y D;refine⟨_,_,h,nW _,λw _=>?_⟩;rw[pR]at D;simp[execOp,Instr.field,m.eq C rfl,SV.v,run_underlying z,t,asAgg,part,o,d,D]
       .exact h.elim
      .simp only[d,mT,jO]at h;refine⟨_,_,h,nW _,λw _=>?_⟩;simp[execOp,Instr.field,m.eq C rfl,SV.v,run_underlying z,t,asAgg,part,o,d,J,List.map_drop,Og]
     .rw[b]at h;exact h.elim
    .exact h.elim
   .exact h.elim
  .exact h.elim
 .exact h.elim
def JM(l:uB e T)(g:ku n i a)(h:rd T i j k (.indexAddr c x y)):oY e T i j a ⟨q,.indexAddr c x y,v,u,p,r⟩ k:=by
 simp only[rd]at h;split at h
 .rename_i E J C D;unfold Xl at h;split at h
  .rename_i I L G A;split at h
   .rename_i F t;cases f:F.uI
    .rw[f]at h;obtain⟨m,d,s⟩:=h;have B:=(kE (l.yA A)).1;have z:=λw=>kL l t f w;cases E with
     |nil=>simp[O.len]at d;omega
     |zT _ _ _=>simp[O.len]at d;omega
     |mk b o K H=>
      refine⟨_,_,s,nW _,λw _=>?_⟩;simp only[O.len]at d;simp[execOp,Instr.indexAt,g.eq C rfl,g.eq D rfl,SV.v,Ce.v,O.v,asIntOf,run_underlying B,m,d,z,vP,O.D,O.off]
    .rw[f]at h;exact h.elim
   .exact h.elim
  .exact h.elim
 .exact h.elim
def PV:∀(d:List Sh)(b o a:Nat)(k:List Ce->Prop),V2 j b o a d k->∃g,k g/\g.length=d.length/\∀i,i<d.length->af j b (o+a+i)=(g[i]?).map Ce.v
 |[],_,_,_,_,h=>⟨[],h,rfl,λi c=>by simp at c⟩
 |s::r,b,o,a,k,h=>by
  obtain⟨x,n,h⟩:=h;obtain⟨g,l,m,f⟩:=PV r b o (a+1) _ h;refine⟨s.mk x::g,l,by simp[m],λi c=>?_⟩;cases i with
  |zero=>simpa using n
  |succ i=>
   have:=f i (by simpa using c);have e:o+(a+1)+i=o+a+(i+1):=V;rw[e]at this;simpa using this
def nj(B:uB e T)(S:ku n i a)(I:a.eval x=.pointer (some ⟨b,o,none⟩)){f:TI}(H:fK T c=some f)(G:f.uI=false)
 (K:∀d,d<f.sh.length->(b,o+d)∈Ta T i (.load c x))(E:g.length=f.sh.length)(L:∀z,z<f.sh.length->af j b (o+z)=(g[z]?).map Ce.v)
 {s:SV}(U:s.jP=true)(O:(f.agg=true/\s.v=.agg (g.map Ce.v).toArray)\/(f.agg=false/\∃m,g=[m]/\s.v=m.v))(N:k s):
 oY e T i j a ⟨q,.load c x,v,u,p,r⟩ k:=by
 refine⟨s,s.v,N,nW _,λl R=>?_⟩
 have Q:=kL B H G l
 have C:=Im B H G l
 have D:∀d,d<f.sh.length->af l.heap b (o+d)=(g[d]?).map Ce.v:=λd h=>by rw[R (b,o+d) (K d h),L d h]
 rcases O with⟨t,y⟩|⟨t,m,y,J⟩
 .have F:=run_loadCells_list (P:=e) (w:=l) ⟨b,o,none⟩ (g.map Ce.v) (λd V h=>by
   rw[vP,zQ];have M:d<f.sh.length:=by
    rcases aW d f.sh.length with A|A
    .exact A
    .rw[cQ bF]at h;simp at h
   rw[D d M,<-cL,h])
  simp only[eu]at F
  simp only[execOp,Instr.loadAt,I,Instr.sureAddr,loadVar,Sem.run_bind,Sem.run_pure,C,t,Result.andThen_ok,Q,MB]
  simp[<-E,F,y]
 .subst y
  have A:=D 0 (by rw[<-E];simp)
  simp at A
  simp only[execOp,Instr.loadAt,I,Instr.sureAddr,loadVar,Sem.run_bind,Sem.run_pure,C,t,Result.andThen_ok]
  simp[zQ,A,J]
def Jq(C:uB e T)(B:ku n i a)(D:a.eval x=.pointer (some ⟨b,o,none⟩))
 (A:∀d f,fK T c=some d->f<d.sh.length->(b,o+f)∈Ta T i (.load c x))(h:PW T j c b o k):oY e T i j a ⟨q,.load c x,v,u,p,r⟩ k:=by
 unfold PW at h
 split at h
 .rename_i H I F d
  obtain⟨g,w,G,E⟩:=PV _ _ _ _ _ h
  exact nj C B D d rfl (λf t=>A _ f d t) G (λz m=>by simpa using E z m) (s:=.agg g) rfl (Or.inl ⟨rfl,rfl⟩) w
 .rename_i G F d
  obtain⟨y,E,w⟩:=h
  exact nj C B D d rfl (λf t=>A _ f d t) (g:=[G.mk y]) rfl (λz m=>by
   have:z=0:=by simpa using m
   subst this;exact E) (s:=.c (G.mk y)) rfl (Or.inr ⟨rfl,_,rfl,rfl⟩) w
 .rename_i G H F d
  obtain⟨y,E,w⟩:=h
  exact nj C B D d rfl (λf t=>A _ f d t) (g:=[.s y]) rfl (λz m=>by
   have:z=0:=by simpa using m
   subst this;exact E) (s:=.c (.s y)) rfl (Or.inr ⟨rfl,_,rfl,rfl⟩) w
 .exact h.elim
def Mp:∀{a:List Ce}{b o:Nat}{g:List Ce},Hq a o b=some g->g.length=b/\∀i,i<b->a[o+i]? =g[i]?
 |a,0,o,g,h=>by simp[Hq]at h;subst h;simp
 |a,b+1,o,g,h=>by
  simp only[Hq]at h;split at h
  .rename_i j r c f;simp at h;subst h;obtain⟨d,e⟩:=Mp f;refine⟨by simp[d],λi k=>?_⟩;cases i with
   |zero=>rw[pR]at c;simpa using c
   |succ i=>
    have:=e i V;rw[show o+(i+1)=o+1+i by omega];simpa using this
  .simp at h
def Jp(C:uB e T)(B:ku n i a){H:Nat}{G:List Ce}(E:a.eval x=.pointer (some ⟨b,o,none⟩))
 (A:∀d m,fK T c=some d->m<d.sh.length->(b,o+m)∈Ta T i (.load c x))(I:j[b]? =some (.cells (G.map Ce.v).toArray H))(h:NC T c G o k):
 oY e T i j a ⟨q,.load c x,v,u,p,r⟩ k:=by
 have D:∀f,af j b f=(G[f]?).map Ce.v:=λf=>by simp[af,I]
 unfold NC at h
 split at h
 .rename_i K L F d
  split at h
  .rename_i g J
   obtain⟨t,w⟩:=Mp J
   exact nj C B E d rfl (λm z=>A _ m d z) t (λf y=>by rw[D,w f y]) (s:=.agg g) rfl (Or.inl ⟨rfl,rfl⟩) h
  .exact h.elim
 .rename_i J F d
  split at h
  .rename_i t w
   rw[pR]at w
   exact nj C B E d rfl (λm z=>A _ m d z) (g:=[t]) rfl (λf y=>by
    have:f=0:=by simpa using y
    subst this;rw[D];simp[w]) (s:=.c t) rfl (Or.inr ⟨rfl,_,rfl,rfl⟩) h
  .exact h.elim
 .rename_i H J F d
  split at h
  .rename_i t w
   rw[pR]at w
   exact nj C B E d rfl (λm z=>A _ m d z) (g:=[t]) rfl (λf y=>by
    have:f=0:=by simpa using y
    subst this;rw[D];simp[w]) (s:=.c t) rfl (Or.inr ⟨rfl,_,rfl,rfl⟩) h
  .exact h.elim
 .rename_i L K J F d
  split at h
  .rename_i t w
   rw[pR]at w
   exact nj C B E d rfl (λm z=>A _ m d z) (g:=[t]) rfl (λf y=>by
    have:f=0:=by simpa using y
    subst this;rw[D];simp[w]) (s:=.c t) rfl (Or.inr ⟨rfl,_,rfl,rfl⟩) h
  .exact h.elim
 .exact h.elim
def Q0(l:uB e T)(d:ku n i a)(B:Bx n i j)(h:rd T i j k (.load c x)):oY e T i j a ⟨q,.load c x,v,u,p,r⟩ k:=by
 simp only[rd]at h;split at h
 .rename_i b o f;exact Jq l d (d.eq f rfl) (λm g A z=>by simp only[Ta,f,A];exact List.mem_map.2 ⟨g,List.mem_range.2 z,rfl⟩) h
 .rename_i C b o f;have w:∀m g,fK T c=some m->g<m.sh.length->(b,o+g)∈Ta T i (.load c x):=λm g A z=>by simp only[Ta,f,A];exact List.mem_map.2 ⟨g,List.mem_range.2 z,rfl⟩
  split at h
  .rename_i D t s y;obtain⟨rfl,h⟩:=h;exact Jp l d (d.eq f rfl) w (B.D C _ t s (Or.inl y)) h
  .rename_i D t s y;obtain⟨rfl,h⟩:=h;exact Jp l d (d.eq f rfl) w (B.D C _ t s (Or.inr y)) h
  .exact Jq l d (d.eq f rfl) w h
 .exact h.elim
end
end Go.Vc
end
section
namespace Go.Vc
variable{x:Operand}{t:TypeId}
variable{P:Program}{T:TT}
section
variable{n:Nat}{b:Fr}{a:Act}{m:E}{k:SV->Prop}{d:Option Tmp}{g:TypeId}{f:String}{c:Array Edge}{e:Option (Nat×Bool)}
def MM(l:ku n b a){j:Nat}(h:rd T b m k (.extract x j)):oY P T b m a ⟨d,.extract x j,g,f,c,e⟩ k:=by
 simp only[rd]at h;split at h
 .rename_i p o;split at h
  .rename_i y i;refine⟨_,_,h,nW _,λw _=>?_⟩;rw[pR]at i;rw[AV.aag];have:a.eval x=.tuple (p.map AV.v).toArray:=l.eq o rfl;simp[execOp,Instr.extract,this,i]
  .exact h.elim
 .exact h.elim
def NM(c:ku n b a){x:Option Operand}{d:Int}{k:Int->Prop}(h:MT b x d k):
 (x=none/\k d)\/∃y i,x=some y/\a.eval y=.int .i64 i/\k i:=by
 unfold MT at h
 split at h
 .exact Or.inl ⟨rfl,h⟩
 .rename_i y
  split at h
  .rename_i i e
   exact Or.inr ⟨y,i,rfl,c.eq e rfl,h⟩
  .exact h.elim
def pV(k:IntKind)(i:Int)(y:Nat)(c:BoundsCode)(a:0<=i)(b:i<=y)(w:World):(Instr.sliceBound (.int k i) y c).run P w=.ok i.toNat w:=by
 simp[Instr.sliceBound,asIntOf,a,b]
def Yj(b o l c a d e:Nat):(O.cut (.mk b o l c) a d e).v=.slice (if c=a then some ⟨b,o,none⟩else(some (⟨b,o,none⟩:Addr)).map (·.add (a*e))) (d -a) (c -a):=by
 show Value.slice _ _ _=_;simp only[vP,oA];split<;>rfl
def PQ(J:uB P T)(r:ku n b a){A y:Option Operand}(i:rd T b m k (.slice t x A y none)):oY P T b m a ⟨d,.slice t x A y none,g,f,c,e⟩ k:=by
 simp only[rd]at i;split at i
 .rename_i s G;unfold Rl at i;split at i
  .rename_i v N M L;split at i
   .rename_i B K;cases D:B.uI
    .rw[D]at i;have F:=(kE (J.yA L)).1;have E:=λw=>kL J K D w;have z:∀(l h:Int),0<=l->l<=h->h<=(s.cap:Int)->
      (∀w:World,(Instr.sliceBounds true s.len s.cap (A.map a.eval) (y.map a.eval) none).run P w=.ok (l.toNat,h.toNat,s.cap) w)->
      ∀w:World,(execOp a.eval ⟨d,.slice t x A y none,g,f,c,e⟩).run P w=.ok (.value (Ce.s (s.cut l.toNat h.toNat B.sh.length)).v) w:=by
      intro l h o p j q w
      cases s with
      |nil=>
       simp only[O.cap,O.len]at q j
       have:h=0:=V
       have:l=0:=V
       subst this;subst h
       simp[execOp,Instr.sliceAt,r.eq G rfl,SV.v,Ce.v,O.v,run_underlying F,Instr.slice,q,E,O.cut]
      |zT u C H=>
       simp only[O.cap,O.len]at q j
       have:h=0:=V
       have:l=0:=V
       subst this;subst h
       simp[execOp,Instr.sliceAt,r.eq G rfl,SV.v,Ce.v,O.v,run_underlying F,Instr.slice,q,E,O.cut]
      |mk u I H C=>
       simp only[O.cap,O.len]at q
       have v:(Ce.s ((O.mk u I H C).cut l.toNat h.toNat B.sh.length)).v=_:=Yj u I H C l.toNat h.toNat B.sh.length
       rw[v]
       have:a.eval x=.slice (some ⟨u,I,none⟩) H C:=r.eq G rfl
       simp[execOp,Instr.sliceAt,this,run_underlying F,Instr.slice,q,E]
     simp only[mT]at i;rcases NM r i with⟨rfl,C⟩|⟨Q,l,rfl,H,C⟩<;>rcases NM r C with⟨rfl,o,p,j,u⟩|⟨R,h,rfl,I,o,p,j,u⟩
     .exact⟨_,_,u,nW _,λw _=>z _ _ o p j (λw=>by simp[Instr.sliceBounds]) w⟩
     .exact⟨_,_,u,nW _,λw _=>z _ _ o p j (λw=>by simp[Instr.sliceBounds,I,pV _ _ _ _ (by omega:0<=h) j]) w⟩
     .exact⟨_,_,u,nW _,λw _=>z _ _ o p j (λw=>by simp[Instr.sliceBounds,H,pV _ _ _ _ o p]) w⟩
     .exact⟨_,_,u,nW _,λw _=>z _ _ o p j (λw=>by
       have v:l<=(h.toNat:Int):=V;simp[Instr.sliceBounds,I,H,pV _ _ _ _ (by omega:0<=h) j,pV _ _ _ _ o v]) w⟩
    .rw[D]at i;exact i.elim
   .exact i.elim
  .exact i.elim
 .exact i.elim
def KL(w:uB P T)(q:ku n b a)(p:List (Nat×Nat))(js:Nat->Option (Nat×Nat))
 (r:∀i d t f,Ic p i=some (d,t)->fK T t=some f->f.uI=false->js i=some (d,f.sh.length)):
 ∀(s:List (Nat×Operand))(c:List Ce)(k:List Ce->Prop),FH T b p c s k->
  ∃l,k l/\Instr.fill js (c.map Ce.v).toArray (s.map λe=>(e.1,a.eval e.2))=some (l.map Ce.v).toArray
 |[],c,k,h=>⟨c,h,rfl⟩
 |(i,x)::H,c,k,h=>by
  simp only[FH]at h;split at h
  .rename_i d t e E D;split at h
   .rename_i f F;cases g:(!f.uI&&Nat.beq e.length f.sh.length&&Nat.ble (d+e.length) c.length)
    .rw[g]at h;exact h.elim
    .rw[g]at h;simp only[bL,iU]at g;obtain⟨⟨y,m⟩,o⟩:=g;have m:=br m;have o:=lV o;obtain⟨l,A,C⟩:=KL w q p js r H (mD c d e) k h;refine⟨l,A,?_⟩;obtain⟨B,z⟩:=pK D;have G:a.eval x=(ev b x).v:=q.eq rfl B;simp only[cN,Instr.fill,r i d t f E F y,G,z,DR,eu,m];rw[ae bF,<-C];congr 1;apply BU;intro j;have u:=NG (e.map Ce.v) 0 d (c.map Ce.v).toArray j;rw[<-aai,ZA];have v:=Ci c d e j o;rw[show((List.map Ce.v (mD c d e)).toArray)[j]? =((mD c d e)[j]?).map Ce.v by simp,v];rw[u];simp;split<;>split<;>first|rfl|(exfalso;omega)|(congr 1;omega)
   .exact h.elim
  .exact h.elim
def YL(T:TT)(t:Nat):Nat:=match fK T t with|some a=>a.sh.length|none=>0
def Jv(c:uB P T)(w:World):∀(a:List Field),(∀f∈a,∃b,fK T f.type=some b/\b.uI=false)->
 (a.mapM (λf=>do pure (f.offset,<-sizeOf f.type):Field->Sem (Nat×Nat))).run P w=.ok (a.map λf=>(f.offset,YL T f.type)) w
 |[],_=>aL
 |f::a,h=>by
  obtain⟨b,d,j⟩:=h f aL;have e:=Jv c w a (λg i=>h g (by simp[i]));simp only[Uz,Sem.run_bind,kL c d j,Result.andThen_ok,Sem.run_pure]at e⊢;rw[e];simp[YL,d]
def Jx:∀{d:List (Nat×Nat)},vo T d=true->∀p∈d,∃a,fK T p.2=some a/\a.uI=false
 |[],_,_,h=>by simp at h
 |(o,t)::r,h,p,c=>by
  simp only[vo,bL]at h;rcases List.mem_cons.1 c with rfl|c
  .have b:=h.1;split at b
   .rename_i a e;exact⟨a,e,by simpa using b⟩
   .simp at b
  .exact Jx h.2 p c
def PN(l:uB P T)(z:ku n b a){o:Array (Nat×Operand)}(i:rd T b m k (.build t o)):oY P T b m a ⟨d,.build t o,g,f,c,e⟩ k:=by
 simp only[rd]at i;split at i
 .rename_i y K M v;cases q:vo T y
  .rw[q]at i;exact i.elim
  rw[q]at i;obtain⟨⟨j,D,s⟩,_⟩:=nv (l.yA v);obtain⟨L,I,J,Q⟩:=wm l v rfl;have A:∀h∈j.toList,∃r,fK T h.type=some r/\r.uI=false:=λh B=>
   Jx q (h.offset,h.type) (by rw[<-s];exact List.mem_map.2 ⟨h,B,rfl⟩)
  have G:∀w:World,(j.mapM (λh=>do pure (h.offset,<-sizeOf h.type):Field->Sem (Nat×Nat))).run P w=.ok (j.toList.map λh=>(h.offset,YL T h.type)).toArray w:=by
   intro w;rw[UH,Sem.run_map,Jv l w j.toList A];rfl
  obtain⟨R,E,F⟩:=KL l z y (λx=>((j.toList.map λh=>(h.offset,YL T h.type)).toArray)[x]?) (λx S t r u H O=>by
   rw[pR,<-s,cL]at u;obtain⟨N,C,p⟩:=Option.map_eq_some_iff.1 u;simp only[Oh]at p;obtain⟨rfl,rfl⟩:=p;simp only[lU,cL,C,oA,YL,H]) _ _ _ i
  refine⟨_,_,E,nW _,λw _=>?_⟩;have u:L.cells=((K.map Sh.zero).map Ce.v).toArray:=by
   apply Array.toList_inj.1;simp[I]
  have C:(o.map λp=>(p.1,a.eval p.2)).toList=o.toList.map λp=>(p.1,a.eval p.2):=aL;simp only[execOp,Instr.build,Sem.run_bind,J,Result.andThen_ok,run_underlying D,G,u,C,F];simp[SV.v]
 .exact i.elim
def Cc(d:ku n b a):∀{c:List Operand},c.all (λx=>(ev b x).jP)=true->c.map a.eval=c.map λx=>(ev b x).v
 |[],_=>rfl
 |x::c,h=>by
  simp only[Of,bL]at h;simp only[cN,d.eq rfl h.1,Cc d h.2]
def MK(v:uB P T)(l:ku n b a){s:Builtin}{i:Array Operand}{r:Array TypeId}(h:rd T b m k (.call ⟨.builtin s,i,r⟩)):
 oY P T b m a ⟨d,.call ⟨.builtin s,i,r⟩,g,f,c,e⟩ k:=by
 simp only[rd]at h
 unfold Tz at h
 split at h
 .rename_i t x z p
  split at h
  .rename_i D E C q y o
   refine⟨_,_,h,nW _,λw _=>?_⟩
   have A:=(kE (v.yA y)).1
   have u:r=#[t]:=Array.toList_inj.1 (by simpa using z)
   have j:i=#[x]:=Array.toList_inj.1 (by simpa using p)
   subst u;subst j
   have B:a.eval x=q.v:=l.eq o rfl
   cases q<;>simp[execOp,resolve,invoke,builtin,Builtin.len_,run_underlying A,B,O.v,goInt,SV.v,Ce.v,O.len]
  .exact h.elim
 .rename_i x y p
  split at h
  .rename_i u z o q
   refine⟨_,_,h,nW _,λw _=>?_⟩
   have j:i=#[x,y]:=Array.toList_inj.1 (by simpa using p)
   subst j
   simp[execOp,resolve,invoke,builtin,Builtin.max_,Builtin.max2,l.eq o rfl,l.eq q rfl,SV.v,Ce.v]
  .exact h.elim
 .rename_i x y p
  split at h
  .rename_i u z o q
   refine⟨_,_,h,nW _,λw _=>?_⟩
   have j:i=#[x,y]:=Array.toList_inj.1 (by simpa using p)
   subst j
   simp[execOp,resolve,invoke,builtin,Builtin.min_,Builtin.min2,l.eq o rfl,l.eq q rfl,SV.v,Ce.v]
  .exact h.elim
 .exact h.elim
def Lz(j:uB P T)(i:ku n b a)(s:Bx n b m)(o:Oper)(h:rd T b m k o.op):oY P T b m a o k:=by
 obtain⟨d,l,g,f,c,e⟩:=o;cases l with
 |move x=>exact TY i h
 |assign x=>exact SD i h
 |pick p x y=>exact Q1 i h
 |nilCheck x=>exact K6 i h
 |binOp l t x y q=>exact PM j i h
 |unOp l t x=>exact Q2 i h
 |convert q t x=>exact ML j i h
 |fieldAddr t x q=>exact JL j i h
 |field t x q=>exact PO j i h
 |indexAddr t x y=>exact JM j i h
 |load t x=>exact Q0 j i s h
 |extract x r=>exact MM i h
 |slice t x u r mx=>cases mx with
  |none=>exact PQ j i h
  |some y=>exact h.elim
 |build t r=>exact PN j i h
 |call p=>
  obtain⟨r,u,w⟩:=p;cases r with
  |builtin v=>exact MK j i h
  |value q=>exact h.elim
  |invoke v q=>exact h.elim
 |_=>exact h.elim
end
end Go.Vc
end
section
namespace Go.Vc
variable{m m':E}{b o e n q:Nat}{l:List Ce}
def ah(m:E)(b o:Nat):List Ce->E
 |[]=>m
 |c::r=>ah (rE m b o c.v) b (o+1) r
def fL(m:E)(b o n:Nat):Prop:=∀j,j<n->(af m b (o+j)).isSome=true/\vQ m b (o+j)=false
def fR(m:E)(b o:Nat)(l:List Ce):Prop:=∀(i:Nat)(c:Ce),l[i]? =some c->af m b (o+i)=some c.v
def mS(a:List Ce)(n:Nat):List Ce:=(List.replicate n a).flatten
def bu(l:List Ce):Array Value:=(l.map Ce.v).toArray
def Rh(m:E)(b o:Nat)(v:Value):(rE m b o v).size=m.size:=by simp[rE]
def LI(m:E)(b o:Nat)(v:Value){j:Nat}(h:j≠b):(rE m b o v)[j]? =m[j]? :=by
 simp only[rE,lT];rw[ae (λe=>h e.symm)]
def aw:∀(l:List Ce)(m:E)(b o:Nat),(ah m b o l).size=m.size
 |[],_,_,_=>rfl
 |c::r,m,b,o=>by simp only[ah];rw[aw r,Rh]
def bd:∀(l:List Ce)(m:E)(b o:Nat){j:Nat},j≠b->(ah m b o l)[j]? =m[j]?
 |[],_,_,_,_,_=>rfl
 |c::r,m,b,o,j,h=>by simp only[ah];rw[bd r _ _ _ h,LI m b o _ h]
def mz{v:Value}(h:af m b o=some v):b<m.size:=by
 rcases aW b m.size with a|a
 .exact a
 .simp[af,Jh a]at h
def aH(h:m'[b]? =m[b]?)(o:Nat):af m' b o=af m b o:=by simp only[af,h]
def cJ(m:E)(b:Nat)(e:Nat)(l:List Ce):Prop:=m[b]? =some (.cells (bu l) e)
def Us(l:List Ce)(i:Nat):(bu l)[i]? =(l[i]?).map Ce.v:=by simp[bu]
def cJ.cg(h:cJ m b e l)(o:Nat):af m b o=(l[o]?).map Ce.v:=by
 have a:m[b]? =some (.cells (bu l) e (0,0)):=h;simp only[af,a,Us]
def cJ.iJ(h:cJ m b e l):fR m b 0 l:=λi c a=>by rw[h.cg,bV,a];rfl
def cJ.lt(h:cJ m b e l):b<m.size:=(Array.getElem?_eq_some_iff.1 h).1
def cJ.vQ{m:E}{b e:Nat}{l:List Ce}(h:cJ m b e l)(o:Nat):vQ m b o=false:=by
 have a:m[b]? =some (.cells (bu l) e (0,0)):=h;simp[Vc.vQ,a]
def cJ.fL(h:cJ m b e l)(c:o+n<=l.length):fL m b o n:=λj a=>by
 refine⟨?_,h.vQ _⟩;rw[h.cg];simp;omega
def cJ.push(m:E)(l:List Ce)(e:Nat):cJ (m.push (.cells (bu l) e)) m.size e l:=by simp[cJ]
def cJ.congr(a:cJ m b e l)(h:m'[b]? =m[b]?):cJ m' b e l:=by
 unfold cJ at*;rw[h];exact a
def cJ.rE{m:E}{b e:Nat}{l:List Ce}(h:cJ m b e l)(o:Nat)(c:Ce):cJ (rE m b o c.v) b e (l.set o c):=by
 have d:m[b]? =some (.cells (bu l) e (0,0)):=h;have f:=h.lt;simp only[cJ,Vc.rE,lT,MB,d,oA];congr 2;apply BU;intro i;simp only[bu,Array.getElem?_setIfInBounds,lU,cL,jL,DR,eu];by_cases e:o=i
 .subst e;by_cases a:o<l.length
  .simp[a]
  .simp[a]
 .simp[e]
def jm(l:List Ce)(o:Nat):List Ce->List Ce
 |[]=>l
 |c::r=>jm (l.set o c) (o+1) r
def k8:∀(r l:List Ce)(o:Nat),(jm l o r).length=l.length
 |[],_,_=>rfl
 |c::r,l,o=>by simp only[jm];rw[k8 r];simp
def wo:∀(r l:List Ce)(o i:Nat),(jm l o r)[i]? =if o<=i/\i<o+r.length/\i<l.length then r[i -o]? else l[i]?
 |[],l,o,i=>by simp[jm];intro h;omega
 |c::r,l,o,i=>by
  simp only[jm];rw[wo r,jL];simp only[ez,ba];by_cases b:o=i
  .subst b;by_cases a:o<l.length
   .simp[a];try omega
   .simp[a];try omega
  .by_cases a:o<=i/\i<o+(r.length+1)/\i<l.length
   .rw[ao a,ao V,show i -o=(i -(o+1))+1 by omega,iy]
   .rw[ae a,ae V];simp[b]
def cJ.ah{m:E}{b e:Nat}:∀{r l:List Ce}{m:E}{o:Nat},cJ m b e l->cJ (ah m b o r) b e (jm l o r)
 |[],_,_,_,h=>h
 |c::r,l,m,o,h=>by
  simp only[Vc.ah,jm];exact cJ.ah (m:=m) (h.rE o c)
def vm(t:Nat):List Nat->Bool
 |[]=>false
 |u::r=>Nat.beq u t||vm t r
def H9{t:Nat}:∀{M:List Nat},vm t M=true->t∈M
 |[],h=>by simp[vm]at h
 |u::r,h=>by
  simp only[vm,bT]at h;rcases h with h|h
  .rw[br h];exact bg
  .exact ai _ (H9 h)
def MA(n:Nat):Fr->List Nat->List Nat
 |[],_=>[]
 |(q,x)::r,a=>bif Nat.ble n q&&!vm q a then
  match x with
  | .box b _ _=>b::MA n r (q::a)
  | .zN b _ _=>b::MA n r (q::a)
  |_=>MA n r (q::a)
  else MA n r a
def eH(l:List Nat)(m m':E):Prop:=∀b∈l,m'[b]? =m[b]?
def Au(l:List Nat)(m m':E)(k:Prop):Prop:=
 match l with
 |[]=>k
 |_=>eH l m m'/\k
def mL{l:List Nat}{k:Prop}(h:Au l m m' k):eH l m m'/\k:=by
 unfold Au at h;split at h
 .exact⟨(λb a=>by cases a),h⟩
 .exact h
def Hs{n:Nat}{q b e:Nat}{l:List Ce}(c:n<=q):∀{j:Fr}{a:List Nat},q∉a->lY j q b e l->b∈MA n j a
 |[],a,_,h=>by rcases h with h|h<;>simp[iA]at h
 |(u,x)::r,a,g,h=>by
  simp only[MA];cases f:Nat.beq u q
  .have k:u≠q:=λe=>by subst e;simp at f
   have d:lY r q b e l:=by
    unfold lY at h⊢;simpa only[iA,f,mT]using h
   have i:q∉u::a:=by
    simp only[aV,vG];exact⟨λe=>k e.symm,g⟩
   cases(Nat.ble n u&&!vm u a)
   .exact Hs c g d
   .simp only[jO];split
    .exact ai _ (Hs c i d)
    .exact ai _ (Hs c i d)
    .exact Hs c i d
  .have:=br f;subst this;have i:vm u a=false:=by
    cases k:vm u a
    .rfl
    .exact absurd (H9 k) g
   have d:Nat.ble n u=true:=XT c;simp only[i,d,Mw,Bool.and_self,jO];unfold lY at h;simp only[iA,f,jO]at h;rcases h with h|h<;>rw[h]<;>exact bg
def Bx.fV{c:Fr}(h:Bx n c m){x:SV}(i:∀b e l,x≠.box b e l/\x≠.zN b e l):Bx n ((q,x)::c) m:=by
 have d:∀{u b e l},lY ((q,x)::c) u b e l->lY c u b e l:=by
  intro u b e l a;unfold lY at a⊢;simp only[iA]at a;cases g:Nat.beq q u
  .rw[g]at a;exact a
  .rw[g]at a;rcases a with a|a
   .exact absurd a (i b e l).1
   .exact absurd a (i b e l).2
 exact⟨λq b e l f=>h.D q b e l (d f),λq t b e l j k s r o p=>h.OA q t b e l j k s r (d o) (d p),λq b e l f=>h.key q b e l (d f)⟩
def SV.YE(x:SV)(b e:Nat)(l:List Ce):x.nb≠.box b e l/\x.nb≠.zN b e l:=by
 cases x<;>exact⟨by simp[SV.nb],by simp[SV.nb]⟩
def Bx.put{a:Fr}(h:Bx n a m)(d:Option Nat)(x:SV):Bx n (ug a d x) m:=by
 cases d with
 |none=>exact h
 |some d=>exact h.fV (SV.YE x)
def Bx.dy{a:Fr}(h:Bx n a m)(d:eH (MA n a []) m m'):Bx n a m':=
 ⟨λq b e l c=>by rw[d b (Hs (h.key q b e l c) aL c)];exact h.D q b e l c,h.OA,h.key⟩
def Bx.push{a:Fr}(h:Bx n a m)(o:Obj):Bx n a (m.push o):=
 ⟨λq b e l d=>by
  have c:=h.D q b e l d;have f:=(Array.getElem?_eq_some_iff.1 c).1;rw[mX,ae V];exact c,h.OA,h.key⟩
def Bx.new{d:Fr}(h:Bx n d m)(x:n<=q)(t:Nat)(l:List Ce):Bx n ((q,.box m.size t l)::d) (m.push (.cells (bu l) t)):=by
 have w:=h.push (.cells (bu l) t);have p:∀{u b e l},lY d u b e l->b<m.size:=λa=>(Array.getElem?_eq_some_iff.1 (h.D _ _ _ _ a)).1;have g:∀{u b e c},lY ((q,.box m.size t l)::d) u b e c->(u=q/\b=m.size/\e=t/\c=l)\/(u≠q/\lY d u b e c):=by
  intro u b e c a;unfold lY at a⊢;simp only[iA]at a;cases f:Nat.beq q u
  .rw[f]at a;exact Or.inr ⟨λe=>by subst e;simp at f,a⟩
  .rw[f]at a;have:=br f;subst this;rcases a with a|a
   .simp at a;exact Or.inl ⟨rfl,a.1.symm,a.2.1.symm,a.2.2.symm⟩
   .simp at a
 refine⟨λu b e c a=>?_,λu B b e z r s A o v k=>?_,λu b e c a=>?_⟩
 .rcases g a with⟨rfl,rfl,rfl,rfl⟩|⟨_,a⟩
  .simp[bu]
  .exact w.D u b e c a
 .rcases g v with⟨rfl,rfl,rfl,rfl⟩|⟨f,j⟩
  .rcases g k with⟨rfl,rfl,rfl,rfl⟩|⟨y,i⟩
   .exact absurd rfl o
   .have:=p i;omega
  .rcases g k with⟨rfl,rfl,rfl,rfl⟩|⟨y,i⟩
   .have:=p j;omega
   .exact h.OA u B b e z r s A o j i
 .rcases g a with⟨rfl,rfl,rfl,rfl⟩|⟨_,a⟩
  .exact x
  .exact h.key u b e c a
def Bx.oG{j:Fr}(h:Bx n j m){f:List Ce}(E:iA j q=.box b e f)(o:Nat)(l:List Ce):Bx n ((q,.box b e (jm f o l))::j) (ah m b o l):=by
 have k:lY j q b e f:=Or.inl E;have D:cJ m b e f:=h.D q b e f k;have p:∀{u c d g},lY ((q,.box b e (jm f o l))::j) u c d g->(u=q/\c=b/\d=e/\g=jm f o l)\/(u≠q/\lY j u c d g):=by
  intro u c d g a;unfold lY at a⊢;simp only[iA]at a;cases i:Nat.beq q u
  .rw[i]at a;exact Or.inr ⟨λe=>by subst e;simp at i,a⟩
  .rw[i]at a;have:=br i;subst this;rcases a with a|a
   .simp at a;exact Or.inl ⟨rfl,a.1.symm,a.2.1.symm,a.2.2.symm⟩
   .simp at a
 refine⟨λu c d g a=>?_,λu s b1 t A b2 v B y C x=>?_,λu c d g a=>?_⟩
 .rcases p a with⟨rfl,rfl,rfl,rfl⟩|⟨i,a⟩
  .exact cJ.ah (m:=m) D
  .rw[bd l m b o (h.OA u q c d g b e f i a k)];exact h.D u c d g a
 .rcases p C with⟨rfl,rfl,rfl,rfl⟩|⟨i,w⟩
  .rcases p x with⟨rfl,rfl,rfl,rfl⟩|⟨z,r⟩
   .exact absurd rfl y
   .exactλe=>h.OA s u b2 v B _ _ _ z r k e.symm
  .rcases p x with⟨rfl,rfl,rfl,rfl⟩|⟨z,r⟩
   .exact h.OA u s b1 t A _ _ _ i w k
   .exact h.OA u s b1 t A b2 v B y w r
 .rcases p a with⟨rfl,rfl,rfl,rfl⟩|⟨_,a⟩
  .exact h.key u c d f k
  .exact h.key u c d g a
def FL(a:Fr):List Ce->Option Fr
 |[]=>some a
 | .bp q _ _::r=>match iA a q with
  | .zN _ _ _=>none
  |_=>FL ((q,.fV)::a) r
 |_::r=>FL a r
def AV.U0:AV->List Ce
 | .c x=>[x]
 | .agg l=>l
def SV.U0:SV->List Ce
 | .c x=>[x]
 | .agg l=>l
 | .Xv l=>l.flatMap AV.U0
 |_=>[]
def TV(a:Fr)(l:List SV):Option Fr:=FL a (l.flatMap SV.U0)
def qE{n:Nat}{f:Act}{m:E}:∀{l:List Ce}{a c:Fr},FL a l=some c->ku n a f->Bx n a m->ku n c f/\Bx n c m
 |[],a,c,h,e,d=>by simp[FL]at h;subst h;exact⟨e,d⟩
 |g::r,a,c,h,e,d=>by
  cases g with
  |bp q b o=>
   simp only[FL]at h;split at h
   .simp at h
   .exact qE h (e.fV q) (d.fV aL)
  |_=>exact qE (l:=r) (by simpa[FL]using h) e d
end Go.Vc
end
section
namespace Go.Vc
variable{P:Program}{T:TT}
def OQ(m:E)(k:E->Prop):Prop:=k m
def jT(m:E)(f:Nat)(b:List Ce)(e:Nat)(s x:O)(k:O->E->Prop):Prop:=
 ∃a:List Ce,a.length=x.len*b.length/\fR m x.D x.off a/\
  (s.len+x.len<=s.cap->fL m s.D (s.off+s.len*b.length) a.length/\
   k (match s with| .nil=>.nil| .mk d o l c=>.mk d o (l+x.len) c| .zT d o g=>.zT d o g) (ah m s.D (s.off+s.len*b.length) a))/\
  (s.cap<s.len+x.len->(s.len+x.len)*e<=140737488355328/\∃old:List Ce,old.length=s.len*b.length/\fR m s.D s.off old/\
   ∀c,s.len+x.len<=c->k (.mk m.size 0 (s.len+x.len) c) (m.push (.cells (bu (old++a++mS b (c -(s.len+x.len)))) f)))
def Xf(m:E)(c:Nat)(s x:O)(k:SV->E->Prop):Prop:=
 ∃a:List Ce,a.length=Nat.min x.len s.len*c/\fR m x.D x.off a/\fL m s.D s.off a.length/\
  OQ (ah m s.D s.off a) λb=>k (.c (.i (Nat.min x.len s.len:Nat))) b
def UG:List Sh->(List Ce->Prop)->Prop
 |[],k=>k []
 |s::r,k=>∃x:s.ty,UG r λl=>k (s.mk x::l)
def Sz(T:TT):List Nat->(List AV->Prop)->Prop
 |[],k=>k []
 |t::r,k=>match fK T t with
  |some ⟨.struct _,b,_⟩=>UG b λl=>Sz T r λa=>k (.agg l::a)
  |some ⟨.cell,[s],_⟩=>∃x:s.ty,Sz T r λa=>k (.c (s.mk x)::a)
  |some ⟨.slice _,[_],_⟩=>∃x:O,Sz T r λa=>k (.c (.s x)::a)
  |_=>False
def P9(T:TT)(t:Nat)(v:Value)(k:SV->Prop):Prop:=
 match fK T t with
 |some ⟨.tuple [],_,_⟩=>k .fV
 |some ⟨.tuple a,_,_⟩=>Sz T a λl=>v=.tuple (l.map AV.v).toArray/\k (.Xv l)
 |some ⟨.struct _,a,_⟩=>UG a λl=>v=.agg (l.map Ce.v).toArray/\k (.agg l)
 |some ⟨.cell,[s],_⟩=>∃x:s.ty,v=(s.mk x).v/\k (.c (s.mk x))
 |some ⟨.slice _,[_],_⟩=>∃x:O,v=x.v/\k (.c (.s x))
 |_=>False
def TC(P:Program)(T:TT)(G:List Nat)(n:Nat)(a:Fr)(m:E)(e:Nat)(h:Operand)(b:List Operand)(k:Fr->SV->E->Prop):Prop:=
 match TV a (b.map (ev a))with
 |none=>False
 |some d=>match ev a h with
  | .c (.fn (.func g) first f)=>bif G.elem g&&b.all (λx=>(ev a x).jP)then
   aN P g (first.toList++(b.map λx=>(ev a x).v)++f.toList) m λv c=>Au (MA n d []) m c (P9 T e v λx=>k d x c)
   else False
  | .c (.fv q)=>bif b.all (λx=>(ev a x).jP)then
   ∃g,q.1=.func g/\G.elem g=true/\aN P g (q.2.1.toList++(b.map λx=>(ev a x).v)++q.2.2.toList) m λv c=>Au (MA n d []) m c (P9 T e v λx=>k d x c)
   else False
  |_=>False
def DE(m:E)(b:Nat)(l:List (Int×Int)):Prop:=
 ∃a c,m[b]? =some (.map a c)/\a.toList.map (λe=>(e.key,e.val))=l.map λp=>(Value.int .i64 p.1,Value.int .i64 p.2)
def vn(l:List (Int×Int))(k:Int):Int:=
 match l with
 |[]=>0
 |(j,v)::r=>if k=j then v else vn r k
def JQ(l:List (Int×Int))(k v:Int):List (Int×Int):=
 match l with
 |[]=>[(k,v)]
 |(j,u)::r=>if k=j then(j,v)::r else(j,u)::JQ r k v
def xp(T:TT)(d:Fr)(b:Nat):List Ce->List (Nat×Operand)->(List Ce->Prop)->Prop
 |a,[],k=>k a
 |a,(i,x)::r,k=>
  match(ev d x).cells with
  |some c=>bif Nat.beq c.length b&&Nat.ble (i*b+c.length) a.length then xp T d b (mD a (i*b) c) r k else False
  |none=>False
def SH(n:Nat)(b:Fr)(d:Option Nat)(m:E)(t:Nat)(l:List Ce)(k:Fr->SV->E->Prop):Prop:=
 match d with
 |some a=>match iA b (n+a)with
  | .zN _ _ _=>False
  |_=>OQ (m.push (.cells (bu l) t)) λc=>k ((n+a,.box m.size t l)::b) (.c (.bp (n+a) m.size 0)) c
 |none=>OQ (m.push (.cells (bu l) t)) λc=>k b (.c (.p m.size 0)) c
def O8(n:Nat)(c:Fr)(m:E)(x:SV)(l:List Ce)(k:Fr->SV->E->Prop):Prop:=
 match x with
 | .c (.p b o)=>fL m b o l.length/\OQ (ah m b o l) λa=>Au (MA n c []) m a (k c .un a)
 | .c (.bp q b o)=>match iA c q with
  | .box d f e=>bif Nat.ble (o+l.length) e.length then MH d b (OQ (ah m b o l) λa=>k ((q,.box d f (jm e o l))::c) .un a)else False
  | .zN _ _ _=>False
  |_=>fL m b o l.length/\OQ (ah m b o l) λa=>Au (MA n c []) m a (k c .un a)
 |_=>False
def wr(P:Program)(T:TT)(G:List Nat)(n:Nat)(a:Fr)(m:E)(h:Option Nat)(o:Nat)(k:Fr->SV->E->Prop):Op->Prop
 | .alloc t=>match fK T t with
  |some f=>bif f.uI then False else SH n a h m t (f.sh.map Sh.zero) k
  |none=>False
 | .box t x=>match(ev a x).cells with
  |some l=>match FL a l with
   |some d=>SH n d h m t l k
   |none=>False
  |none=>False
 | .buildSlice t g i=>match fK T t with
  |some ⟨.slice e,_,_⟩=>match fK T e with
   |some c=>bif c.uI||!(Nat.ble (g*c.sh.length) 16777216)then False else
    xp T a c.sh.length (mS (c.sh.map Sh.zero) g) i.toList λl=>match FL a l with
     |some d=>OQ (m.push (.cells (bu l) e)) λb=>k d (.c (.s (.mk m.size 0 g g))) b
     |none=>False
   |none=>False
  |_=>False
 | .store t x y=>match(ev a y).cells,fK T t with
  |some l,some f=>bif f.uI||!(Nat.beq l.length f.sh.length)then False else match FL a l with
   |some d=>O8 n d m (ev a x) l k
   |none=>False
  |_,_=>False
 | .makeSlice t x y=>match fK T t,ev a x,ev a y with
  |some ⟨.slice e,_,_⟩,.c (.i l),.c (.i f)=>match fK T e with
   |some c=>bif c.uI then False else 0<=l/\l<=f/\(c.bytes:Int)*f<=281474976710656/\f<=9223372036854775807/\
    OQ (m.push (.cells (bu (mS (c.sh.map Sh.zero) f.toNat)) e)) λb=>k a (.c (.s (.mk m.size 0 l.toNat f.toNat))) b
   |none=>False
  |_,_,_=>False
 | .makeFunc g first f=>bif first.toList.all (λx=>(ev a x).jP)&&f.toList.all (λx=>(ev a x).jP)then
  match TV a (first.toList.map (ev a)++f.toList.map (ev a))with
  |some d=>k d (.c (.fn g (first.toList.map λx=>(ev a x).v).toArray (f.toList.map λx=>(ev a x).v).toArray)) m
  |none=>False
  else False
 | .makeMap _ none=>OQ (m.push (.map #[] 0)) λb=>k a (.c (.mp m.size)) b
 | .lookup t x y false=>match fK T t,ev a x,ev a y with
  |some ⟨.map f g,_,_⟩,.c (.mp d),.c (.i n)=>match fK T f,fK T g with
   |some ⟨.cell,[.I],_⟩,some ⟨.cell,[.I],_⟩=>∃l,DE m d l/\k a (.c (.i (vn l n))) m
   |_,_=>False
  |_,_,_=>False
 | .mapUpdate t x y z=>match fK T t,ev a x,ev a y,ev a z with
  |some ⟨.map f _,_,_⟩,.c (.mp d),.c (.i g),.c (.i v)=>match fK T f with
   |some ⟨.cell,[.I],_⟩=>∃l,DE m d l/\∀b,DE b d (JQ l g v)->b.size=m.size->(∀j,j≠d->b[j]? =m[j]?)->Au (MA n a []) m b (k a .un b)
   |_=>False
  |_,_,_,_=>False
 | .call ⟨.value f,d,_⟩=>TC P T G n a m o f d.toList k
 | .call ⟨.builtin .append,d,f⟩=>match d.toList,f.toList with
  |[x,y],[t,u]=>match fK T t,fK T u,ev a x,ev a y with
   |some ⟨.slice e,_,_⟩,some ⟨.slice _,_,_⟩,.c (.s s),.c (.s z)=>match fK T e with
    |some c=>bif c.uI||Nat.beq c.bytes 0 then False else jT m e (c.sh.map Sh.zero) c.bytes s z λr b=>Au (MA n a []) m b (k a (.c (.s r)) b)
    |none=>False
   |_,_,_,_=>False
  |_,_=>False
 | .call ⟨.builtin .copy,d,f⟩=>match d.toList,f.toList with
  |[x,y],t::_=>match fK T t,ev a x,ev a y with
   |some ⟨.slice e,_,_⟩,.c (.s s),.c (.s z)=>match fK T e with
    |some c=>bif c.uI then False else Xf m c.sh.length s z λx b=>Au (MA n a []) m b (k a x b)
    |none=>False
   |_,_,_=>False
  |_,_=>False
 |_=>False
def HM(P:Program)(g:Nat):Bool:=
 match P.funcs[g]? with
 |some a=>!(a.name== "runtime.NumGoroutine")&&a.body.isSome
 |none=>false
def UO(P:Program)(G:List Nat):Prop:=G.all (HM P)=true
def Qw(a:List Ce):∀(n i:Nat),i<n*a.length->(mS a n)[i]? =a[i%a.length]?
 |0,i,h=>by simp at h
 |n+1,i,h=>by
  have c:0<a.length:=by
   rcases km a.length with e|e
   .rw[e]at h;simp at h
   .exact e
  have e:mS a (n+1)=a++mS a n:=by simp[mS,qT]
  rw[e,List.getElem?_append];split
  .rename_i b;rw[Nat.mod_eq_of_lt b]
  .rename_i b;rw[Qw a n (i -a.length) (by rw[gS,Nat.one_mul]at h;omega)];congr 1;rw[Nat.mod_eq_sub_mod (by omega:i>=a.length)]
def rQ(a:List Ce)(n:Nat):(mS a n).length=n*a.length:=by
 simp[mS]
def Jg(a:List Ce)(z:Array Value)(d:z.toList=a.map Ce.v)(n:Nat):
 (Array.range (n*a.length)).map (λi=>z[i%z.size]!)=bu (mS a n):=by
 apply BU
 intro i
 have j:z.size=a.length:=by rw[<-Zz,d];simp
 by_cases b:i<n*a.length
 .have f:=Qw a n i b
  have h:0<a.length:=by
   rcases km a.length with e|e
   .rw[e]at b;simp at b
   .exact e
  have g:i%a.length<a.length:=Nat.mod_lt _ h
  have c:(bu (mS a n))[i]? =((mS a n)[i]?).map Ce.v:=by simp[bu]
  rw[c,f,<-cL,<-d]
  simp[b,j,g]
 .have c:(bu (mS a n))[i]? =none:=by simp[bu,rQ];omega
  rw[c]
  simp[b]
end Go.Vc
end
section
namespace Go.Vc
variable{c:SV}{l:List Ce}{t:TypeId}
variable{d:Program}{T:TT}{G:List Nat}
def Ce.Vg(c:Ce):c.v.oneCell'=true:=by
 cases c with
 |s y=>cases y<;>rfl
 |_=>rfl
def lx:∀(l:List Ce)(w:World)(b o:Nat),(w.setCells b o (l.map Ce.v)).heap=ah w.heap b o l
 |[],_,_,_=>rfl
 |c::r,w,b,o=>by
  simp only[cN,World.setCells,ah];rw[lx r,OV]
def rh:∀(l:List Value)(w:World)(a o:Nat),pF w (w.setCells a o l)
 |[],w,_,_=>pF.az w
 |c::r,w,a,o=>by
  simp only[World.setCells];exact pF.trans (b:=w.setCell ⟨a,o,none⟩ c) ⟨rfl,rfl,rfl⟩ (rh r _ a (o+1))
def Es(l:List Ce)(b o:Nat)(w:World)(h:fL w.heap b o l.length):
 (storeCells ⟨b,o,none⟩ (l.map Ce.v)).run d w=.ok () (w.setCells b o (l.map Ce.v)):=by
 have:=run_storeCells_cells (P:=d) b o (l.map Ce.v) 0 w
  (λj a=>by have:=(h j (by simpa using a)).1;rw[zQ];simpa using this)
  (λj a=>by have:=(h j (by simpa using a)).2;rw[QX];simpa using this)
  (λv a=>by obtain⟨c,_,rfl⟩:=List.mem_map.1 a;exact c.Vg)
 simpa using this
def Qc(l:List Ce)(b o:Nat)(a:World)(h:fR a.heap b o l):(loadCells ⟨b,o,none⟩ l.length).run d a=.ok (bu l) a:=by
 have:=run_loadCells_list (P:=d) (w:=a) ⟨b,o,none⟩ (l.map Ce.v) (λj v c=>by
  rw[vP,zQ];rw[cL]at c;obtain⟨e,f,rfl⟩:=Option.map_eq_some_iff.1 c;exact h j e f)
 simpa[bu]using this
section
variable{n:Nat}{b:Fr}{a:Act}{m:E}{k:Fr->SV->E->Prop}{e:Option Tmp}{f:TypeId}{i:String}{g:Array Edge}{h:Option (Nat×Bool)}
def Fv(d:Program)(n:Nat)(a:Act)(m:E)(o:Oper)(k:Fr->SV->E->Prop):Prop:=
 ∀(w:World),w.heap=m->∀(f:Act->World->Prop)(Q:Exit->Act->World->Prop),
  (∀e c v b,k e c b.heap->ku n e a->Bx n e b.heap->c.Is v->pF w b->f (a.put o.dst v) b)->o.wp d a w f Q
def jU{o:Oper}{e:Fr}{v:Value}{w b:World}(h:ku n e a)(g:Bx n e b.heap)(p:c.Is v)(m:pF w b)(i:k e c b.heap)(l:(execOp a.eval o).run d w=.ok (.value v) b)
 {f:Act->World->Prop}{Q:Exit->Act->World->Prop}(j:∀e c v b,k e c b.heap->ku n e a->Bx n e b.heap->c.Is v->pF w b->f (a.put o.dst v) b):o.wp d a w f Q:=by
 unfold Oper.wp
 rw[l]
 exact j e c v b i h g p m
def NJ{i:Option Nat}{t:Nat}(g:ku n b a)(f:Bx n b m)(h:SH n b i m t l k):
 ∃d c,ku n d a/\Bx n d (m.push (.cells (bu l) t))/\c.Is (.pointer (some ⟨m.size,0,none⟩))/\k d c (m.push (.cells (bu l) t)):=by
 unfold SH at h
 split at h
 .split at h
  .exact h.elim
  .rename_i e _ j
   exact⟨(n+e,.box m.size t l)::b,.c (.bp (n+e) m.size 0),g.cons _ (λ_=>trivial),f.new (Nat.le_add_right _ _) t l,rfl,h⟩
 .exact⟨b,.c (.p m.size 0),g,f.push _,rfl,h⟩
def Qm(s:ku n b a)(g:Bx n b m)(h:O8 n b m c l k):
 ∃p d o,ku n p a/\Bx n p (ah m d o l)/\(∀v,c.Is v->v=.pointer (some ⟨d,o,none⟩))/\fL m d o l.length/\k p .un (ah m d o l):=by
 unfold O8 at h
 split at h
 .obtain⟨q,r⟩:=mL h.2
  exact⟨_,_,_,s,g.dy q,λv e=>e,h.1,r⟩
 .split at h
  .rename_i w d o _ i j f u
   cases t:Nat.ble (o+l.length) f.length
   .rw[t]at h;exact h.elim
   .rw[t]at h
    obtain⟨rfl,h⟩:=h
    have x:cJ m i j f:=g.D w i j f (Or.inl u)
    exact⟨(w,.box i j (jm f o l))::b,_,_,s.cons _ (λ_=>trivial),g.oG u o l,λv e=>e,x.fL (lV t),h⟩
  .exact h.elim
  .obtain⟨q,r⟩:=mL h.2
   exact⟨_,_,_,s,g.dy q,λv e=>e,h.1,r⟩
 .exact h.elim
def QO(y:uB d T)(s:ku n b a)(q:Bx n b m)(j:wr d T G n b m e f k (.alloc t)):Fv d n a m ⟨e,.alloc t,f,i,g,h⟩ k:=by
 intro l D L Q B
 subst D;simp only[wr]at j;split at j
 .rename_i p C;cases o:p.uI
  .rw[o]at j;obtain⟨I,F,H,K⟩:=wm y C o;have z:I.cells=bu (p.sh.map Sh.zero):=by apply Array.toList_inj.1;simp[F,bu]
   obtain⟨J,c,u,r,E,A⟩:=NJ s q j;refine jU (w:=l) (c:=c) (v:=.pointer (some ⟨l.heap.size,0,none⟩)) (b:={l with heap:=l.heap.push (.cells (bu (p.sh.map Sh.zero)) t)}) u r E ⟨rfl,rfl,rfl⟩ A ?_ B;simp[execOp,Instr.alloc,H,newVar,newRow,z]
  .rw[o]at j;exact j.elim
 .exact j.elim
def TG(p:ku n b a)(q:Bx n b m){c:Operand}(j:wr d T G n b m e f k (.box t c)):Fv d n a m ⟨e,.box t c,f,i,g,h⟩ k:=by
 intro o F L Q E
 subst F;simp only[wr]at j;split at j
 .rename_i l D;split at j
  .rename_i K A;obtain⟨y,s⟩:=qE A p q;obtain⟨B,z⟩:=pK D;obtain⟨J,I,u,r,H,C⟩:=NJ y s j;refine jU (w:=o) (c:=I) (v:=.pointer (some ⟨o.heap.size,0,none⟩)) (b:={o with heap:=o.heap.push (.cells (bu l) t)}) u r H ⟨rfl,rfl,rfl⟩ C ?_ E;simp[execOp,Instr.box,newVar,newRow,p.eq rfl B,z,bu]
  .exact j.elim
 .exact j.elim
def ME(q:ku n b a)(y:Bx n b m){o:Fn}{first l:Array Operand}(j:wr d T G n b m e f k (.makeFunc o first l)):Fv d n a m ⟨e,.makeFunc o first l,f,i,g,h⟩ k:=by
 intro r D F Q C
 subst D;simp only[wr]at j;cases p:(first.toList.all (λc=>(ev b c).jP)&&l.toList.all (λc=>(ev b c).jP))
 .rw[p]at j;exact j.elim
 .rw[p]at j;simp only[bL]at p;obtain⟨u,x⟩:=p;have s:(first.toList.map λc=>(ev b c).v).toArray=first.map a.eval:=by
   apply Array.toList_inj.1;simp[Cc q u]
  have t:(l.toList.map λc=>(ev b c).v).toArray=l.map a.eval:=by
   apply Array.toList_inj.1;simp[Cc q x]
  simp only[jO]at j;split at j
  .rename_i E B;obtain⟨A,z⟩:=qE B q y;refine jU (w:=r) (b:=r) A z (v:=.func o (first.map a.eval) (l.map a.eval)) ?_ (pF.az r) j ?_ C
   .show Value.func o (first.map a.eval) (l.map a.eval)=Value.func o _ _;rw[s,t]
   .simp[execOp,Instr.makeFunc]
  .exact j.elim
def JC(p:ku n b a)(e:Nat):
 ∀(q:List (Nat×Operand))(d:List Ce)(k:List Ce->Prop),xp T b e d q k->
  ∃l,k l/\Instr.fill (λi=>some (i*e,e)) (d.map Ce.v).toArray (q.map λf=>(f.1,a.eval f.2))=some (l.map Ce.v).toArray
 |[],d,k,h=>⟨d,h,rfl⟩
 |(i,c)::z,d,k,h=>by
  simp only[xp]at h;split at h
  .rename_i f x;cases g:(Nat.beq f.length e&&Nat.ble (i*e+f.length) d.length)
   .rw[g]at h;exact h.elim
   .rw[g]at h;simp only[bL]at g;obtain⟨m,o⟩:=g;have m:=br m;have o:=lV o;obtain⟨l,u,w⟩:=JC p e z (mD d (i*e) f) k h;refine⟨l,u,?_⟩;obtain⟨v,t⟩:=pK x;have y:a.eval c=(ev b c).v:=p.eq rfl v;simp only[cN,Instr.fill,y,t,DR,eu,m];rw[ae bF,<-w];congr 1;apply BU;intro j;have r:=NG (f.map Ce.v) 0 (i*e) (d.map Ce.v).toArray j;rw[<-aai,ZA];have s:=Ci d (i*e) f j o;rw[show((List.map Ce.v (mD d (i*e) f)).toArray)[j]? =((mD d (i*e) f)[j]?).map Ce.v by simp,s];rw[r];simp;split<;>split<;>first|rfl|(exfalso;omega)|(congr 1;omega)
  .exact h.elim
def JJ(B:uB d T)(D:ku n b a)(N:Bx n b m){j:Nat}{z:Array (Nat×Operand)}(o:wr d T G n b m e f k (.buildSlice t j z)):Fv d n a m ⟨e,.buildSlice t j z,f,i,g,h⟩ k:=by
 intro q U ad Z Q
 subst U;simp only[wr]at o;split at o
 .rename_i L sh aa S;split at o
  .rename_i p H;cases r:(p.uI||!(Nat.ble (j*p.sh.length) 16777216))
   .rw[r]at o;simp only[bt,aaj]at r;have ab:=lV r.2;have I:=(kE (B.yA S)).1;obtain⟨K,W,X,ac⟩:=wm B H r.1;have F:=λq=>kL B H r.1 q;obtain⟨l,y,s⟩:=JC D _ _ _ _ o;cases C:FL b l with
    |none=>rw[C]at y;exact y.elim
    |some u=>
    rw[C]at y;obtain⟨P,O⟩:=qE C D N;refine jU (w:=q) (c:=.c (.s (.mk q.heap.size 0 j j))) (v:=.slice (some ⟨q.heap.size,0,none⟩) j j) (b:={q with heap:=q.heap.push (.cells (bu l) L)}) P (O.push _) rfl ⟨rfl,rfl,rfl⟩ y ?_ Q;have E:(z.map λu=>(u.1,a.eval u.2)).toList=z.toList.map λu=>(u.1,a.eval u.2):=aL;have Y:K.cells.toList=(p.sh.map Sh.zero).map Ce.v:=by simp[W]
    have J:(p.sh.map Sh.zero).length=p.sh.length:=aL;have jC:=Jg (p.sh.map Sh.zero) K.cells Y j;rw[J]at jC;by_cases A:j*p.sh.length=0
    .have R:mS (p.sh.map Sh.zero) j=[]:=by
      apply List.length_eq_zero_iff.1;rw[rQ,J,A]
     rw[R]at s;simp only[execOp,Instr.buildSlice,Sem.run_bind,run_underlying I,Result.andThen_ok,F,A];simp only[E];have M:(Array.map (λc=>(default:Value)) (Array.range 0))=#[]:=aL;simp at s⊢;rw[M,s];simp[newRow,bu]
    .simp only[execOp,Instr.buildSlice,Sem.run_bind,run_underlying I,Result.andThen_ok,F,A,rS];have:¬(j*p.sh.length>2^24):=V;simp only[this,rS,X,Sem.run_bind,Sem.run_pure,Result.andThen_ok,E];rw[jC];simp only[bu]at s⊢;simp[s,newRow]
   .rw[r]at o;exact o.elim
  .exact o.elim
 .exact o.elim
def QP(C:uB d T)(q:ku n b a)(v:Bx n b m){c y:Operand}(j:wr d T G n b m e f k (.store t c y)):Fv d n a m ⟨e,.store t c y,f,i,g,h⟩ k:=by
 intro w R Y W K
 subst R;simp only[wr]at j;split at j
 .rename_i l s I Q;cases o:(s.uI||!(Nat.beq l.length s.sh.length))
  .rw[o]at j;simp only[mT]at j;simp only[bt,aaj]at o;split at j
   .rename_i X E;obtain⟨B,z⟩:=qE E q v;obtain⟨u,p,r,A,x,S,L,F⟩:=Qm B z j;have J:=br o.2;obtain⟨H,D⟩:=pK I;have O:=λw=>kL C Q o.1 w;unfold Oper.wp;have M:(execOp a.eval ⟨e,.store t c y,f,i,g,h⟩).run d w=.ok .skip (w.setCells p r (l.map Ce.v)):=by
     have N:=Es (d:=d) l p r w L;have U:a.eval c=.pointer (some ⟨p,r,none⟩):=S _ (q.ev c);have V:(a.eval y).cells=(l.map Ce.v).toArray:=by rw[q.eq rfl H,D]
     simp only[execOp,Instr.storeAt,U,Instr.sureAddr,storeVar,Sem.run_bind,Sem.run_pure,Result.andThen_ok,O,V,DR,eu,J];simp[N]
    rw[M];exact K u .un undef _ (by rw[lx];exact F) A (by rw[lx];exact x) rfl (rh _ _ _ _)
   .exact j.elim
  .rw[o]at j;exact j.elim
 .exact j.elim
end
end Go.Vc
end
section
namespace Go.Vc
variable{b y f:Operand}{t:TypeId}{e:Array TypeId}
variable{c:Program}{T:TT}{G:List Nat}
section
variable{n:Nat}{g:Fr}{a:Act}{m:E}{k:Fr->SV->E->Prop}{i:Option Tmp}{h:TypeId}{o:String}{j:Array Edge}{l:Option (Nat×Bool)}
def Pf{b:Int}(e: -9223372036854775808<=b)(f:b<=9223372036854775807):IntKind.i64.wrap b=b:=by
 have a:((2:Int)^IntKind.i64.bits)=18446744073709551616:=bh;have c:((2:Int)^(IntKind.i64.bits -1))=9223372036854775808:=bh;have d:IntKind.i64.signed=true:=rfl;simp only[IntKind.wrap,a,c,d,Oe,ar];split<;>omega
def aP{b:Int}(a: -9223372036854775808<=b)(c:b<=9223372036854775807):cT b=b:=Pf a c
def KS(s:uB c T)(u:ku n g a)(F:Bx n g m)(e:wr c T G n g m i h k (.makeSlice t b y)):Fv c n a m ⟨i,.makeSlice t b y,h,o,j,l⟩ k:=by
 intro q U ah ad J
 subst U;simp only[wr]at e;split at e
 .rename_i D sh ae p d Q Y hy;split at e
  .rename_i f z;cases r:f.uI
   .rw[r]at e;obtain⟨h0,h1,h2,h3,I⟩:=e;have S:=(kE (s.yA Q)).1;obtain⟨C,hz,ab,ag⟩:=wm s z r;obtain⟨ti,H,af,R,_⟩:=Gt s z r;have P:=λq=>kL s z r q;refine jU (w:=q) (c:=.c (.s (.mk q.heap.size 0 p.toNat d.toNat))) (v:=.slice (some ⟨q.heap.size,0,none⟩) p.toNat d.toNat) (b:={q with heap:=q.heap.push (.cells (bu (mS (f.sh.map Sh.zero) d.toNat)) D)}) u (F.push _) rfl ⟨rfl,rfl,rfl⟩ I ?_ J;have ac:C.cells.toList=(f.sh.map Sh.zero).map Ce.v:=by simp[hz]
    have B:(f.sh.map Sh.zero).length=f.sh.length:=aL;have jC:=Jg (f.sh.map Sh.zero) C.cells ac d.toNat;rw[B]at jC;have Z:a.eval b=.int .i64 p:=u.eq Y rfl;have aa:a.eval y=.int .i64 d:=u.eq hy rfl;have X:IntKind.i64.wrap p=p:=Pf V V;have W:IntKind.i64.wrap d=d:=Pf V V;have K:¬d<0:=V;have L:¬((f.bytes:Int)*d>2^48):=by
     have:(2:Int)^48=281474976710656:=bh;omega
    have M:¬p<0:=V;have N:¬p>d:=V;simp only[execOp,Instr.makeSlice,Sem.run_bind,run_underlying S,Result.andThen_ok,asInt,asIntOf,Z,aa,Sem.run_pure,R,X,W,H];simp only[K,L,M,N,decide_false,Vy,jx,rS];simp only[Sem.run_bind,Sem.run_pure,Result.andThen_ok,run_askRoom,P];by_cases A:d.toNat*f.sh.length=0
    .have O:mS (f.sh.map Sh.zero) d.toNat=[]:=by
      apply List.length_eq_zero_iff.1;rw[rQ,B,A]
     rw[O];have E:(Array.map (λb=>(default:Value)) (Array.range 0))=#[]:=aL;simp[A,newRow,bu];rw[E]
    .simp only[A,rS,Sem.run_bind,ab,Result.andThen_ok,Sem.run_pure];rw[jC];simp[newRow]
   .rw[r]at e;exact e.elim
  .exact e.elim
 .exact e.elim
def KV:∀{c:List Sh}{k:List Ce->Prop},UG c k->∃l,k l
 |[],_,h=>⟨_,h⟩
 |_::_,_,⟨b,h⟩=>let⟨_,a⟩:=KV h;⟨_,a⟩
def FO:∀{e:List Nat}{k:List AV->Prop},Sz T e k->∃l,k l
 |[],_,h=>⟨_,h⟩
 |t::e,k,h=>by
  simp only[Sz]at h;split at h
  .obtain⟨l,c⟩:=KV h;obtain⟨d,a⟩:=FO c;exact⟨_,a⟩
  .obtain⟨b,c⟩:=h;obtain⟨d,a⟩:=FO c;exact⟨_,a⟩
  .obtain⟨b,c⟩:=h;obtain⟨d,a⟩:=FO c;exact⟨_,a⟩
  .exact h.elim
def SL{t:Nat}{v:Value}{k:SV->Prop}(h:P9 T t v k):∃b:SV,b.Is v/\k b:=by
 unfold P9 at h;split at h
 .exact⟨.fV,trivial,h⟩
 .obtain⟨l,c,a⟩:=FO h;exact⟨.Xv l,c,a⟩
 .obtain⟨l,c,a⟩:=KV h;exact⟨.agg l,c,a⟩
 .rename_i s _ _;obtain⟨b,c,a⟩:=h;exact⟨.c (s.mk b),c,a⟩
 .obtain⟨b,c,a⟩:=h;exact⟨.c (.s b),c,a⟩
 .exact h.elim
def KR(z:UO c G)(A:ku n g a){q:Fr}(B:ku n q a)(y:Bx n q m){d:Array Operand}{p:Nat}{first s:Array Value}(E:a.eval f=.func (.func p) first s)
 (H:G.elem p=true)(J:d.toList.all (λb=>(ev g b).jP)=true)
 (x:aN c p (first.toList++(d.toList.map λb=>(ev g b).v)++s.toList) m λv r=>Au (MA n q []) m r (P9 T h v λb=>k q b r)):
 Fv c n a m ⟨i,.call ⟨.value f,d,e⟩,h,o,j,l⟩ k:=by
 intro w O V R K
 subst O
 have r:HM c p=true:=List.all_eq_true.1 z p (by simpa using H)
 have C:d.map a.eval=(d.toList.map λb=>(ev g b).v).toArray:=by
  apply Array.toList_inj.1;simp[<-Cc A J]
 unfold HM at r
 split at r
 .rename_i u F
  simp only[bL,iU]at r
  have D:u.body.isNone=false:=by cases U:u.body<;>simp_all
  have L:(execOp a.eval ⟨i,.call ⟨.value f,d,e⟩,h,o,j,l⟩).run c w=
   .ok (.enter p (first.toList++(d.toList.map λb=>(ev g b).v)++s.toList).toArray) w:=by
   simp only[execOp,resolve,E,C,Deferred.ofValue,Sem.run_bind,Sem.run_pure,Result.andThen_ok,invoke,callFunc,run_program,F,r.1,D,jx,rS]
   simp
  unfold Oper.wp
  rw[L]
  show Calls c p _ w _
  refine(x w rfl).mono ?_
  rintro S Q ⟨v,rfl,M,t⟩
  obtain⟨N,t⟩:=mL t
  obtain⟨b,P,I⟩:=SL t
  exact K q b v Q I B (y.dy N) P M
 .simp at r
def Sx(v:UO c G)(q:ku n g a)(y:Bx n g m){r:Array Operand}(d:wr c T G n g m i h k (.call ⟨.value f,r,e⟩)):Fv c n a m ⟨i,.call ⟨.value f,r,e⟩,h,o,j,l⟩ k:=by
 simp only[wr,TC]at d;split at d
 .exact d.elim
 rename_i D z;obtain⟨w,u⟩:=qE z q y;split at d
 .rename_i s first x t
  cases p:(G.elem s&&r.toList.all (λb=>(ev g b).jP))
  .rw[p]at d;exact d.elim
  .rw[p]at d;simp only[bL]at p;exact KR v q w u (q.eq t rfl) p.1 p.2 d
 .rename_i x t;cases p:(r.toList.all (λb=>(ev g b).jP))
  .rw[p]at d;exact d.elim
  .rw[p]at d;obtain⟨s,A,B,d⟩:=d;have C:a.eval f=.func (.func s) x.2.1 x.2.2:=by
    rw[<-A];exact q.eq t rfl
   exact KR v q w u C B p d
 .exact d.elim
def sK(a:c.underlying t=some (.int .i64))(e:Bool)(b:Int)(w:World):(Instr.checkKey e 10000 t (.int .i64 b)).run c w=.ok () w:=by
 have:Instr.checkKey e 10000 t (.int .i64 b)=Instr.checkKey e (9999+1) t (.int .i64 b):=rfl;rw[this];generalize 9999=d;simp[Instr.checkKey,run_underlying a]
def zU(b:Int):∀(a:List MapEntry)(l:List (Int×Int))(i:Nat),a.map (λe=>(e.key,e.val))=l.map (λp=>(Value.int .i64 p.1,Value.int .i64 p.2))->
 (Instr.findNow (.int .i64) (.int .i64 b) a i=some none/\vn l b=0/\(∀v,JQ l b v=l++[(b,v)]))\/
 ∃j u,Instr.findNow (.int .i64) (.int .i64 b) a i=some (some (i+j,.int .i64 u))/\vn l b=u/\j<a.length/\l[j]? =some (b,u)/\∀v,JQ l b v=l.set j (b,v)
 |[],[],i,_=>Or.inl ⟨rfl,rfl,λv=>rfl⟩
 |[],_::_,i,h=>by simp at h
 |_::_,[],i,h=>by simp at h
 |e::a,(j,u)::l,i,h=>by
  simp only[cN,List.cons.injEq,Oh]at h;obtain⟨⟨r,s⟩,h⟩:=h;have k:Instr.sameNow (.int .i64) (.int .i64 b) e.key=some (b==j):=by rw[r];simp[Instr.sameNow]
  by_cases c:b=j
  .subst c;refine Or.inr ⟨0,u,?_,?_,aL,aL,?_⟩
   .simp[Instr.findNow,k,s]
   .simp[vn]
   .intro v;simp[JQ]
  .have m:(b==j)=false:=by simpa using c
   rcases zU b a l (i+1) h with⟨d,f,g⟩|⟨q,t,d,f,g,o,p⟩
   .refine Or.inl ⟨?_,?_,?_⟩
    .simp[Instr.findNow,k,m,d]
    .simp[vn,c,f]
    .intro v;simp[JQ,c,g]
   .refine Or.inr ⟨q+1,t,?_,?_,by simpa using g,by simpa using o,?_⟩
    .have n:i+1+q=i+(q+1):=V;simp[Instr.findNow,k,m,d,n]
    .simp[vn,c,f]
    .intro v;simp[JQ,c,p]
def OB(f:ku n g a)(e:Bx n g m){r:Option Operand}(d:wr c T G n g m i h k (.makeMap t r)):Fv c n a m ⟨i,.makeMap t r,h,o,j,l⟩ k:=by
 intro b q s Q p
 subst q;cases r with
 |some r=>exact d.elim
 |none=>
  refine jU (w:=b) (c:=.c (.mp b.heap.size)) (v:=.map (some b.heap.size)) (b:={b with heap:=b.heap.push (.map #[] 0)}) f (e.push _) rfl ⟨rfl,rfl,rfl⟩ d ?_ p;simp[execOp,Instr.makeMap]
def PD(s:uB c T)(r:ku n g a)(L:Bx n g m){z:Bool}(d:wr c T G n g m i h k (.lookup t b y z)):Fv c n a m ⟨i,.lookup t b y z,h,o,j,l⟩ k:=by
 intro e W ag ad S
 subst W;cases z with
 |true=>exact d.elim
 |false=>
  simp only[wr]at d;split at d
  .rename_i kt et sh ae B f V X Y;split at d
   .rename_i b1 b2 R P;obtain⟨u,⟨C,J,O,N⟩,Q⟩:=d;have F:=(Co (s.yA V)).1;obtain⟨⟨K,hd,E⟩,_⟩:=ov (s.yA R);have M:K=.int .i64:=by
     unfold An at E;split at E<;>simp_all
    subst M;obtain⟨A,Z,ac,ab⟩:=wm s P rfl;have aa:A=.int .i64 0:=by
     have:A.cells.toList=[Value.int .i64 0]:=Z;have U:=ab rfl;cases A<;>first|(simp[Value.cells]at this;done)|(simp[Value.cells]at this;rw[this.1,this.2])|exact absurd rfl (U _)
    have H:a.eval b=.map (some B):=r.eq X rfl;have I:a.eval y=.int .i64 f:=r.eq Y rfl;have D:(getObj B).run c e=.ok (.map C J) e:=by simp[getObj,Sem.run,O]
    refine jU (w:=e) (c:=.c (.i (vn u f))) (v:=.int .i64 (vn u f)) (b:=e) r L rfl (pF.az e) Q ?_ S;rcases zU f C.toList u 0 N with⟨p,q,_⟩|⟨af,ah,p,q,_⟩
    .simp[execOp,Instr.lookup,run_underlying F,H,I,D,sK hd,Instr.findKey,run_underlying hd,p,ac,aa,q]
    .simp[execOp,Instr.lookup,run_underlying F,H,I,D,sK hd,Instr.findKey,run_underlying hd,p,q]
   .exact d.elim
  .exact d.elim
def KT(L:uB c T)(s:ku n g a)(K:Bx n g m){z:Operand}(r:wr c T G n g m i h k (.mapUpdate t b y z)):Fv c n a m ⟨i,.mapUpdate t b y z,h,o,j,l⟩ k:=by
 intro w hw ai ag Q
 subst hw;simp only[wr]at r;split at r
 .rename_i kt et sh ah e d v ht hx hy hz;split at r
  .rename_i b1 ae;obtain⟨Y,⟨p,q,E,x⟩,P⟩:=r;have U:=(Co (L.yA ht)).1;obtain⟨⟨Z,hd,R⟩,_⟩:=ov (L.yA ae);have aa:Z=.int .i64:=by
    unfold An at R;split at R<;>simp_all
   subst aa;have V:a.eval b=.map (some e):=s.eq hx rfl;have W:a.eval y=.int .i64 d:=s.eq hy rfl;have X:a.eval z=.int .i64 v:=s.eq hz rfl;have N:(getObj e).run c w=.ok (.map p q) w:=by simp[getObj,Sem.run,E]
   have S:∀I,(setObj e I).run c w=.ok () {w with heap:=w.heap.setIfInBounds e I}:=λI=>by simp[setObj,Sem.run,E]
   have M:e<w.heap.size:=(Array.getElem?_eq_some_iff.1 E).1;unfold Oper.wp;rcases zU d p.toList Y 0 x with⟨C,h2,D⟩|⟨f,aj,C,h2,D,J,h5⟩
   .have H:(execOp a.eval ⟨i,.mapUpdate t b y z,h,o,j,l⟩).run c w=.ok .skip {w with heap:=w.heap.setIfInBounds e (.map (p.push {key:=.int .i64 d,val:=.int .i64 v,born:=q}) (q+1))}:=by
     simp[execOp,Instr.mapUpdate,run_underlying U,V,W,X,N,sK hd,Instr.findKey,run_underlying hd,C,S]
    rw[H];have u:=mL (P {w with heap:=w.heap.setIfInBounds e (.map (p.push {key:=.int .i64 d,val:=.int .i64 v,born:=q}) (q+1))}.heap ?_ aL ?_)
    .exact Q g .un undef _ u.2 s (K.dy u.1) rfl ⟨rfl,rfl,rfl⟩
    .refine⟨_,_,by simp[M];exact⟨rfl,rfl⟩,?_⟩;rw[D];simp[x]
    .intro f F;simp[jY (kO F)]
   .have ad:(p[f]?).map (·.key)=some (.int .i64 d):=by
     have:=nD (λA=>(A[f]?).map (·.1)) x;simpa[J]using this
    have af:(Instr.keyThatStays (.int .i64 d) (.int .i64 d)).run c w=.ok (.int .i64 d) w:=by
     simp[Instr.keyThatStays,Instr.sameBits]
    have H:(execOp a.eval ⟨i,.mapUpdate t b y z,h,o,j,l⟩).run c w=.ok .skip {w with heap:=w.heap.setIfInBounds e (.map (p.modify f λB=>{B with key:=.int .i64 d,val:=.int .i64 v}) q)}:=by
     simp only[execOp,Instr.mapUpdate,run_underlying U,V,W,X,N,sK hd,Instr.findKey,run_underlying hd,C,Sem.run_bind,Result.andThen_ok,Sem.run_pure,bV,ad,vE,af,S]
    rw[H];have u:=mL (P {w with heap:=w.heap.setIfInBounds e (.map (p.modify f λB=>{B with key:=.int .i64 d,val:=.int .i64 v}) q)}.heap ?_ aL ?_)
    .exact Q g .un undef _ u.2 s (K.dy u.1) rfl ⟨rfl,rfl,rfl⟩
    .refine⟨_,_,by simp[M];exact⟨rfl,rfl⟩,?_⟩;rw[h5];apply hO;intro A;have B:=nD (λ(q':List (Value×Value))=>q'[A]?) x;simp only[cL]at B;simp only[cL,jL,XR,lT]at B⊢;by_cases O:f=A
     .subst O;have ac:f<Y.length:=(List.getElem?_eq_some_iff.1 J).1;have ab:f<p.size:=by simpa using D
      simp[ac,ab]
     .simp only[O,rS];exact B
    .intro f F;simp[jY (kO F)]
  .exact r.elim
 .exact r.elim
def tF(l:List Ce)(z:O)(a f:Nat)(d:l.length=a*f)(w:World)(h:fR w.heap z.D z.off l)(e:a<=z.len):
 (Builtin.firstCells f a z.v).run c w=.ok (bu l) w:=by
 cases z with
 |nil=>
  have b:a=0:=by simp at e;omega
  have:l=[]:=List.length_eq_zero_iff.1 (by rw[d,b];simp)
  subst this
  simp[Builtin.firstCells,O.v,bu]
 |zT g i j=>
  have b:a=0:=by simp at e;omega
  have:l=[]:=List.length_eq_zero_iff.1 (by rw[d,b];simp)
  subst this
  simp[Builtin.firstCells,O.v,bu,b,loadCells,loadCellsFrom]
 |mk b o i g=>
  simp only[Builtin.firstCells,O.v,<-d]
  exact Qc l b o w h
def Pg(a:List Ce)(z:Array Value)(b:z.toList=a.map Ce.v)(n:Nat):Builtin.zeroCells z n=bu (mS a n):=by
 have c:z.size=a.length:=by rw[<-Zz,b];simp
 rw[<-Jg a z b n,Builtin.zeroCells,c]
def Qs(l r:List Ce):bu (l++r)=bu l++bu r:=by simp[bu]
def PC(H:uB c T)(C:ku n g a)(L:Bx n g m){Z:Array Operand}(q:wr c T G n g m i h k (.call ⟨.builtin .append,Z,e⟩)):Fv c n a m ⟨i,.call ⟨.builtin .append,Z,e⟩,h,o,j,l⟩ k:=by
 intro d hw aM aE N
 subst hw;simp only[wr]at q;split at q
 .rename_i b y t aD am az;split at q
  .rename_i B sh aF e2 aN aG s z ht aA hx hy;split at q
   .rename_i f ac;cases u:(f.uI||Nat.beq f.bytes 0)
    .rw[u]at q;simp only[bt]at u;obtain⟨A,Q,ar,ah,ai⟩:=q;have e1:Z=#[b,y]:=Array.toList_inj.1 (by simpa using am);have al:e=#[t,aD]:=Array.toList_inj.1 (by simpa using az);subst e1;subst al;have U:=(kE (H.yA ht)).1;have W:=(kE (H.yA aA)).1;obtain⟨zv,hz,ak,aK⟩:=wm H ac u.1;obtain⟨ti,hb,aJ,af,_⟩:=Gt H ac u.1;have S:=λd=>kL H ac u.1 d;have X:a.eval b=s.v:=C.eq hx rfl;have Y:a.eval y=z.v:=C.eq hy rfl;have E:(Builtin.lenOf z.v).run c d=.ok z.len d:=by cases z<;>simp[Builtin.lenOf,O.v,O.len]
     have aj:(f.sh.map Sh.zero).length=f.sh.length:=aL;rw[aj]at Q;simp only[aj]at ah ai;have M:∀r:World,r.heap=d.heap->(Builtin.firstCells f.sh.length z.len z.v).run c r=.ok (bu A) r:=λr ag=>
      tF A z z.len f.sh.length Q r (by rw[ag];exact ar) (ad _)
     have ay:=s.Xw;by_cases D:s.len+z.len<=s.cap
     .obtain⟨R,p⟩:=ah D;cases s with
      |nil=>
       simp only[O.OO,O.UZ]at D R p;have J:z.len=0:=V;have:A=[]:=List.length_eq_zero_iff.1 (by rw[Q,J];simp);subst this;obtain⟨ab,p⟩:=mL p;refine jU (w:=d) (c:=.c (.s .nil)) (v:=.slice none 0 0) (b:=d) C L rfl (pF.az d) p ?_ N;have I:a.eval b=.slice none 0 0:=X;have F:=M d rfl;simp only[execOp,resolve,Sem.run_bind,Sem.run_pure,Result.andThen_ok,invoke,builtin,Builtin.append_,nC,cN,fG,I,Y];rw[J]at E F;simp[run_underlying U,run_underlying W,S,E,F]
      |zT K o0 sp=>
       simp only[O.RY,O.UY]at D R p;have J:z.len=0:=V;have:A=[]:=List.length_eq_zero_iff.1 (by rw[Q,J];simp);subst this;obtain⟨ab,p⟩:=mL p;refine jU (w:=d) (c:=.c (.s (.zT K o0 sp))) (v:=.slice (some ⟨K,o0,some sp⟩) 0 0) (b:=d) C L rfl (pF.az d) p ?_ N;have I:a.eval b=.slice (some ⟨K,o0,some sp⟩) 0 0:=X;have F:=M d rfl;simp only[execOp,resolve,Sem.run_bind,Sem.run_pure,Result.andThen_ok,invoke,builtin,Builtin.append_,nC,cN,fG,I,Y];rw[J]at E F;simp[run_underlying U,run_underlying W,S,E,F,bu,storeCells]
      |mk F K J aa=>
       simp only[O.gK,O.Ox,O.jI,O.nm]at D R p;obtain⟨ab,p⟩:=mL p;refine jU (w:=d) (c:=.c (.s (.mk F K (J+z.len) aa))) (v:=.slice (some ⟨F,K,none⟩) (J+z.len) aa) (b:=d.setCells F (K+J*f.sh.length) (A.map Ce.v)) C (by rw[lx];exact L.dy ab) rfl (rh _ _ _ _) (by rw[lx];exact p) ?_ N;have an:=Es (d:=c) A F (K+J*f.sh.length) d R;have I:a.eval b=.slice (some ⟨F,K,none⟩) J aa:=X;simp only[execOp,resolve,Sem.run_bind,Sem.run_pure,Result.andThen_ok,invoke,builtin,Builtin.append_,nC,cN,fG,I,Y];simp[run_underlying U,run_underlying W,S,E,D,M d rfl,vP,bu,an]
     .obtain⟨ab,old,av,ax,p⟩:=ai V;have aH:=growslice_fits (need:=s.len+z.len) (old:=s.cap) (bytes:=f.bytes) V ab;have K:f.bytes≠0:=λB=>by rw[B]at u;simp at u
      have aI:¬(((s.len+z.len:Nat):Int)>IntKind.i64.max/\f.bytes=0):=λhh=>K hh.2;have aw:∀r:World,r.heap=d.heap->(Builtin.firstCells f.sh.length s.len s.v).run c r=.ok (bu old) r:=λr ag=>
       tF old s s.len f.sh.length av r (by rw[ag];exact ax) (ad _)
      let I:Question:=.appendCap (s.len+z.len) s.cap B;let nc:=I.cut (d.tape d.drawn I);let J:World:={d with drawn:=d.drawn+1};have ap:s.len+z.len<=nc:=Nat.le_add_right _ _;refine jU (w:=d) (c:=.c (.s (.mk d.heap.size 0 (s.len+z.len) nc))) (v:=.slice (some ⟨d.heap.size,0,none⟩) (s.len+z.len) nc)
       (b:={J with heap:=d.heap.push (.cells (bu (old++A++mS (f.sh.map Sh.zero) (nc -(s.len+z.len)))) B)}) C (L.push _) rfl ⟨rfl,rfl,rfl⟩ (mL (p nc ap)).2 ?_ N
      have aC:zv.cells.toList=(f.sh.map Sh.zero).map Ce.v:=by simp[hz]
      have aa:=Pg (f.sh.map Sh.zero) zv.cells aC (nc -(s.len+z.len));have an:I.forced=false:=rfl;have aq:¬(Builtin.nextslicecap (s.len+z.len) s.cap*f.bytes>2^48):=by
       have:(2:Nat)^48=281474976710656:=bh;omega
      simp only[execOp,resolve,Sem.run_bind,Sem.run_pure,Result.andThen_ok,invoke,builtin,Builtin.append_,nC,cN,fG,X,Y];have F:=aw J rfl;have R:=M J rfl;rw[ay]at F⊢;simp only[lU,sH,iy,Sem.run_bind,run_underlying U,run_underlying W,Result.andThen_ok,S,Sem.run_pure,E,jx,rS,D,af,hb,false_or];simp only[K,and_false,rS,aq,Sem.run_bind,run_choose,an,jx,Result.andThen_ok,af,run_askRoom,F,Mw,MB,R,ak,aa,newRow,run_newObj,Sem.run_pure];simp[Qs];rw[hb,ae V,ae (show¬(Question.appendCap (s.len+z.len) s.cap B).forced=true by simp[Question.forced])];have au:(Builtin.firstCells f.sh.length s.len (Value.slice s.cz s.len s.cap)).run c d.drew=.ok (bu old) d.drew:=F;have ao:(Builtin.firstCells f.sh.length z.len z.v).run c d.drew=.ok (bu A) d.drew:=R;simp only[af,Result.andThen_ok,au,ao,ak];have aB:Builtin.zeroCells zv.cells ((Question.appendCap (s.len+z.len) s.cap B).cut (d.tape d.drawn (Question.appendCap (s.len+z.len) s.cap B)) -(s.len+z.len))=bu (mS (f.sh.map Sh.zero) (nc -(s.len+z.len))):=aa;rw[aB];rfl
    .rw[u]at q;exact q.elim
   .exact q.elim
  .exact q.elim
 .exact q.elim
end
end Go.Vc
end
section
namespace Go.Vc
variable{b:Program}{T:TT}{G:List Nat}
section
variable{n:Nat}{c:Fr}{a:Act}{m:E}{k:Fr->SV->E->Prop}{d:Option Tmp}{e:TypeId}{h:String}{f:Array Edge}{g:Option (Nat×Bool)}
def Sy(M:uB b T)(t:ku n c a)(U:Bx n c m){r:Array Operand}{K:Array TypeId}(i:wr b T G n c m d e k (.call ⟨.builtin .copy,r,K⟩)):Fv b n a m ⟨d,.call ⟨.builtin .copy,r,K⟩,e,h,f,g⟩ k:=by
 intro j hw ah ae W
 subst hw;simp only[wr]at i;split at i
 .rename_i q R ad ai V ab;split at i
  .rename_i ag sh af s z ht hx hy;split at i
   .rename_i J aa;cases u:J.uI
    .rw[u]at i;obtain⟨o,C,X,Y,y⟩:=i;obtain⟨Z,y⟩:=mL y;have S:r=#[q,R]:=Array.toList_inj.1 (by simpa using V);subst S;have E:K[0]? =some ad:=by rw[<-XR,ab];rfl
     have F:=(kE (M.yA ht)).1;have D:=λj=>kL M aa u j;have H:a.eval q=s.v:=t.eq hx rfl;have I:a.eval R=z.v:=t.eq hy rfl;have A:(Builtin.lenOf z.v).run b j=.ok z.len j:=by cases z<;>simp[Builtin.lenOf,O.v,O.len]
     have l:(Builtin.firstCells J.sh.length (Nat.min z.len s.len) z.v).run b j=.ok (bu o) j:=
      tF o z _ J.sh.length C j X (Nat.min_le_left _ _)
     refine jU (w:=j) (c:=.c (.i (Nat.min z.len s.len:Nat))) (v:=.int .i64 (Nat.min z.len s.len:Nat)) (b:=j.setCells s.D s.off (o.map Ce.v)) t (by rw[lx];exact U.dy Z) rfl (rh _ _ _ _) (by rw[lx];exact y) ?_ W;cases s with
     |nil=>
      have B:Nat.min z.len O.nil.len=0:=aL;have:o=[]:=List.length_eq_zero_iff.1 (by rw[C,B];simp);subst this;have p:a.eval q=.slice none 0 0:=H;simp only[O.OO]at l⊢;simp only[execOp,resolve,Sem.run_bind,Sem.run_pure,Result.andThen_ok,invoke,builtin,Builtin.copy_,nC,cN,fG,p,I,E];simp only[lU,sH,iy,Sem.run_bind,run_underlying F,Result.andThen_ok,A,D,l,Sem.run_pure];rfl
     |zT L N Q=>
      have B:Nat.min z.len (O.zT L N Q).len=0:=aL;have:o=[]:=List.length_eq_zero_iff.1 (by rw[C,B];simp);subst this;have p:a.eval q=.slice (some ⟨L,N,some Q⟩) 0 0:=H;simp only[O.RY]at l⊢;simp only[execOp,resolve,Sem.run_bind,Sem.run_pure,Result.andThen_ok,invoke,builtin,Builtin.copy_,nC,cN,fG,p,I,E];simp only[lU,sH,iy,Sem.run_bind,run_underlying F,Result.andThen_ok,A,D,l,Sem.run_pure,bu];rfl
     |mk B L ac N=>
      have Q:=Es (d:=b) o B L j Y;have p:a.eval q=.slice (some ⟨B,L,none⟩) ac N:=H;simp only[O.gK]at l⊢;simp only[execOp,resolve,Sem.run_bind,Sem.run_pure,Result.andThen_ok,invoke,builtin,Builtin.copy_,nC,cN,fG,p,I,E];simp only[lU,sH,iy,Sem.run_bind,run_underlying F,Result.andThen_ok,A,D,l,Sem.run_pure,bu,Q];rfl
    .rw[u]at i;exact i.elim
   .exact i.elim
  .exact i.elim
 .exact i.elim
def Qu(o:uB b T)(u:UO b G)(l:ku n c a)(j:Bx n c m)(p:Oper)(i:wr b T G n c m p.dst p.type k p.op):Fv b n a m p k:=by
 obtain⟨d,v,e,h,f,g⟩:=p;cases v with
 |alloc t=>exact QO o l j i
 |box t x=>exact TG l j i
 |buildSlice t q r=>exact JJ o l j i
 |store t x y=>exact QP o l j i
 |makeSlice t x y=>exact KS o l j i
 |makeFunc r first q=>exact ME l j i
 |makeMap t w=>exact OB l j i
 |lookup t x y q=>exact PD o l j i
 |mapUpdate t x y z=>exact KT o l j i
 |call r=>
  obtain⟨s,t,x⟩:=r;cases s with
  |builtin q=>
   cases q with
   |append=>exact PC o l j i
   |copy=>exact Sy o l j i
   |_=>exact i.elim
  |value q=>exact Sx u l j i
  |invoke w q=>exact i.elim
 |_=>exact i.elim
end
end Go.Vc
end
section
namespace Go.Vc
variable{b:Array Bool}{j:Nat}{L:List (Nat×(World->Prop))}{a:Act}{w:World}
section
variable{P:Program}{c:Array Oper}{Q:Exit->Act->World->Prop}{d:Region.Mode}{e:Nat->Nat->Bool}
def vD(P:Program)(d:Region.Mode)(c:Array Oper)(Q:Exit->Act->World->Prop)(e:Nat->Nat->Bool)(L:List (Nat×(World->Prop))):Nat->Array Bool->Act->World->Prop
 |0,b,a,w=>Region.ready d c b=[]/\Q .normal a w
 |h+1,b,a,w=>
  (Region.ready d c b=[]->Q .normal a w)/\
  ∀i∈Region.ready d c b,wpOp P c Q i (λg f=>(∀x∈L,e i x.1=false->x.2 w->x.2 f)/\vD P d c Q e L h (b.setIfInBounds i true) g f) a w
def Mt{L:List (Nat×(World->Prop))}:∀(f:Nat)(b:Array Bool)(a:Act)(w:World),vD P d c Q e L f b a w->wpAny P d c Q f b a w
 |0,_,_,_,h=>h
 |f+1,_,_,_,h=>⟨h.1,λk j=>wpOp_mono (λg l i=>Mt f _ g l i.2) (h.2 k j)⟩
def DQ{L g:List (Nat×(World->Prop))}(j:∀x∈g,x∈L):∀(f:Nat)(b:Array Bool)(a:Act)(w:World),vD P d c Q e L f b a w->vD P d c Q e g f b a w
 |0,_,_,_,h=>h
 |f+1,_,_,_,h=>⟨h.1,λn l=>wpOp_mono (λk o i=>⟨λx m=>i.1 x (j x m),DQ j f _ k o i.2⟩) (h.2 n l)⟩
def Hy(e:Nat->Nat->Bool)(b:Array Bool):Prop:=∀i,b.getD i false=true->∀r,e i r=true->b.getD r false=true
def UK(d:Region.Mode)(c:Array Oper)(e:Nat->Nat->Bool):Prop:=
 ∀(i r:Nat)(o:Oper),c[i]? =some o->e i r=true->∃a∈o.after,Region.binds d a=true/\(a.on=r\/e a.on r=true)
def xt(k:UK d c e)(l:Hy e b)(n:j∈Region.ready d c b){r:Nat}(p:e j r=true):b.getD r false=true:=by
 obtain⟨_,q,o,g⟩:=mem_ready.1 n;obtain⟨f,m,i,h⟩:=k j r q o p;have a:=g f m i;rcases h with rfl|h
 .exact a
 .exact l _ a r h
def Hy.set(k:UK d c e)(a:Hy e b)(l:j∈Region.ready d c b):Hy e (b.setIfInBounds j true):=by
 intro i f r h;by_cases g:j=i
 .subst g;exact getD_set_true (xt k a l h)
 .rw[getD_set_ne false g]at f;exact getD_set_true (a i f r h)
def Hv{i:Nat}{l:Oper}{F:Value}{S:World->Prop}(I:UK d c e)(C:c[i]? =some l)(O:∀(j:Nat)(R:Oper) q p,c[j]? =some R->R.op≠.select q p)
 (V:∀f a w,Q (.panic f) (a.put l.dst F) w->Q (.panic f) a w):
 ∀(r:Nat)(b:Array Bool)(a:Act)(w:World),Hy e b->
  (∀j m,c[j]? =some m->j≠i->b.getD j true=false->(∀f∈m.after,Region.binds d f=true->f.on≠i)->l.apart c m=true)->
  i∈Region.ready d c b->YieldsIf P c S l F a->S w->
  vD P d c Q e ((i,S)::L) r (b.setIfInBounds i true) (a.put l.dst F) w->vD P d c Q e L (r+1) b a w:=by
 intro r
 induction r with
 |zero=>
  intro b a w _ _ k y x H
  refine⟨λh=>(by rw[h]at k;cases k),λj n=>?_⟩
  by_cases g:j=i
  .subst g;exact y.wpOp C x ⟨λz _ _ h=>h,H⟩
  .have:=ready_mono n g
   rw[H.1]at this
   cases this
 |succ r ih=>
  intro b a w J K k y x H
  refine⟨λh=>(by rw[h]at k;cases k),λj n=>?_⟩
  by_cases g:j=i
  .subst g;exact y.wpOp C x ⟨λz _ _ h=>h,DQ (λz E=>ai _ E) _ _ _ _ H⟩
  .have u:=H.2 j (ready_mono n g)
   obtain⟨N,m,D,W⟩:=mem_ready.1 n
   have s:b.getD i false=false:=by
    have G:=(mem_ready.1 k).1;rcases aW i b.size with A|A
    .simp[A]at G⊢;exact G
    .simp[Jh A]
   have ad:∀f∈m.after,Region.binds d f=true->f.on≠i:=λf Y B Z=>by
    have u:=W f Y B;rw[Z,s]at u;cases u
   have X:e j i=false:=by
    cases B:e j i
    .rfl
    .have:=xt I J n B;rw[s]at this;cases this
   have U:=wpOp_putIf D (K j m D g N ad) (λq p=>O i l q p C) (λq p=>O j m q p D) V y u
   have aa:∀o t,c[o]? =some t->o≠i->(b.setIfInBounds j true).getD o true=false->
    (∀f∈t.after,Region.binds d f=true->f.on≠i)->l.apart c t=true:=λo t hk ab s ac=>by
    refine K o t hk ab ?_ ac
    by_cases M:j=o
    .subst M;exact N
    .rw[getD_set_ne true M]at s;exact s
   refine wpOp_mono (λT w' v=>⟨λz E=>v.2.1 z (ai _ E),
    ih (b.setIfInBounds j true) T w' (J.set I n) aa (ready_mono k (kO g)) v.1 (v.2.1 (i,S) bg X x) ?_⟩) U
   rw[Array.setIfInBounds_comm _ _ g]
   exact v.2.2
def Rq{f:Nat}(k:Region.ready d c b≠[])
 (j:∀i∈Region.ready d c b,wpOp P c Q i (λh g=>(∀x∈L,e i x.1=false->x.2 w->x.2 g)/\vD P d c Q e L f (b.setIfInBounds i true) h g) a w):
 vD P d c Q e L (f+1) b a w:=⟨λg=>absurd g k,j⟩
def Qt(f:Region.ready d c b=[])(h:Q .normal a w):
 ∀g,vD P d c Q e L g b a w
 |0=>⟨f,h⟩
 |_+1=>⟨λ_=>h,by rw[f];simp⟩
end
end Go.Vc
end
section
namespace Go.Vc
variable{o:Oper}{a:Act}{m:E}
variable{b:Program}{T:TT}{G:List Nat}{n:Nat}
def Li:Op->Bool
 | .alloc _| .box ..| .buildSlice ..| .store ..| .makeSlice ..| .makeMap ..| .lookup ..| .mapUpdate ..| .makeFunc ..=>true
 | .call ⟨.builtin .append,_,_⟩| .call ⟨.builtin .copy,_,_⟩=>true
 | .call ⟨.builtin _,_,_⟩=>false
 | .call _=>true
 |_=>false
def sB(n:Nat):Option Nat->Bool
 |none=>true
 |some d=>Nat.blt d n
def Lb(a:List Oper)(j:Nat):Option Nat:=
 match Ic a j with
 |some o=>o.dst
 |none=>none
def gd(e:List Oper)(a:Fr)(g:Option (Nat×Bool))(Pl b:Fr->Prop):Prop:=
 match g with
 |none=>Pl a
 |some (j,c)=>match Lb e j with
  |none=>False
  |some d=>match iA a d with
   | .tt=>bif c then Pl a else b a
   | .ff=>bif c then b a else Pl a
   | .un=>b a
   | .c (.t x)=>(x=true->bif c then Pl ((d,.tt)::a)else b ((d,.tt)::a))/\(x=false->bif c then b ((d,.ff)::a)else Pl ((d,.ff)::a))
   |_=>False
def sG(b:Program)(T:TT)(G:List Nat)(n:Nat)(c:List Oper):List Oper->Fr->E->(Fr->E->Prop)->Prop
 |[],a,m,k=>k a m
 |o::jV,a,m,k=>
  bif sB n o.dst then
   gd c a o.guard
    (λa=>bif Li o.op then wr b T G n a m o.dst o.type (λd x e=>sG b T G n c jV (ug d o.dst x) e k) o.op
     else rd T a m (λx=>sG b T G n c jV (ug a o.dst x) m k) o.op)
    (λa=>sG b T G n c jV (ug a o.dst .un) m k)
  else False
def zS:List Oper->List Nat
 |[]=>[]
 |o::r=>match o.dst with
  |some d=>d::zS r
  |none=>zS r
def mN(M:List Nat)(a b:Act):Prop:=∀t,t∉M->b.tmps.getD t undef=a.tmps.getD t undef
def mN.az(M:List Nat)(a:Act):mN M a a:=λ_ _=>rfl
def mN.trans{M:List Nat}{a b c:Act}(h:mN M a b)(k:mN M b c):mN M a c:=λt d=>(k t d).trans (h t d)
def mN.put{M:List Nat}{d:Option Nat}(hd:∀t,d=some t->t∈M)(v:Value)(a:Act):mN M a (a.put d v):=by
 cases d with
 |none=>exact mN.az M a
 |some d=>
  intro t c;have b:d≠t:=λe=>c (e▸hd d rfl);simp[Act.put,jY b]
def Ln{d:Nat}(hd:o.dst=some d):∀(a:List Oper),o∈a->d∈zS a:=by
 intro a;induction a with
 |nil=>intro h;cases h
 |cons x r c=>
  intro h;rcases List.mem_cons.1 h with b|b
  .subst b;simp only[zS,hd];exact bg
  .have:=c b;unfold zS;cases x.dst with
   |none=>exact this
   |some e=>exact ai _ this
def DY{d:Option Nat}(h:sB n d=true):∀t,d=some t->t<n:=by
 rintro t rfl;have:Nat.blt t n=true:=h;simpa[Nat.blt,Nat.succ_le_iff]using this
def Jf(k:Array Oper){d:Fr}(f:ku n d a)(e:Bx n d m)(o:Oper){Pl z:Fr->Prop}(h:gd k.toList d o.guard Pl z):
 (Region.wanted o (yielded k a.tmps)=true/\∃b,Pl b/\ku n b a/\Bx n b m)\/
 (Region.wanted o (yielded k a.tmps)=false/\∃b,z b/\ku n b a/\Bx n b m):=by
 unfold gd at h
 cases b:o.guard with
 |none=>
  rw[b]at h
  exact Or.inl ⟨by simp[Region.wanted,b],d,h,f,e⟩
 |some C=>
  obtain⟨r,v⟩:=C
  rw[b]at h
  simp only at h
  split at h
  .exact h.elim
  .rename_i g hd
   have y:(k[r]?).bind (·.dst)=some g:=by
    unfold Lb at hd;rw[pR]at hd;have B:k.toList[r]? =k[r]? :=aL;rw[B]at hd;split at hd
    .rename_i i c;rw[c];exact hd
    .simp at hd
   have i:=f.aE g
   have w:∀j:Bool,a.tmps.getD g undef=.bool j->yielded k a.tmps r=some j:=by
    intro j l;have:a.tmps[g]? =some (.bool j):=by
     cases q:a.tmps[g]? with
     |none=>rw[zw,q]at l;simp[undef]at l
     |some t=>rw[zw,q]at l;simp at l;rw[l]
    simp[yielded,y,this]
   split at h
   .rename_i p
    rw[p]at i
    have c:=w true i
    cases v
    .exact Or.inr ⟨by simp[Region.wanted,b,c],d,h,f,e⟩
    .exact Or.inl ⟨by simp[Region.wanted,b,c],d,h,f,e⟩
   .rename_i p
    rw[p]at i
    have c:=w false i
    cases v
    .exact Or.inl ⟨by simp[Region.wanted,b,c],d,h,f,e⟩
    .exact Or.inr ⟨by simp[Region.wanted,b,c],d,h,f,e⟩
   .rename_i p
    rw[p]at i
    have c:yielded k a.tmps r=none:=by
     have s:a.tmps.getD g undef=undef:=i;rw[zw]at s;unfold yielded;rw[y];cases q:a.tmps[g]? with
     |none=>simp[q]
     |some t=>rw[q]at s;simp at s;subst s;simp[q,undef]
    exact Or.inr ⟨by simp[Region.wanted,b,c],d,h,f,e⟩
   .rename_i x p
    rw[p]at i
    have c:=w x i
    have u:∀j:Bool,x=j->ku n ((g,if j then SV.tt else SV.ff)::d) a:=by
     rintro j rfl;refine⟨f.size,f.defers,λA=>?_⟩;simp only[iA];cases l:Nat.beq g A
     .exact f.aE A
     .have:=br l;subst this;cases x<;>exact i
    obtain⟨s,t⟩:=h
    cases x
    .have t:=t rfl
     cases v
     .exact Or.inl ⟨by simp[Region.wanted,b,c],_,t,u false rfl,e.fV aL⟩
     .exact Or.inr ⟨by simp[Region.wanted,b,c],_,t,u false rfl,e.fV aL⟩
    .have s:=s rfl
     cases v
     .exact Or.inr ⟨by simp[Region.wanted,b,c],_,s,u true rfl,e.fV aL⟩
     .exact Or.inl ⟨by simp[Region.wanted,b,c],_,s,u true rfl,e.fV aL⟩
   .exact h.elim
def YK(g:uB b T){c:Fr}(f:ku n c a)(e:Bx n c m){k:SV->Prop}(h:rd T c m k o.op){w:World}(p:w.heap=m)
 {d:Act->World->Prop}{Q:Exit->Act->World->Prop}(j:∀x v,k x->x.Is v->d (a.put o.dst v) w):o.wp b a w d Q:=by
 obtain⟨x,v,i,q,l⟩:=Lz (P:=b) g f e o h
 unfold Oper.wp
 rw[l w (λr _=>by rw[p])]
 exact j x v i q
def vd(l:uB b T)(s:UO b G)(c:Array Oper){Q:Exit->Act->World->Prop}{K:World}{H:Act}:
 ∀(jV:List Oper)(d:Fr)(m:E)(k:Fr->E->Prop)(a:Act)(w:World),(∀o∈jV,o∈c.toList)->sG b T G n c.toList jV d m k->ku n d a->Bx n d m->w.heap=m->pF K w->
  mN (zS c.toList) H a->
  (∀g e f,k g f.heap->ku n g e->Bx n g f.heap->pF K f->mN (zS c.toList) H e->Q .normal e f)->wpList b c Q jV a w
 |[],d,m,k,a,w,_,h,y,v,e,r,p,q=>by
  subst e;exact q d a w h y v r p
 |o::jV,d,m,k,a,w,I,h,y,v,e,r,p,q=>by
  simp only[sG]at h;cases hd:sB n o.dst
  .rw[hd]at h;exact h.elim
  .rw[hd]at h;simp only[jO]at h;have z:=DY hd;have A:∀u,o.dst=some u->u∈zS c.toList:=λu N=>Ln N _ (I o bg);have B:=λS P=>I S (ai _ P);unfold wpList;rcases Jf c y v o h with⟨D,g,t,j,i⟩|⟨D,g,O,j,i⟩
   .rw[ao D];refine .inl ?_;cases J:Li o.op
    .simp only[J,mT]at t;refine YK l j i t e λV U F C=>?_;exact vd l s c jV _ m k _ w B F (j.put C z) (i.put _ _) e r (p.trans (mN.put A _ _)) q
    .simp only[J,jO]at t;refine Qu l s j i o t w e _ _ λW V U f F M L C R=>?_;exact vd l s c jV _ _ k _ f B F (M.put C z) (L.put _ _) rfl (r.trans R) (p.trans (mN.put A _ _)) q
   .rw[ae (by rw[D];simp)];exact vd l s c jV _ m k _ w B O (j.put (x:=.un) rfl z) (i.put _ _) e r (p.trans (mN.put A _ _)) q
end Go.Vc
end
section
namespace Go.Vc
variable{P:Program}{T:TT}{G:List Nat}{n:Nat}
def uj:List Nat->Nat->Nat
 |[],_=>0
 |x::_,0=>x
 |_::r,n+1=>uj r n
def lM:List Edge->Nat
 |[]=>0
 |e::r=>bif Region.binds .any e then 2^e.on|||lM r else lM r
def oC(a:List Nat):List Edge->Nat
 |[]=>0
 |e::r=>bif Region.binds .any e then(2^e.on|||uj a e.on)|||oC a r else oC a r
def lC(a:List Nat):List Oper->List Nat->List Nat->Bool
 |[],[],[]=>true
 |o::d,p::e,b::c=>Nat.beq p (lM o.after.toList)&&Nat.beq b (oC a o.after.toList)&&lC a d e c
 |_,_,_=>false
def R8:Op->List Operand
 | .alloc _| .ready _| .waits _=>[]
 | .move x| .assign x| .box _ x| .load _ x| .nilCheck x| .unOp _ _ x| .convert _ _ x| .sliceToArrayPointer _ x| .makeInterface _ x
 | .makeChan _ x| .fieldAddr _ x _| .field _ x _| .range _ x| .next x _| .entry x| .typeAssert x _ _ _| .extract x _| .panic x| .recv _ x _=>[x]
 | .pick c a b=>[c,a,b]
 | .build _ b| .buildSlice _ _ b=>b.toList.map (·.2)
 | .store _ a v| .binOp _ _ a v _| .makeSlice _ a v| .indexAddr _ a v| .index _ a v| .lookup _ a v _| .mapEntry _ a v| .send a v=>[a,v]
 | .makeFunc _ first a=>first.toList++a.toList
 | .makeMap _ r=>r.toList
 | .slice _ x l h m=>[x]++l.toList++h.toList++m.toList
 | .mapUpdate _ m k v| .entryStore _ m k v| .insert _ m k v=>[m,k,v]
 | .call ⟨.value f,a,_⟩| .go ⟨.value f,a,_⟩| .defer ⟨.value f,a,_⟩=>f::a.toList
 | .call ⟨.invoke f _,a,_⟩| .go ⟨.invoke f _,a,_⟩| .defer ⟨.invoke f _,a,_⟩=>f::a.toList
 | .call ⟨.builtin _,a,_⟩| .go ⟨.builtin _,a,_⟩| .defer ⟨.builtin _,a,_⟩=>a.toList
 | .select a _=>(a.flatMap λc=>#[c.chan]++c.send.toArray).toList
def Ug(a:Op):a.operands.toList=R8 a:=by
 cases a<;>try (simp[Op.operands,R8];done)
 all_goals
  rename_i c
  obtain⟨b,d,e⟩:=c
  cases b<;>simp[Op.operands,R8,Call.operands]
def JG(d:Nat):List Operand->Bool
 |[]=>false
 | .tmp t::r=>Nat.beq t d||JG d r
 |_::r=>JG d r
def OP(a:List Oper)(o:Oper)(d:Nat):Bool:=
 JG d (R8 o.op)||(match o.guard with
  |some (g,_)=>(match Lb a g with|some t=>Nat.beq t d|none=>false)
  |none=>false)
def Ou(a:List Oper)(x y:Oper):Bool:=
 (match x.dst with
  |some d=>!OP a y d&&(match y.dst with|some e=>!Nat.beq d e|none=>true)
  |none=>true)&&
 (match y.dst with
  |some d=>!OP a x d
  |none=>true)
def Xt:Op->Bool
 | .select ..=>true
 |_=>false
def zL(b:List Oper)(i:Nat)(a:Nat)(o:Oper):Nat->List Oper->List Nat->Bool
 |_,[],_=>true
 |_,_,[]=>true
 |j,x::c,p::d=>(Nat.beq j i||Nat.testBit p i||Nat.testBit a j||Ou b o x)&&zL b i a o (j+1) c d
def FC(a:List Oper)(b:List Nat):Nat->List Oper->List Nat->Bool
 |_,[],_=>true
 |_,_,[]=>true
 |i,o::e,c::d=>!Xt o.op&&(Li o.op||zL a i c o 0 a b)&&FC a b (i+1) e d
def kY(done p i:Nat):Bool:=!(Nat.testBit done i)&&Nat.beq (p&&&done) p
def wZ(done:Nat):Nat->List Oper->List Nat->Option Nat
 |_,[],_=>none
 |_,_,[]=>none
 |i,o::a,p::b=>bif kY done p i&&!(Li o.op)then some i else wZ done (i+1) a b
def pS(done:Nat):Nat->List Oper->List Nat->List Nat
 |_,[],_=>[]
 |_,_,[]=>[]
 |i,_::a,p::b=>bif kY done p i then i::pS done (i+1) a b else pS done (i+1) a b
def LG(m a:E):List (Nat×Nat)->Prop->Prop
 |[],k=>k
 |(b,o)::r,k=>af a b o=af m b o/\LG m a r k
def DM(a:Nat)(m b:E):List (Nat×List (Nat×Nat))->Prop->Prop
 |[],k=>k
 |(r,c)::L,k=>bif Nat.testBit a r then DM a m b L k else LG m b c (DM a m b L k)
def Ot:List Nat->(Nat->Prop)->Prop
 |[],_=>True
 |[i],f=>f i
 |i::r,f=>f i/\Ot r f
def oU(P:Program)(T:TT)(G:List Nat)(n:Nat)(b:List Oper)(c d:List Nat):Nat->Nat->Fr->E->List (Nat×List (Nat×Nat))->(Fr->E->Prop)->Prop
 |0,done,a,m,_,k=>match pS done 0 b c with
  |[]=>k a m
  |_=>False
 |e+1,done,a,m,L,k=>
  match wZ done 0 b c with
  |some i=>match Ic b i with
   |some o=>bif sB n o.dst then
    gd b a o.guard
     (λa=>rd T a m (λx=>oU P T G n b c d e (done|||2^i) (ug a o.dst x) m ((i,Ta T a o.op)::L) k) o.op)
     (λa=>oU P T G n b c d e (done|||2^i) (ug a o.dst .un) m L k)
    else False
   |none=>False
  |none=>match pS done 0 b c with
   |[]=>k a m
   |h=>Ot h λi=>match Ic b i with
    |some o=>bif sB n o.dst then
     gd b a o.guard
      (λa=>wr P T G n a m o.dst o.type (λg x f=>DM (uj d i) m f L (oU P T G n b c d e (done|||2^i) (ug g o.dst x) f L k)) o.op)
      (λa=>oU P T G n b c d e (done|||2^i) (ug a o.dst .un) m L k)
     else False
    |none=>False
def nG(r:Nat):∀(a:List Edge),Nat.testBit (lM a) r=true<->∃e∈a,Region.binds .any e=true/\e.on=r
 |[]=>by simp[lM]
 |e::a=>by
  have c:=nG r a;simp only[lM];cases b:Region.binds .any e
  .simp only[mT,c,aV,exists_eq_or_imp,b];simp
  .simp only[jO,UB,bT,c,aV,exists_eq_or_imp,b,true_and,Nq,ar]
def yz(b:List Nat)(r:Nat):∀(a:List Edge),Nat.testBit (oC b a) r=true->∃e∈a,Region.binds .any e=true/\(e.on=r\/Nat.testBit (uj b e.on) r=true)
 |[],h=>by simp[oC]at h
 |e::a,h=>by
  have i:=yz b r a;simp only[oC]at h;cases f:Region.binds .any e
  .simp only[f,mT]at h;obtain⟨c,g,d⟩:=i h;exact⟨c,ai _ g,d⟩
  .simp only[f,jO,UB,bT,Nq,ar]at h;rcases h with h|h
   .exact⟨e,bg,f,h⟩
   .obtain⟨c,g,d⟩:=i h;exact⟨c,ai _ g,d⟩
def mh(c:List Nat):∀{e:List Oper}{f a:List Nat},lC c e f a=true->∀(i:Nat)(o:Oper),e[i]? =some o->
 f[i]? =some (lM o.after.toList)/\uj a i=oC c o.after.toList/\∃b,a[i]? =some b
 |[],[],[],_,i,o,h=>by simp at h
 |x::e,p::f,b::a,h,i,o,d=>by
  simp only[lC,bL]at h;obtain⟨⟨g,j⟩,k⟩:=h;cases i with
  |zero=>
   simp at d;subst d;exact⟨by simp[br g],by simp[uj,br j],b,aL⟩
  |succ i=>
   have:=mh c k i o (by simpa using d);simpa[uj]using this
 |[],[],_::_,h,_,_,_=>by simp[lC]at h
 |[],_::_,_,h,_,_,_=>by simp[lC]at h
 |_::_,[],_,h,_,_,_=>by simp[lC]at h
 |_::_,_::_,[],h,_,_,_=>by simp[lC]at h
def Jw(d:List Nat):∀{a:List Oper}{c b:List Nat},lC d a c b=true->c.length=a.length/\b.length=a.length
 |[],[],[],_=>⟨rfl,rfl⟩
 |x::a,p::c,e::b,h=>by
  simp only[lC,bL]at h;have:=Jw d h.2;simp[this.1,this.2]
 |[],[],_::_,h=>by simp[lC]at h
 |[],_::_,_,h=>by simp[lC]at h
 |_::_,[],_,h=>by simp[lC]at h
 |_::_,_::_,[],h=>by simp[lC]at h
end Go.Vc
end
section
namespace Go.Vc
variable{N a:Nat}{b:Array Bool}
variable{P:Program}{T:TT}{G:List Nat}{n:Nat}
def tU{d:Nat}:∀{a:List Operand},JG d a=false->d∉(a.filterMap λ| .tmp t=>some t|_=>none)
 |[],_=>aL
 |x::r,h=>by
  cases x with
  |tmp t=>
   simp only[JG,bt]at h;have b:=tU h.2;have:t≠d:=λe=>by subst e;simp at h
   simp only[List.filterMap_cons,aV,vG];exact⟨λe=>this e.symm,b⟩
  |const v=>simpa using tU (a:=r) (by simpa[JG]using h)
  |global g=>simpa using tU (a:=r) (by simpa[JG]using h)
  |func f=>simpa using tU (a:=r) (by simpa[JG]using h)
def TZ(a:Array Oper)(g:Nat):Lb a.toList g=(a[g]?).bind (·.dst):=by
 unfold Lb;rw[pR];have e:a.toList[g]? =a[g]? :=aL;rw[e];cases a[g]? <;>rfl
def Ju(b:Array Oper){o:Oper}{d:Nat}(h:OP b.toList o d=false):d∉o.looksAt b:=by
 simp only[OP,bt]at h;unfold Oper.looksAt;rw[Ug,List.mem_append,vG];refine⟨tU h.1,?_⟩;have a:=h.2;cases c:o.guard with
 |none=>simp
 |some p=>
  obtain⟨g,f⟩:=p;rw[c]at a;simp only at a⊢;rw[TZ]at a;cases hd:(b[g]?).bind (·.dst)with
  |none=>simp
  |some t=>
   rw[hd]at a;simp only at a;simp only[Option.toList_some,lS];intro e;subst e;simp at a
def Px(b:Array Oper){x y:Oper}(h:Ou b.toList x y=true):x.apart b y=true:=by
 simp only[Ou,bL]at h;obtain⟨a,d⟩:=h;unfold Oper.apart;simp only[bL];constructor
 .cases i:x.dst with
  |none=>rfl
  |some f=>
   rw[i]at a;simp only[bL,iU]at a⊢;refine⟨?_,?_⟩
   .have:=Ju b a.1;simpa using this
   .have c:=a.2;cases e:y.dst with
    |none=>simp
    |some j=>
     rw[e]at c;simp only[iU]at c;simp only[vF,ne_eq,DS];intro g;subst g;simp at c
 .cases e:y.dst with
  |none=>rfl
  |some f=>
   rw[e]at d;simp only[iU]at d⊢;have:=Ju b d;simpa using this
def Du(i:List Oper)(a d:Nat)(o:Oper):∀{g:List Oper}{k:List Nat}{c:Nat},zL i a d o c g k=true->∀(j:Nat)(x:Oper)(p:Nat),g[j]? =some x->k[j]? =some p->
 c+j=a\/Nat.testBit p a=true\/Nat.testBit d (c+j)=true\/Ou i o x=true
 |[],_,_,_,j,x,p,h,_=>by simp at h
 |_::_,[],_,_,j,x,p,_,h=>by simp at h
 |y::g,q::k,c,h,j,x,p,f,e=>by
  simp only[zL,bL,bT]at h;obtain⟨b,m⟩:=h;cases j with
  |zero=>
   simp at f e;subst f;subst e;rcases b with((b|b)|b)|b
   .exact Or.inl (by simpa using br b)
   .exact Or.inr (Or.inl b)
   .exact Or.inr (Or.inr (Or.inl (by simpa using b)))
   .exact Or.inr (Or.inr (Or.inr b))
  |succ j=>
   have:=Du i a d o m j x p (by simpa using f) (by simpa using e);have l:c+1+j=c+(j+1):=V;rw[l]at this;exact this
def wU(d:List Oper)(j:List Nat):∀{i:List Oper}{e:List Nat}{c:Nat},FC d j c i e=true->∀(a:Nat)(o:Oper)(b:Nat),i[a]? =some o->e[a]? =some b->
 Xt o.op=false/\(Li o.op=true\/zL d (c+a) b o 0 d j=true)
 |[],_,_,_,a,o,b,h,_=>by simp at h
 |_::_,[],_,_,a,o,b,_,h=>by simp at h
 |y::i,q::e,c,h,a,o,b,g,f=>by
  simp only[FC,bL,bT,iU]at h;obtain⟨⟨l,m⟩,n⟩:=h;cases a with
  |zero=>simp at g f;subst g;subst f;exact⟨l,by simpa using m⟩
  |succ a=>
   have:=wU d j n a o b (by simpa using g) (by simpa using f);have k:c+1+a=c+(a+1):=V;rw[k]at this;exact this
def Jt(p d:Nat):Nat.beq (p&&&d) p=true<->∀r,Nat.testBit p r=true->Nat.testBit d r=true:=by
 constructor
 .intro h r a;have e:=br h;rw[<-e,Nat.testBit_and]at a;simp only[bL]at a;exact a.2
 .intro h;have:p&&&d=p:=by
   apply Nat.eq_of_testBit_eq;intro r;rw[Nat.testBit_and];cases a:Nat.testBit p r
   .rfl
   .simp[h r a]
  rw[this];simp
structure Oi(N done:Nat)(b:Array Bool):Prop where
 size:b.size=N
 Yg:∀a,b.getD a false=Nat.testBit done a
def Oi.un{done:Nat}(h:Oi N done b)(c:a<N):b.getD a true=Nat.testBit done a:=by
 rw[<-h.Yg a];have:a<b.size:=by rw[h.size];exact c
 simp[this]
def Oi.set{done:Nat}(h:Oi N done b)(c:a<N):Oi N (done|||2^a) (b.setIfInBounds a true):=by
 refine⟨by simp[h.size],λj=>?_⟩;have d:a<b.size:=by rw[h.size];exact c
 rw[UB,Nq];by_cases e:a=j
 .subst e;simp[d]
 .rw[getD_set_ne false e,h.Yg j];simp[e]
def Ij(d:Array Oper){q h r:List Nat}(n:lC h d.toList q r=true){done:Nat}(g:Oi d.size done b)(a:Nat):
 a∈Region.ready .any d b<->∃o p,d[a]? =some o/\q[a]? =some p/\kY done p a=true:=by
 rw[mem_ready]
 constructor
 .rintro⟨m,o,c,s⟩
  have k:a<d.size:=(Array.getElem?_eq_some_iff.1 c).1
  have l:=(mh h n a o (by simpa using c)).1
  refine⟨o,_,c,l,?_⟩
  simp only[kY,bL,iU]
  refine⟨by rw[<-g.un k];exact m,(Jt _ _).2 λt e=>?_⟩
  obtain⟨f,j,i,rfl⟩:=(nG t _).1 e
  rw[<-g.Yg]
  exact s f (Array.mem_toList_iff.1 j) i
 .rintro⟨o,p,c,l,e⟩
  have k:a<d.size:=(Array.getElem?_eq_some_iff.1 c).1
  have m:=(mh h n a o (by simpa using c)).1
  rw[l]at m
  simp only[DS]at m
  subst m
  simp only[kY,bL,iU]at e
  refine⟨by rw[g.un k];exact e.1,o,c,λf j i=>?_⟩
  rw[g.Yg]
  exact(Jt _ _).1 e.2 f.on ((nG _ _).2 ⟨f,Array.mem_toList_iff.2 j,i,rfl⟩)
def Lp(done:Nat):∀{d:List Oper}{e:List Nat}{b a:Nat},a∈pS done b d e<->∃j o p,a=b+j/\d[j]? =some o/\e[j]? =some p/\kY done p a=true
 |[],_,_,_=>by simp[pS]
 |_::_,[],_,_=>by simp[pS]
 |x::d,q::e,b,a=>by
  have h:=Lp done (d:=d) (e:=e) (b:=b+1) (a:=a);have k:(∃j o p,a=b+j/\(x::d)[j]? =some o/\(q::e)[j]? =some p/\kY done p a=true)<->
   ((a=b/\kY done q b=true)\/∃j o p,a=b+1+j/\d[j]? =some o/\e[j]? =some p/\kY done p a=true):=by
   constructor
   .rintro⟨j,o,p,rfl,g,f,c⟩
    cases j with
    |zero=>simp at f;subst f;exact Or.inl ⟨rfl,by simpa using c⟩
    |succ j=>exact Or.inr ⟨j,o,p,V,by simpa using g,by simpa using f,by rwa[show b+(j+1)=b+(j+1)from rfl]at c⟩
   .rintro(⟨rfl,c⟩|⟨j,o,p,rfl,g,f,c⟩)
    .exact⟨0,x,q,rfl,aL,aL,c⟩
    .exact⟨j+1,o,p,V,by simpa using g,by simpa using f,c⟩
  rw[k,<-h];simp only[pS];cases c:kY done q b
  .simp
  .simp
def Jo(done:Nat):∀{d:List Oper}{e:List Nat}{c a:Nat},wZ done c d e=some a->∃j o p,a=c+j/\d[j]? =some o/\e[j]? =some p/\kY done p a=true/\Li o.op=false
 |[],_,_,_,h=>by simp[wZ]at h
 |_::_,[],_,_,h=>by simp[wZ]at h
 |x::d,q::e,c,a,h=>by
  simp only[wZ]at h;cases b:(kY done q c&&!(Li x.op))
  .rw[b]at h;obtain⟨j,o,p,rfl,f,g,i,k⟩:=Jo done h;exact⟨j+1,o,p,V,by simpa using f,by simpa using g,i,k⟩
  .rw[b]at h;simp at h;subst h;simp only[bL,iU]at b;exact⟨0,x,q,rfl,aL,aL,b.1,b.2⟩
def Nw:∀{l:List Nat}{f:Nat->Prop},Ot l f->∀a∈l,f a
 |[a],f,h,j,b=>by simp at b;subst b;exact h
 |a::c::r,f,h,j,b=>by
  rcases List.mem_cons.1 b with rfl|b
  .exact h.1
  .exact Nw h.2 j b
def LH{m b:E}:∀{l:List (Nat×Nat)}{k:Prop},LG m b l k->k/\∀q∈l,af b q.1 q.2=af m q.1 q.2
 |[],k,h=>⟨h,aL⟩
 |(e,o)::r,k,h=>by
  obtain⟨c,d⟩:=LH h.2;refine⟨c,λq a=>?_⟩;rcases List.mem_cons.1 a with rfl|a
  .exact h.1
  .exact d q a
def Fo{c:Nat}{m g:E}:∀{L:List (Nat×List (Nat×Nat))}{k:Prop},DM c m g L k->k/\∀x∈L,Nat.testBit c x.1=false->∀q∈x.2,af g q.1 q.2=af m q.1 q.2
 |[],k,h=>⟨h,aL⟩
 |(r,l)::L,k,h=>by
  simp only[DM]at h;cases f:Nat.testBit c r
  .rw[f]at h;obtain⟨i,j⟩:=LH h;obtain⟨d,e⟩:=Fo i;refine⟨d,λx a b=>?_⟩;rcases List.mem_cons.1 a with rfl|a
   .exact j
   .exact e x a b
  .rw[f]at h;obtain⟨d,e⟩:=Fo h;refine⟨d,λx a b=>?_⟩;rcases List.mem_cons.1 a with rfl|a
   .rw[f]at b;cases b
   .exact e x a b
def ZK(L:List (Nat×List (Nat×Nat)))(b:List (Nat×(World->Prop))):Prop:=
 ∀x∈b,(∀w,x.2 w)\/∃(a:List (Nat×Nat))(c:Nat×Nat->Option Value),(x.1,a)∈L/\x.2=λw=>∀q∈a,af w.heap q.1 q.2=c q
end Go.Vc
end
section
namespace Go.Vc
variable{a:Program}{T:TT}{G:List Nat}{n:Nat}
def Pd(hT:uB a T)(hG:UO a G)(b:Array Oper)(U f:List Nat)(z:lC f b.toList U f=true)(an:FC b.toList U 0 b.toList f=true)
 {ag:Exit->Act->World->Prop}(hQ:∀N g w,¬ag (.panic N) g w){w0:World}{a0:Act}:
 ∀(F done:Nat)(D:Fr)(ac:E)(L:List (Nat×List (Nat×Nat)))(B:Fr->E->Prop)(M:List (Nat×(World->Prop)))(c:Array Bool)(g:Act)(w:World),
  oU a T G n b.toList U f F done D ac L B->ZK L M->Oi b.size done c->Hy (λi K=>Nat.testBit (uj f i) K) c->ku n D g->Bx n D ac->w.heap=ac->pF w0 w->
  mN (zS b.toList) a0 g->
  (∀s d k,B s k.heap->ku n s d->Bx n s k.heap->pF w0 k->mN (zS b.toList) a0 d->ag .normal d k)->
  vD a .any b ag (λi K=>Nat.testBit (uj f i) K) M F c g w:=by
 have H:UK .any b (λi K=>Nat.testBit (uj f i) K):=by
  intro i K o d p;have X:=(mh f z i o (by simpa using d)).2.1;simp only[X]at p;obtain⟨e,he,hb,h⟩:=yz f K _ p;exact⟨e,Array.mem_toList_iff.1 he,hb,h⟩
 have aF:=Jw f z
 have av:∀(j:Nat)(o:Oper) cs r,b[j]? =some o->o.op≠.select cs r:=by
  intro j o cs r d e;obtain⟨_,_,bj,ay⟩:=mh f z j o (by simpa using d);have:=(wU _ _ an j o bj (by simpa using d) ay).1;rw[e]at this;simp[Xt]at this
 have al:∀{done:Nat}{c:Array Bool},Oi b.size done c->∀i,i∈Region.ready .any b c<->i∈pS done 0 b.toList U:=by
  intro done c hD i;rw[Ij b z hD i,Lp];constructor
  .rintro⟨o,R,d,O,p⟩;exact⟨i,o,R,V,by simpa using d,O,p⟩
  .rintro⟨j,o,R,e,d,O,p⟩;have:i=j:=V;subst this;exact⟨o,R,by simpa using d,O,p⟩
 have au:∀{done:Nat}{c:Array Bool},Oi b.size done c->pS done 0 b.toList U=[]->Region.ready .any b c=[]:=by
  intro done c hD h;apply List.eq_nil_iff_forall_not_mem.2;intro i m;rw[al hD i,h]at m;cases m
 intro F
 induction F with
 |zero=>
  intro done D ac L B M c g w h hL hD hC hR hB hw hs hk hq
  subst hw
  simp only[oU]at h
  split at h
  .rename_i h0
   exact⟨au hD h0,hq D g w h hR hB hs hk⟩
  .exact h.elim
 |succ F Q=>
  intro done D ac L B M c g w h hL hD hC hR hB hw hs hk hq
  subst hw
  simp only[oU]at h
  split at h
  · -- a reading is taken first
   rename_i i m
   obtain⟨j,o,R,e,d,O,p,aD⟩:=Jo done m
   have:i=j:=V
   subst this
   rw[pR,d]at h
   simp only at h
   have A:b[i]? =some o:=by simpa using d
   have aa:i<b.size:=(Array.getElem?_eq_some_iff.1 A).1
   have ab:i∈Region.ready .any b c:=(Ij b z hD i).2 ⟨o,R,A,O,p⟩
   cases hd:sB n o.dst
   .rw[hd]at h;exact h.elim
   .rw[hd]at h
    simp only[jO]at h
    have Y:=DY hd
    have Z:∀C,o.dst=some C->C∈zS b.toList:=λC ah=>Ln ah _ (iE d)
    have aq:∀j I,b[j]? =some I->j≠i->c.getD j true=false->(∀e∈I.after,Region.binds .any e=true->e.on≠i)->o.apart b I=true:=by
     intro j I ak aA ar aB;have az:j<b.size:=(Array.getElem?_eq_some_iff.1 ak).1;obtain⟨_,aE,bi,ap⟩:=mh f z i o d;rcases(wU _ _ an i o bi d ap).2 with t|t
     .rw[aD]at t;cases t
     .have W:=(mh f z j I (by simpa using ak)).1;have u:uj f i=bi:=by
       have:∀(l:List Nat)(i r:Nat),l[i]? =some r->uj l i=r:=by
        intro l;induction l with
        |nil=>intro i r h;simp at h
        |cons ad l Q=>intro i r h;cases i with
         |zero=>simpa[uj]using h
         |succ i=>simpa[uj]using Q i r (by simpa using h)
       exact this f i bi ap
      rcases Du _ _ _ _ t j I _ (by simpa using ak) W with e|e|e|e
      .exact absurd V aA
      .rw[bV]at e;obtain⟨q,y,hb,J⟩:=(nG i _).1 e;exact absurd J (aB q (Array.mem_toList_iff.1 y) hb)
      .rw[bV,<-u]at e;have:=xt H hC ab e;rw[hD.Yg]at this;rw[hD.un az,this]at ar;cases ar
      .exact Px b e
    rcases Jf b hR hB o h with⟨J,s,am,y,u⟩|⟨J,s,aj,y,u⟩
    .obtain⟨ad,aw,hx,hv,aC⟩:=Lz (P:=a) hT y u o am
     let ax:World->Prop:=λk=>∀q∈Ta T s o.op,af k.heap q.1 q.2=af w.heap q.1 q.2
     refine Hv (S:=ax) H A av (λN g w hc=>absurd hc (hQ _ _ _)) F c g w hC aq ab (F:=aw) (Or.inl ⟨J,λk l=>aC k l⟩) (λq _=>rfl) ?_
     refine Q _ _ _ _ B _ _ _ w hx ?_ (hD.set aa) (hC.set H ab) (y.put hv Y) (u.put _ _) rfl hs (hk.trans (mN.put Z _ _)) hq
     intro W l
     rcases List.mem_cons.1 l with rfl|l
     .exact Or.inr ⟨_,λq=>af w.heap q.1 q.2,bg,rfl⟩
     .rcases hL W l with t|⟨As,N,X,h2⟩
      .exact Or.inl t
      .exact Or.inr ⟨As,N,ai _ X,h2⟩
    .refine Hv (S:=λ_=>True) H A av (λN g w hc=>absurd hc (hQ _ _ _)) F c g w hC aq ab (F:=undef) (Or.inr ⟨J,rfl⟩) trivial ?_
     refine Q _ _ _ _ B _ _ _ w aj ?_ (hD.set aa) (hC.set H ab) (y.put (x:=.un) rfl Y) (u.put _ _) rfl hs (hk.trans (mN.put Z _ _)) hq
     intro W l
     rcases List.mem_cons.1 l with rfl|l
     .exact Or.inl λ_=>trivial
     .exact hL W l
  .split at h
   .rename_i h0
    exact Qt (au hD h0) (hq D g w h hR hB hs hk) _
   .rename_i rs ax
    have ar:=Nw h
    refine Rq ?_ ?_
    .intro e
     apply ax
     cases I:pS done 0 b.toList U with
     |nil=>rfl
     |cons ad xs=>
      have:ad∈Region.ready .any b c:=(al hD ad).2 (by rw[I];exact bg)
      rw[e]at this
      cases this
    .intro i m
     have I:=ar i ((al hD i).1 m)
     obtain⟨o,R,A,O,p⟩:=(Ij b z hD i).1 m
     have d:b.toList[i]? =some o:=by simpa using A
     have aa:i<b.size:=(Array.getElem?_eq_some_iff.1 A).1
     rw[pR,d]at I
     simp only at I
     cases hd:sB n o.dst
     .rw[hd]at I;exact I.elim
     .rw[hd]at I
      simp only[jO]at I
      have Y:=DY hd
      have Z:∀C,o.dst=some C->C∈zS b.toList:=λC ah=>Ln ah _ (iE d)
      unfold wpOp
      simp only[A]
      rcases Jf b hR hB o I with⟨J,s,am,y,u⟩|⟨J,s,aj,y,u⟩
      .rw[ao J]
       refine .inl (Qu hT hG y u o am w rfl _ _ λaD ad aw k hx aq ap hv az=>?_)
       obtain⟨aA,aB⟩:=Fo hx
       refine⟨λW l aC ab=>?_,Q _ _ _ L B M _ _ k aA hL (hD.set aa) (hC.set H m) (aq.put hv Y) (ap.put _ _) rfl (hs.trans az) (hk.trans (mN.put Z _ _)) hq⟩
       rcases hL W l with t|⟨As,N,X,h2⟩
       .exact t k
       .rw[h2]at ab⊢
        intro q ak
        rw[aB _ X aC q ak,ab q ak]
      .rw[ae (by rw[J];simp)]
       exact⟨λW l _ ab=>ab,Q _ _ _ L B M _ _ w aj hL (hD.set aa) (hC.set H m) (y.put (x:=.un) rfl Y) (u.put _ _) rfl hs (hk.trans (mN.put Z _ _)) hq⟩
end Go.Vc
end
section
namespace Go.Vc
variable{M:List Nat}{a:Act}{s:Sh}{y:s.ty}
variable{P:Program}{T:TT}{G:List Nat}{b:Nat}
structure Ph where
 Ua:List (Nat×List (Nat×Sh))
 U9:List (Nat×List (Nat×Sh))
 eC:List (Nat×List Nat)
def lk{α:Type}:List (Nat×α)->Nat->Option α
 |[],_=>none
 |(u,x)::r,t=>bif Nat.beq u t then some x else lk r t
def Dz:Code->Option Nat
 | .region id _ _=>some id
 | .seq a b=>match Dz a with
  |some i=>some i
  |none=>Dz b
 | .cond _ a b=>match Dz a with
  |some i=>some i
  |none=>Dz b
 | .block _ c=>Dz c
 | .loop c=>Dz c
 | .scope c=>Dz c
 |_=>none
def V5{α:Type}(l:List (Nat×α))(c:Code):Option α:=
 match Dz c with
 |some i=>lk l i
 |none=>none
def HG:List (Nat×Sh)->Type
 |[]=>E->Prop
 |(_,s)::r=>s.ty->HG r
def On:List (Nat×Sh)->Type
 |[]=>E->Nat
 |(_,s)::r=>s.ty->On r
def QZ:(s:Sh)->SV->Option s.ty
 | .I,.c (.i b)=>some b
 | .U k,.c (.u c b)=>if k=c then some b else none
 | .T,.c (.t c)=>some c
 | .T,.tt=>some true
 | .T,.ff=>some false
 | .S,.c (.s x)=>some x
 | .P,.c (.p c o)=>some (c,o)
 | .P,.c (.bp _ c o)=>some (c,o)
 | .F,.c (.fn f a d)=>some (f,a,d)
 | .F,.c (.fv q)=>some q
 | .M,.c (.mp c)=>some c
 |_,_=>none
def HJ:(l:List (Nat×Sh))->HG l->Fr->E->Prop
 |[],I,_,m=>I m
 |(t,s)::r,I,a,m=>match QZ s (iA a t)with
  |some x=>HJ r (I x) a m
  |none=>False
def Ov:(l:List (Nat×Sh))->HG l->On l->Fr->E->Nat->Prop
 |[],I,μ,_,m,N=>I m/\μ m<N
 |(t,s)::r,I,μ,a,m,N=>match QZ s (iA a t)with
  |some x=>Ov r (I x) (μ x) a m N
  |none=>False
def Pu:(l:List (Nat×Sh))->HG l->Fr->(Fr->(E->Prop)->Prop)->Prop
 |[],I,a,k=>k a I
 |(t,s)::r,I,a,k=>∀x:s.ty,Pu r (I x) ((t,.c (s.mk x))::a) k
def Pv:(l:List (Nat×Sh))->HG l->On l->Fr->(Fr->(E->Prop)->(E->Nat)->Prop)->Prop
 |[],I,μ,a,k=>k a I μ
 |(t,s)::r,I,μ,a,k=>∀x:s.ty,Pv r (I x) (μ x) ((t,.c (s.mk x))::a) k
def nN:List Nat->Fr->Fr
 |[],a=>a
 |t::r,a=>(t,.fV)::nN r a
def oQ:Code->List Nat
 | .region _ b _=>zS b.toList
 | .seq a b=>oQ a++oQ b
 | .cond _ a b=>oQ a++oQ b
 | .block _ c=>oQ c
 | .loop c=>oQ c
 |_=>[]
def pY(M:List Nat):List (Nat×Sh)->Bool
 |[]=>true
 |(t,_)::r=>vm t M&&pY M r
def Xi(x y:SV)(k:Prop):Prop:=x=y/\k
def aB(x:SV)(k:Prop):Xi x x k=k:=by simp[Xi]
def lB(A:Ph)(c:Code):List Nat:=
 match V5 A.eC c with
 |some K=>K
 |none=>[]
def Dv(b:Nat)(K:List Nat):Fr->List Nat
 |[]=>[]
 |(q,_)::r=>bif Nat.ble b q&&!vm q K then q::Dv b K r else Dv b K r
def uD(b:Nat)(K:List Nat)(a:Fr):Fr:=nN (Dv b K a) a
def UF(a b:Fr):List Nat->Prop->Prop
 |[],k=>k
 |q::K,k=>Xi (iA b q) (iA a q) (UF a b K k)
def Ly(c:Fr):Op->Option SV
 | .move x| .assign x=>match ev c x with
  | .fV=>none
  |y=>some y
 | .binOp d _ x y _=>match ev c x,ev c y with
  | .c (.i a),.c (.i b)=>match d with
   | .eql=>some (.c (.t (a==b)))
   | .neq=>some (.c (.t (a !=b)))
   | .lss=>some (.c (.t (decide (a<b))))
   | .leq=>some (.c (.t (decide (a<=b))))
   | .gtr=>some (.c (.t (decide (a>b))))
   | .geq=>some (.c (.t (decide (a>=b))))
   |_=>none
  |_,_=>none
 |_=>none
def rc(b:Nat):List Oper->Fr->Option Fr
 |[],a=>some a
 |o::r,a=>bif sB b o.dst then
  match o.guard with
  |none=>match Ly a o.op with
   |some x=>rc b r (ug a o.dst x)
   |none=>none
  |some _=>none
  else none
def V7(A:Ph)(b t:Nat):Code->Fr->Option Bool
 | .region _ e false,d=>match rc b e.toList d with
  |some a=>lJ (iA a t)
  |none=>none
 | .seq (.region _ e false) (.cond (.tmp u) .skip c),d=>
  match V5 A.U9 (.cond (.tmp u) .skip c)with
  |some _=>none
  |none=>bif Nat.beq u t&&vm t (oQ c)then
   match rc b e.toList d with
   |some a=>match lJ (iA a t),V7 A b t c a with
    |some x,some y=>some (x||y)
    |_,_=>none
   |none=>none
   else none
 |_,_=>none
def YH(A:Ph)(b:Nat)(d:Operand)(a c:Code)(e:Fr):Option (Nat×Bool):=
 match d,a with
 | .tmp t,.skip=>bif vm t (oQ c)then
  match V7 A b t c e with
  |some y=>some (t,y)
  |none=>none
  else none
 |_,_=>none
def uL(a:Fr)(c:Operand)(v:SV):Fr:=
 match c with
 | .tmp t=>(t,v)::a
 |_=>a
def Vk:List Oper->List Nat
 |[]=>[]
 |o::r=>lM o.after.toList::Vk r
def TA:List Nat->List Oper->List Nat
 |a,[]=>a
 |a,o::r=>TA (a++[oC a o.after.toList]) r
def qB:Code->Bool
 | .region _ b c=>!c||(lC (TA [] b.toList) b.toList (Vk b.toList) (TA [] b.toList)&&FC b.toList (Vk b.toList) 0 b.toList (TA [] b.toList))
 | .seq a b=>qB a&&qB b
 | .cond _ a b=>qB a&&qB b
 | .block _ c=>qB c
 | .loop c=>qB c
 |_=>true
def vc(P:Program)(T:TT)(G:List Nat)(b:Nat)(A:Ph):Code->Fr->E->(Exit->Fr->E->Prop)->Prop
 | .skip,c,m,Q=>Q .normal c m
 | .region id d e,c,m,Q=>
  bif e then oU P T G b d.toList (Vk d.toList) (TA [] d.toList) d.toList.length 0 c m [] (λc m=>Q .normal c m)
  else sG P T G b d.toList d.toList c m (λc m=>Q .normal c m)
 | .seq a g,c,m,Q=>match V5 A.U9 g with
  |none=>vc P T G b A a c m λ
   | .normal,e,d=>vc P T G b A g e d Q
   |h,e,d=>Q h e d
  |some l=>bif pY (oQ a) l then∃K:HG l,(vc P T G b A a c m λ
   | .normal,e,d=>UF c e (lB A g) (HJ l K e d)
   |h,e,d=>Q h e d)/\
   (Pu l K (nN (oQ a) (uD b (lB A g) c)) λe f=>∀d,f d->vc P T G b A g e d Q)else False
 | .cond f a g,c,m,Q=>match ev c f with
  | .tt=>vc P T G b A a c m Q
  | .ff=>vc P T G b A g c m Q
  | .c (.t x)=>match YH A b f a g c with
   |some (t,y)=>Q .normal ((t,.c (.t (x||y)))::nN (oQ g) c) m
   |none=>(x=true->vc P T G b A a (uL c f .tt) m Q)/\(x=false->vc P T G b A g (uL c f .ff) m Q)
  |_=>False
 | .block id f,c,m,Q=>vc P T G b A f c m λ
  | .exit i,e,d=>bif Nat.beq i id then Q .normal e d else Q (.exit i) e d
  |h,e,d=>Q h e d
 | .loop f,c,m,Q=>match V5 A.Ua f with
  |none=>False
  |some l=>bif pY (oQ f) l then∃(I:HG l)(μ:On l),HJ l I c m/\
   (Pv l I μ (nN (oQ f) (uD b (lB A f) c)) λe j μ'=>∀d,j d->vc P T G b A f e d λ
    | .normal,g,i=>UF c g (lB A f) (Ov l I μ g i (μ' d))
    |h,g,i=>Q h g i)else False
 | .exit id,c,m,Q=>Q (.exit id) c m
 | .ret,c,m,Q=>Q .ret c m
 |_,_,_,_=>False
def mN.mono{b:List Nat}{c:Act}(h:mN M a c)(e:∀t∈M,t∈b):mN b a c:=λt f=>h t λd=>f (e t d)
def Ca:∀(M:List Nat)(a:Fr)(t:Nat),(t∈M/\iA (nN M a) t=.fV)\/(t∉M/\iA (nN M a) t=iA a t)
 |[],_,_=>Or.inr ⟨aL,rfl⟩
 |u::M,a,t=>by
  simp only[nN,iA];cases d:Nat.beq u t
  .have f:u≠t:=λe=>by subst e;simp at d
   rcases Ca M a t with⟨b,c⟩|⟨b,c⟩
   .exact Or.inl ⟨ai _ b,c⟩
   .exact Or.inr ⟨by simp only[aV,vG];exact⟨λe=>f e.symm,b⟩,c⟩
  .have:=br d;subst this;exact Or.inl ⟨bg,rfl⟩
def Ar{d:Fr}{c:Act}(g:ku b d a)(j:c.tmps.size=b)(hd:c.defers=[])(i:mN M a c):ku b (nN M d) c:=by
 refine⟨j,hd,λt=>?_⟩;rcases Ca M d t with⟨_,h⟩|⟨e,f⟩
 .rw[h];trivial
 .rw[f,i t e];exact g.aE t
def ku.nN{c:Fr}{a:Act}(d:ku b c a):∀(M:List Nat),ku b (nN M c) a
 |[]=>d
 |t::M=>(ku.nN d M).fV t
def Bx.nN{a:Fr}{m:E}(h:Bx b a m):∀(M:List Nat),Bx b (nN M a) m
 |[]=>h
 |t::M=>(Bx.nN h M).fV aL
def NB{K:List Nat}{q:Nat}(d:b<=q)(c:q∉K):∀{a:Fr},q∈Dv b K a\/iA a q=.fV
 |[]=>Or.inr rfl
 |(u,x)::r=>by
  simp only[Dv,iA];cases i:Nat.beq u q
  .rcases NB d c (a:=r)with h|h
   .left;cases(Nat.ble b u&&!vm u K)
    .exact h
    .exact ai _ h
   .exact Or.inr h
  .have:=br i;subst this;have f:vm u K=false:=by
    cases g:vm u K
    .rfl
    .exact absurd (H9 g) c
   have e:Nat.ble b u=true:=XT d;simp[f,e]
def KU{b c:Fr}:∀{K:List Nat}{k:Prop},UF b c K k->(∀q∈K,iA c q=iA b q)/\k
 |[],k,h=>⟨aL,h⟩
 |q::K,k,h=>by
  obtain⟨d,e⟩:=KU h.2;refine⟨λu a=>?_,e⟩;rcases List.mem_cons.1 a with rfl|a
  .exact h.1
  .exact d u a
def Bx.lB{K:List Nat}{c j:Fr}{v p:E}(h:Bx b c v)(r:Bx b j p)(s:∀q∈K,iA j q=iA c q):Bx b (Vc.nN M (uD b K c)) p:=by
 have i:∀{q d e l},lY (Vc.nN M (uD b K c)) q d e l->lY c q d e l/\lY j q d e l:=by
  intro q d e l a;have f:iA (Vc.nN M (uD b K c)) q=iA (uD b K c) q\/iA (Vc.nN M (uD b K c)) q=.fV:=by
   rcases Ca M (uD b K c) q with⟨_,h⟩|⟨_,h⟩
   .exact Or.inr h
   .exact Or.inl h
  unfold lY at a;rcases f with f|f
  .rw[f]at a;unfold uD at a;rcases Ca (Dv b K c) c q with⟨_,g⟩|⟨k,g⟩
   .rw[g]at a;simp at a
   .rw[g]at a;have t:b<=q:=h.key q d e l a;by_cases o:q∈K
    .refine⟨a,?_⟩;unfold lY;rw[s q o];exact a
    .rcases NB (b:=b) t o (a:=c)with m|m
     .exact absurd m k
     .rw[m]at a;simp at a
  .rw[f]at a;simp at a
 exact⟨λq d e l a=>r.D q d e l (i a).2,λq w d e l m o u t k g=>h.OA q w d e l m o u t (i k).1 (i g).1,λq d e l a=>h.key q d e l (i a).1⟩
def SC{x:SV}(h:QZ s x=some y):x.jP=true/\x.v=(s.mk y).v:=by
 unfold QZ at h;split at h<;>first|(simp at h;subst h;exact⟨rfl,rfl⟩)|skip
 .split at h
  .rename_i a;subst a;simp at h;subst h;exact⟨rfl,rfl⟩
  .simp at h
 .simp at h
def LD{d cz:Fr}{t:Nat}(g:ku b d a)(c:ku b cz a)(h:QZ s (iA d t)=some y):ku b ((t,.c (s.mk y))::cz) a:=by
 refine⟨c.size,c.defers,λu=>?_⟩;simp only[iA];cases i:Nat.beq t u
 .exact c.aE u
 .have:=br i;subst this;have e:=g.aE t;obtain⟨j,k⟩:=SC h;have f:=e.eq j;show _=_;rw[f,k];rfl
def Tl:(l:List (Nat×Sh))->HG l->On l->Fr->Fr->(E->Prop)->(E->Nat)->Prop
 |[],I,μ,b,c,a,μ'=>c=b/\a=I/\μ'=μ
 |(t,s)::r,I,μ,b,c,a,μ'=>∃x:s.ty,Tl r (I x) (μ x) ((t,.c (s.mk x))::b) c a μ'
def Nx:∀{l:List (Nat×Sh)}{I:HG l}{μ:On l}{b:Fr}{k:Fr->(E->Prop)->(E->Nat)->Prop},Pv l I μ b k->∀{fr' I' μ'},Tl l I μ b fr' I' μ'->k fr' I' μ'
 |[],_,_,_,_,h,_,_,_,a=>by obtain⟨rfl,rfl,rfl⟩:=a;exact h
 |(t,s)::r,_,_,_,_,h,_,_,_,a=>by obtain⟨x,a⟩:=a;exact Nx (h x) a
def Sh.Ud(s:Sh)(x:s.ty)(b e:Nat)(l:List Ce):SV.c (s.mk x)≠.box b e l/\SV.c (s.mk x)≠.zN b e l:=⟨aL,aL⟩
def NA{a:Act}{g:Fr}(i:ku b g a):∀{l:List (Nat×Sh)}{I:HG l}{μ:On l}{cz:Fr}{m:E}{N:Nat},ku b cz a->Bx b cz m->Ov l I μ g m N->
 ∃c d μ',Tl l I μ cz c d μ'/\ku b c a/\Bx b c m/\d m/\μ' m<N
 |[],I,μ,cz,_,_,f,e,h=>⟨cz,I,μ,⟨rfl,rfl,rfl⟩,f,e,h.1,h.2⟩
 |(t,s)::r,I,μ,cz,m,N,f,e,h=>by
  simp only[Ov]at h;split at h
  .rename_i x p;obtain⟨c,d,μ',j,k,n,o⟩:=NA i (LD i f p) (e.fV (s.Ud x)) h;exact⟨c,d,μ',⟨x,j⟩,k,n,o⟩
  .exact h.elim
def Nz{a:Act}{g:Fr}(i:ku b g a):∀{l:List (Nat×Sh)}{I:HG l}{μ:On l}{cz:Fr}{m:E},ku b cz a->Bx b cz m->HJ l I g m->
 ∃c d μ',Tl l I μ cz c d μ'/\ku b c a/\Bx b c m/\d m
 |[],I,μ,cz,_,f,e,h=>⟨cz,I,μ,⟨rfl,rfl,rfl⟩,f,e,h⟩
 |(t,s)::r,I,μ,cz,m,f,e,h=>by
  simp only[HJ]at h;split at h
  .rename_i x o;obtain⟨c,d,μ',j,k,n⟩:=Nz i (LD i f o) (e.fV (s.Ud x)) h;exact⟨c,d,μ',⟨x,j⟩,k,n⟩
  .exact h.elim
def Py{a:Act}{i:Fr}(j:ku b i a):∀{l:List (Nat×Sh)}{I:HG l}{cz:Fr}{m:E}{k:Fr->(E->Prop)->Prop},ku b cz a->Bx b cz m->HJ l I i m->Pu l I cz k->
 ∃c g,k c g/\ku b c a/\Bx b c m/\g m
 |[],I,cz,_,_,e,d,h,f=>⟨cz,I,f,e,d,h⟩
 |(t,s)::r,I,cz,m,k,e,d,h,f=>by
  simp only[HJ]at h;split at h
  .rename_i x n;exact Py j (LD j e n) (d.fV (s.Ud x)) h (f x)
  .exact h.elim
def SY{l:Code}{Q:Exit->Act->World->Prop}(b:Nat->Act->World->Prop)
 (r:∀N a w,b N a w->l.wp P (Exit.then (λg k=>∃d,d<N/\b d g k) Q) a w):∀N a w,b N a w->(Code.loop l).wp P Q a w:=by
 have q:∀N a w,b N a w->∃M,b M a w/\∀c,c<M->¬b c a w:=by
  intro N;induction N using Nat.strongRecOn with
  |_ N j=>
   intro a w h;by_cases e:∃c,c<N/\b c a w
   .obtain⟨c,f,i⟩:=e;exact j c f a w i
   .exact⟨N,h,λc i f=>e ⟨c,i,f⟩⟩
 intro N a w o
 classical
 let μ:Act->World->Nat:=λa w=>if h:∃M,b M a w/\∀c,c<M->¬b c a w then Classical.choose h else 0
 have hμ:∀a w N,b N a w->b (μ a w) a w/\μ a w<=N:=by
  intro a w N h;have e:=q N a w h;have i:μ a w=Classical.choose e:=Tc e;have n:=fN e;rw[i];refine⟨n.1,?_⟩;rcases aW N (Classical.choose e)with j|p
  .exact absurd h (n.2 N j)
  .exact p
 refine wp_loop (λa w=>∃N,b N a w) μ ⟨N,o⟩ ?_
 rintro a w ⟨N,h⟩
 refine Code.wp_mono ?_ (r (μ a w) a w (hμ a w N h).1)
 intro i g k m
 cases i with
 |normal=>
  obtain⟨d,j,f⟩:=m
  exact⟨⟨d,f⟩,nP (hμ g k d f).2 j⟩
 |_=>exact m
end Go.Vc
end
section
namespace Go.Vc
variable{i w:World}{j p:List Nat}{l a:Act}{f:Exit->Fr->E->Prop}{e:Exit}{b:E}
variable{g:Program}{h:TT}{G:List Nat}{d:Nat}{o:Ph}
def kH(d:Nat)(i:World)(j:List Nat)(l:Act)(f:Exit->Fr->E->Prop):Exit->Act->World->Prop
 | .panic _,_,_=>False
 | .outgrown,_,_=>False
 |e,a,w=>∃b,ku d b a/\Bx d b w.heap/\pF i w/\mN j l a/\f e b w.heap
def kH.mk{b:Fr}(g:(∀c,e≠.panic c)/\e≠.outgrown)
 (k:ku d b a)(h:Bx d b w.heap)(o:pF i w)(m:mN j l a)(n:f e b w.heap):kH d i j l f e a w:=by
 cases e with
 |panic c=>exact absurd rfl (g.1 c)
 |outgrown=>exact absurd rfl g.2
 |_=>exact⟨b,k,h,o,m,n⟩
def kH.aT(h:kH d i j l f e a w):
 ((∀c,e≠.panic c)/\e≠.outgrown)/\∃b,ku d b a/\Bx d b w.heap/\pF i w/\mN j l a/\f e b w.heap:=by
 cases e with
 |panic c=>exact h.elim
 |outgrown=>exact h.elim
 |_=>exact⟨⟨aL,aL⟩,h⟩
def kH.left(h:kH d i j l f e a w):kH d i (j++p) l f e a w:=by
 obtain⟨g,q,c,b,n,k,m⟩:=h.aT;exact kH.mk g c b n (k.mono (λt o=>bJ _ o)) m
def kH.right(h:kH d i j l f e a w):kH d i (p++j) l f e a w:=by
 obtain⟨g,q,c,b,n,k,m⟩:=h.aT;exact kH.mk g c b n (k.mono (λt o=>eF _ o)) m
def SK{f:Fr}{e:Op}{x:SV}{k:SV->Prop}(c:Ly f e=some x)(d:k x):Li e=false/\rd h f b k e:=by
 unfold Ly at c;split at c
 .split at c
  .simp at c
  .simp at c;subst c;exact⟨rfl,d⟩
 .split at c
  .simp at c
  .simp at c;subst c;exact⟨rfl,d⟩
 .rename_i o t y z l;split at c
  .rename_i a j g i;refine⟨rfl,?_⟩;simp only[rd,g,i];split at c<;>simp at c<;>subst c<;>exact d
  .simp at c
 .simp at c
def En(j:List Oper){b:E}{i:Fr->E->Prop}:∀{n:List Oper}{c e:Fr},rc d n c=some e->i e b->sG g h G d j n c b i
 |[],c,e,a,f=>by simp[rc]at a;subst a;exact f
 |o::s,c,e,a,f=>by
  simp only[rc]at a;simp only[sG];cases hd:sB d o.dst
  .rw[hd]at a;simp at a
  .rw[hd]at a;simp only[jO]at a⊢;cases l:o.guard with
   |some p=>rw[l]at a;simp at a
   |none=>
    rw[l]at a;simp only[gd]at a⊢;split at a
    .rename_i x r;obtain⟨p,q⟩:=SK (h:=h) (b:=b) (k:=λx=>sG g h G d j s (ug c o.dst x) b i) r (En j a f);rw[p];exact q
    .simp at a
def Uh(p:Nat){b:E}{f:Exit->Fr->E->Prop}:∀(k:Code)(n:Fr)(y:Bool),V7 o d p k n=some y->(∀i,lJ (iA i p)=some y->f .normal i b)->vc g h G d o k n b f
 | .region id A e,n,y,a,m=>by
  cases e
  .simp only[V7]at a;simp only[vc,mT];split at a
   .rename_i i q;exact En _ q (m i a)
   .simp at a
  .simp[V7]at a
 | .seq (.region id A false) (.cond (.tmp u) .skip k),n,y,a,m=>by
  simp only[V7]at a;split at a
  .simp at a
  .rename_i w;cases l:(Nat.beq u p&&vm p (oQ k))
   .rw[l]at a;simp at a
   .rw[l]at a;simp only[jO]at a;simp only[bL]at l;have z:=br l.1;subst z;split at a
    .rename_i i q;split at a
     .rename_i C B e r;simp at a;subst a;rw[vc,w];simp only;rw[vc];simp only[mT];refine En _ q ?_;rw[vc];have x:ev i (.tmp u)=(iA i u).nb:=rfl;rw[x];cases j:iA i u with
      |tt=>
       rw[j]at e;simp[lJ]at e;subst e;simp only[SV.nb,vc];exact m i (by rw[j];simp[lJ])
      |ff=>
       rw[j]at e;simp[lJ]at e;subst e;simp only[SV.nb];exact Uh u k i B r (λs v=>m s (by simpa using v))
      |c s=>
       cases s with
       |t v=>
        rw[j]at e;simp[lJ]at e;subst e;simp only[SV.nb,YH,l.2,jO,r];exact m _ (by simp[iA,lJ])
       |_=>rw[j]at e;simp[lJ]at e
      |_=>rw[j]at e;simp[lJ]at e
     .simp at a
    .simp at a
def Uu(hT:uB g h)(hG:UO g G)(au:g.follows .mixedOrders=true)(i:World):∀(D:Code),qB D=true->∀(l:Fr)(b:E)(f:Exit->Fr->E->Prop)(a:Act)(w:World),
 vc g h G d o D l b f->ku d l a->Bx d l b->w.heap=b->pF i w->D.wp g (kH d i (oQ D) a f) a w:=by
 intro D
 induction D with
 |skip=>
  intro hd l b f a w c k s x t
  subst x
  exact wp_skip ⟨l,k,s,t,mN.az _ _,c⟩
 |region id p z=>
  intro hd l b f a w c k s x t
  simp only[vc]at c
  cases z
  .simp only[mT]at c
   refine wp_region_list ?_
   exact vd hT hG p p.toList l b (f .normal) a w (λ_ c=>c) c k s x t (mN.az _ _) λB I S j r v u q=>⟨B,r,v,u,q,j⟩
  .simp only[jO]at c
   simp only[qB,Od,Vx,bL]at hd
   refine wp_region_any au (Mt (e:=λy C=>Nat.testBit (uj (TA [] p.toList) y) C) (L:=[]) _ _ _ _ ?_)
   have F:p.toList.length=p.size:=aL
   rw[F]at c
   refine Pd hT hG p _ _ hd.1 hd.2 (λD a w hx=>hx) (w0:=i) (a0:=a) p.size 0 l b [] (f .normal) [] _ a _ c (λC hx=>by cases hx) ⟨aL,λy=>by simp[Vw];split<;>rfl⟩ (λy hi=>by simp[Vw]at hi;split at hi<;>simp at hi) k s x ⟨t.os,t.tape,t.output⟩ (mN.az _ _) λB I S j r v u q=>⟨B,r,v,u,q,j⟩
 |seq C U ac X=>
  intro hd l b f a w c k s x t
  simp only[vc]at c
  simp only[qB,bL]at hd
  refine wp_seq ?_
  split at c
  .refine Code.wp_mono ?_ (ac hd.1 l b _ a w c k s x t)
   intro e I S j
   obtain⟨p,B,r,v,u,z,j⟩:=j.aT
   cases e with
   |normal=>
    refine Code.wp_mono ?_ (X hd.2 B _ f I S j r v rfl u)
    intro e R aa j
    obtain⟨p,V,J,F,O,K,j⟩:=j.aT
    exact kH.mk p J F O ((z.mono (λH q=>bJ _ q)).trans (K.mono (λH q=>eF _ q))) j
   |panic D=>exact absurd rfl (p.1 D)
   |outgrown=>exact absurd rfl p.2
   |exit y=>exact kH.mk (e:=.exit y) p r v u (z.mono (λH q=>bJ _ q)) j
   |goto y=>exact kH.mk (e:=.goto y) p r v u (z.mono (λH q=>bJ _ q)) j
   |ret=>exact kH.mk (e:=.ret) p r v u (z.mono (λH q=>bJ _ q)) j
  .rename_i N hl
   cases ab:pY (oQ C) N
   .rw[ab]at c;exact c.elim
   rw[ab]at c
   obtain⟨ad,h1,W⟩:=c
   refine Code.wp_mono ?_ (ac hd.1 l b _ a w h1 k s x t)
   intro e I S j
   obtain⟨p,B,r,v,u,z,j⟩:=j.aT
   cases e with
   |normal=>
    obtain⟨af,j⟩:=KU j
    obtain⟨ag,K',h3,Y,Z,h5⟩:=Py r (Ar (k.nN _) r.size r.defers z) (Bx.lB s v af) j W
    refine Code.wp_mono ?_ (X hd.2 ag _ f I S (h3 _ h5) Y Z rfl u)
    intro e R aa j
    obtain⟨p,V,J,F,O,K,j⟩:=j.aT
    exact kH.mk p J F O ((z.mono (λH q=>bJ _ q)).trans (K.mono (λH q=>eF _ q))) j
   |panic D=>exact absurd rfl (p.1 D)
   |outgrown=>exact absurd rfl p.2
   |exit y=>exact kH.mk (e:=.exit y) p r v u (z.mono (λH q=>bJ _ q)) j
   |goto y=>exact kH.mk (e:=.goto y) p r v u (z.mono (λH q=>bJ _ q)) j
   |ret=>exact kH.mk (e:=.ret) p r v u (z.mono (λH q=>bJ _ q)) j
 |cond ad C U ac X=>
  intro hd l b f a w c k s x t
  simp only[vc]at c
  simp only[qB,bL]at hd
  have aj:∀{K:Bool},a.eval ad=.bool K->ku d (uL l ad (if K then .tt else .ff)) a:=by
   intro K F;unfold uL;split
   .rename_i H;refine⟨k.size,k.defers,λR=>?_⟩;simp only[iA];cases Y:Nat.beq H R
    .exact k.aE R
    .have:=br Y;subst this;cases K<;>exact F
   .exact k
  have ak:∀{C:SV},(∀K e N,C≠.box K e N/\C≠.zN K e N)->Bx d (uL l ad C) b:=by
   intro C hx;unfold uL;split
   .exact s.fV hx
   .exact s
  split at c
  .rename_i Z
   exact wp_cond_true (k.eq Z rfl) (Code.wp_mono (λ_ _ _ c=>c.left) (ac hd.1 l b f a w c k s x t))
  .rename_i Z
   exact wp_cond_false (k.eq Z rfl) (Code.wp_mono (λ_ _ _ c=>c.right) (X hd.2 l b f a w c k s x t))
  .rename_i K Z
   have aa:a.eval ad=.bool K:=k.eq Z rfl
   split at c
   .rename_i H y' J
    unfold YH at J
    split at J
    .rename_i O
     cases ai:vm O (oQ U)
     .rw[ai]at J;simp at J
     .rw[ai]at J
      simp only[jO]at J
      split at J
      .rename_i y0 an
       simp at J
       obtain⟨rfl,rfl⟩:=J
       have am:a.tmps.getD O undef=.bool K:=aa
       refine wp_cond_split aa (λq=>?_) (λq=>?_)
       .subst x
        subst q
        refine wp_skip (kH.mk (e:=.normal) (b:=(O,.c (.t (true||y0)))::nN (oQ U) l) ⟨aL,aL⟩ ?_ ((s.nN _).fV aL) t (mN.az _ _) c)
        have F:=Ar (M:=oQ U) k k.size k.defers (mN.az _ a)
        refine⟨F.size,F.defers,λR=>?_⟩
        simp only[iA]
        cases Y:Nat.beq O R
        .exact F.aE R
        .have:=br Y
         subst this
         simpa[SV.Is,SV.v,Ce.v]using am
       .subst q
        have hv:=Uh (g:=g) (h:=h) (G:=G) (o:=o) (d:=d) O (b:=b) (f:=λe B V=>e=.normal/\V=b/\lJ (iA B O)=some y0) U l y0 an (λB V=>⟨rfl,rfl,V⟩)
        refine Code.wp_mono ?_ (X hd.2 l b _ a w hv k s x t)
        intro e I S j
        obtain⟨p,B,r,v,u,z,rfl,ah,al⟩:=j.aT
        refine kH.mk (e:=.normal) (b:=(O,.c (.t (false||y0)))::nN (oQ U) l) p ?_ (by rw[ah];exact(s.nN _).fV aL) u (z.mono (λH q=>eF _ q)) (by rw[ah];exact c)
        have F:=Ar (M:=oQ U) k r.size r.defers z
        refine⟨F.size,F.defers,λR=>?_⟩
        simp only[iA]
        cases Y:Nat.beq O R
        .exact F.aE R
        .have:=br Y
         subst this
         obtain⟨V,W⟩:=wV al
         have h3:=(r.aE O).eq V
         rw[W]at h3
         simpa[SV.Is,SV.v,Ce.v]using h3
      .simp at J
    .simp at J
   .refine wp_cond_split aa (λq=>?_) (λq=>?_)
    .subst q
     exact Code.wp_mono (λ_ _ _ c=>c.left) (ac hd.1 _ b f a w (c.1 rfl) (aj aa) (ak aL) x t)
    .subst q
     exact Code.wp_mono (λ_ _ _ c=>c.right) (X hd.2 _ b f a w (c.2 rfl) (aj aa) (ak aL) x t)
  .exact c.elim
 |block id C J=>
  intro hd l b f a w c k s x t
  simp only[vc]at c
  refine wp_block (Code.wp_mono ?_ (J hd l b _ a w c k s x t))
  intro e I S j
  obtain⟨p,B,r,v,u,z,j⟩:=j.aT
  cases e with
  |exit y=>
   simp only[Exit.inBlock]
   simp only at j
   cases F:Nat.beq y id
   .rw[F]at j
    have q:y≠id:=λe=>by subst e;simp at F
    rw[ae q]
    exact kH.mk (e:=.exit y) p r v u z j
   .rw[F]at j
    rw[ao (br F)]
    exact kH.mk (e:=.normal) ⟨aL,aL⟩ r v u z j
  |normal=>exact kH.mk (e:=.normal) p r v u z j
  |panic D=>exact absurd rfl (p.1 D)
  |outgrown=>exact absurd rfl p.2
  |goto y=>exact kH.mk (e:=.goto y) p r v u z j
  |ret=>exact kH.mk (e:=.ret) p r v u z j
 |loop C J=>
  intro hd l b f a w c k s x t
  subst x
  simp only[vc]at c
  split at c
  .exact c.elim
  .rename_i N hl
   cases ab:pY (oQ C) N
   .rw[ab]at c;exact c.elim
   rw[ab]at c
   obtain⟨O,μ,h0,h1⟩:=c
   let Y:Nat->Act->World->Prop:=λK I w=>∃B H μ',Tl N O μ (nN (oQ C) (uD d (lB o C) l)) B H μ'/\ku d B I/\Bx d B w.heap/\H w.heap/\μ' w.heap=K/\pF i w/\mN (oQ C) a I
   obtain⟨aa,R,μ1,ap,al,ad,aj⟩:=Nz (μ:=μ) k (Ar (k.nN _) k.size k.defers (mN.az (oQ C) a)) (Bx.lB s s (λ_ _=>rfl)) h0
   refine SY Y ?_ (μ1 w.heap) a w ⟨aa,R,μ1,ap,al,ad,aj,rfl,t,mN.az _ _⟩
   rintro K Z w ⟨B,H,μ',hi,r,v,ai,rfl,u,V⟩
   have an:=Nx h1 hi w.heap ai
   refine Code.wp_mono ?_ (J hd B w.heap _ Z w an r v rfl u)
   intro e I S j
   obtain⟨p,ag,q,z,F,W,j⟩:=j.aT
   cases e with
   |normal=>
    obtain⟨af,j⟩:=KU j
    obtain⟨ac,X,μ3,aq,am,ah,ak,ar⟩:=NA q (Ar (k.nN _) q.size q.defers (V.trans W)) (Bx.lB s z af) j
    exact⟨_,ar,ac,X,μ3,aq,am,ah,ak,rfl,F,V.trans W⟩
   |panic D=>exact absurd rfl (p.1 D)
   |outgrown=>exact absurd rfl p.2
   |exit y=>exact kH.mk (e:=.exit y) p q z F (V.trans W) j
   |goto y=>exact kH.mk (e:=.goto y) p q z F (V.trans W) j
   |ret=>exact kH.mk (e:=.ret) p q z F (V.trans W) j
 |exit id=>
  intro hd l b f a w c k s x t
  subst x
  exact wp_exit ⟨l,k,s,t,mN.az _ _,c⟩
 |ret=>
  intro hd l b f a w c k s x t
  subst x
  exact wp_ret ⟨l,k,s,t,mN.az _ _,c⟩
 |rangeFunc j k C U _ _=>intro _ l b f a w c;exact c.elim
 |scope C _=>intro _ l b f a w c;exact c.elim
 |label N=>intro _ l b f a w c;exact c.elim
 |goto N=>intro _ l b f a w c;exact c.elim
 |refuse s=>intro _ l b f a w c;exact c.elim
def uC:Nat->List SV->Fr
 |_,[]=>[]
 |i,x::r=>(i,x)::uC (i+1) r
def Gs(h:TT)(a:Fr)(b:E):List ResultVar->(List SV->Prop)->Prop
 |[],k=>k []
 | .tmp t::r,k=>bif (iA a t).jP then Gs h a b r λl=>k (iA a t::l)else False
 | .cell p t::r,k=>rd h a b (λx=>bif x.jP then Gs h a b r λl=>k (x::l)else False) (.load t (.tmp p))
def Xr(h:TT)(c:List ResultVar)(a:Fr)(b:E)(R:Value->E->Prop):Prop:=
 Gs h a b c λ
  |[x]=>R x.v b
  |l=>R (.tuple (l.map SV.v).toArray) b
def SX(g:Program)(h:TT)(G:List Nat)(o:Ph)(d:Nat)(c:List ResultVar)(f:Code)(e:List SV)(b:E)(R:Value->E->Prop):Prop:=
 vc g h G d o f (uC 0 e) b λ
  | .normal,a,b=>Xr h c a b R
  | .ret,a,b=>Xr h c a b R
  |_,_,_=>False
def HK:∀(a:List SV)(i t:Nat),(t<i/\iA (uC i a) t=.fV)\/(i<=t/\iA (uC i a) t=a.getD (t -i) .fV)
 |[],i,t=>by
  rcases aW t i with h|h
  .exact Or.inl ⟨h,rfl⟩
  .exact Or.inr ⟨h,by simp[uC,iA]⟩
 |x::r,i,t=>by
  simp only[uC,iA];cases c:Nat.beq i t
  .have f:i≠t:=λe=>by subst e;simp at c
   rcases HK r (i+1) t with⟨d,b⟩|⟨d,b⟩
   .exact Or.inl ⟨V,b⟩
   .refine Or.inr ⟨V,?_⟩;have e:t -i=(t -(i+1))+1:=V;rw[e,List.getD_cons_succ];exact b
  .have:=br c;subst this;exact Or.inr ⟨ad _,aL⟩
def LF(a:Array Value):ResultVar->Sem Value
 | .tmp t=>pure (a.getD t undef)
 | .cell p t=>do loadVar t (<-asAddr (a.getD p undef))
def Re(b:Func)(c:Array Value):results b c=(do
 let a<-b.results.mapM (LF c)
 pure (if h:a.size=1 then a[0]else .tuple a)):=by
 unfold results
 congr 2
def Ik{i:Fr}{a:Act}(v:uB g h)(f:ku d i a):∀(D:List ResultVar)(k:List SV->Prop)(w:World),Bx d i w.heap->Gs h i w.heap D k->
 ∃p,k p/\(D.mapM (LF a.tmps)).run g w=.ok (p.map SV.v) w
 |[],k,w,_,b=>⟨[],b,aL⟩
 | .tmp t::A,k,w,j,b=>by
  simp only[Gs]at b;cases c:(iA i t).jP
  .rw[c]at b;exact b.elim
  .rw[c]at b;obtain⟨p,s,u⟩:=Ik v f A _ w j b;refine⟨_,s,?_⟩;have z:=(f.aE t).eq c;have r:LF a.tmps (.tmp t)=pure (a.tmps.getD t undef):=rfl;simp only[Uz,Sem.run_bind,Sem.run_pure,Result.andThen_ok,u,cN,z,r]
 | .cell q t::A,k,w,j,m=>by
  obtain⟨E,B,n,z,b⟩:=Lz (P:=g) v f j ⟨none,.load t (.tmp q),0,"",#[],none⟩ m;have b:=b w (λC _=>rfl);cases x:E.jP
  .rw[x]at n;exact n.elim
  rw[x]at n;obtain⟨p,s,u⟩:=Ik v f A _ w j n;refine⟨_,s,?_⟩;have G:∃c o,a.tmps.getD q undef=.pointer (some ⟨c,o,none⟩):=by
   have l:=SV.Ue (f.aE q);simp only[Gs,rd,ev]at m;split at m
   .rename_i c o y;rw[y]at l;exact⟨c,o,l⟩
   .rename_i C c o y;rw[y]at l;exact⟨c,o,l⟩
   .exact m.elim
  obtain⟨c,o,y⟩:=G;simp only[execOp,Instr.loadAt,Act.eval,y,Instr.sureAddr,Sem.run_bind,Sem.run_pure,Result.andThen_ok]at b;have F:(loadVar t ⟨c,o,none⟩).run g w=.ok B w:=by
   cases C:(loadVar t ⟨c,o,none⟩).run g w with
   |ok I H=>
    rw[C]at b;simp at b;rw[b.1,b.2]
   |halt e H=>rw[C]at b;simp at b
  have H:B=E.v:=z.eq x;have r:(LF a.tmps (.cell q t)).run g w=.ok B w:=by
   simp only[LF,y,Sem.run_bind,asAddr,Sem.run_pure,Result.andThen_ok,F]
  simp only[Uz,Sem.run_bind,Sem.run_pure,Result.andThen_ok,r,u,cN,H]
def xZ(z:uB g h)(K:UO g G)(O:g.follows .mixedOrders=true){y:FuncId}{i:Func}{m:Code}{r:List ResultVar}{a:List SV}{R:Value->E->Prop}
 (N:g.funcs[y]? =some i)(M:i.body=some m)(P:i.ntmps=d)(S:i.results=r.toArray)(A:a.all SV.jP=true)(X:a.length<=d)(hd:qB m=true)
 (j:SX g h G o d r m a b R):aN g y (a.map SV.v) b R:=by
 intro w U
 refine calls_of_wp N M ?_
 have L:ku d (uC 0 a) {tmps:=(a.map SV.v).toArray++Array.replicate (i.ntmps -(a.map SV.v).toArray.size) undef,defers:=[]}:=by
  refine⟨by simp[P];omega,rfl,λt=>?_⟩;rcases HK a 0 t with⟨n,_⟩|⟨_,p⟩
  .omega
  .rw[p,XB];rcases aW t a.length with k|s
   .have u:(a[t]).jP=true:=List.all_eq_true.1 A _ (List.getElem_mem k);have c:a.getD t .fV=a[t]:=by simp[k]
    rw[c];have f:((a.map SV.v).toArray++Array.replicate (i.ntmps -(a.map SV.v).toArray.size) undef).getD t undef=(a[t]).v:=by
     simp[Array.getElem?_append,k]
    rw[f];exact nW _
   .have c:a.getD t .fV=.fV:=by simp[cQ s]
    rw[c];trivial
 have v:∀{q x e l},¬lY (uC 0 a) q x e l:=by
  intro q x e l f;rcases HK a 0 q with⟨n,_⟩|⟨_,p⟩
  .omega
  .unfold lY at f;rw[p,XB]at f;rcases aW q a.length with k|s
   .have u:(a[q]).jP=true:=List.all_eq_true.1 A _ (List.getElem_mem k);have c:a.getD q .fV=a[q]:=by simp[k]
    rw[c]at f;rcases f with f|f<;>rw[f]at u<;>simp[SV.jP]at u
   .have c:a.getD q .fV=.fV:=by simp[cQ s]
    rw[c]at f;simp at f
 have I:Bx d (uC 0 a) b:=⟨λ_ _ _ _ j=>absurd j v,λ_ _ _ _ _ _ _ _ _ j=>absurd j v,λ_ _ _ _ j=>absurd j v⟩
 refine Code.wp_mono ?_ (Uu z K O w m hd _ b _ _ w j L I U (pF.az w))
 intro e s k c
 obtain⟨B,H,u,J,T,W,c⟩:=c.aT
 have C:∀(c:Xr h r H k.heap R),s.defers=[]/\∃D,(results i s.tmps).run g k=.ok D k/\∃F,Ending.returned D=.returned F/\pF w k/\R F k.heap:=by
  intro c;refine⟨u.defers,?_⟩;obtain⟨l,n,p⟩:=Ik z u r _ k J c;have Q:(results i s.tmps).run g k=.ok (if j:(l.map SV.v).toArray.size=1 then(l.map SV.v).toArray[0]else .tuple (l.map SV.v).toArray) k:=by
   rw[Re,S,UH];simp only[Sem.run_bind,Sem.run_map];rw[p];rfl
  refine⟨_,Q,_,rfl,T,?_⟩;cases l with
  |nil=>exact n
  |cons V l=>cases l with
   |nil=>exact n
   |cons Y l=>exact n
 cases e with
 |normal=>exact C c
 |ret=>exact C c
 |exit V=>exact c.elim
 |goto V=>exact c.elim
 |panic m=>exact absurd rfl (B.1 m)
 |outgrown=>exact absurd rfl B.2
end Go.Vc
end
section
namespace Go.Vc
abbrev vi(n:Int):Value:=.int .i64 n
abbrev vb(b:Bool):Value:=.bool b
abbrev vp(b o:Nat):Value:=.pointer (some ⟨b,o,none⟩)
def Ow(f:Func):Code:=
 match f.body with
 |some c=>c
 |none=>.skip
end Go.Vc
end
section
namespace Go.Vc
variable{a p:Prop}{m c d:E}{b o k f n:Nat}{v:Value}{l:List Nat}{s:O}{P:Program}{K e:Value->E->Prop}
structure J(m c:E):Prop where
 size:m.size<=c.size
 same:∀b,b<m.size->c[b]? =m[b]?
def J.az(m:E):J m m:=⟨ad _,λ_ _=>rfl⟩
def J.trans{a b c:E}(h:J a b)(k:J b c):J a c:=
 ⟨bI h.size k.size,λi d=>(k.same i (aO d h.size)).trans (h.same i d)⟩
def J.push(m:E)(o:Obj):J m (m.push o):=
 ⟨aL,λb a=>by rw[mX,ae V]⟩
def J.aK{a:E}(h:J a m)(o:Obj):J a (m.push o):=h.trans (J.push m o)
def J.ah{a:E}(h:J a m)(d:a.size<=b)(o:Nat)(l:List Ce):J a (ah m b o l):=
 ⟨by rw[aw];exact h.size,λj c=>by rw[bd l m b o V];exact h.same j c⟩
def J.af(h:J m c)(a:af m b o=some v):af c b o=some v:=by
 rw[aH (h.same b (mz a))];exact a
def J.iJ(h:J m c){l:List Ce}(e:fR m b o l):fR c b o l:=λi a d=>h.af (e i a d)
def cJ.ext(h:J m c){e:Nat}{l:List Ce}(a:cJ m b e l):cJ c b e l:=by
 unfold cJ at*;rw[h.same b (Array.getElem?_eq_some_iff.1 a).1];exact a
structure eU{α:Type}(m:E)(sz:Nat)(R:List Ce->α->Prop)(s:O)(l:List α):Prop where
 len:s.len=l.length
 cap:s.len<=s.cap
 gY:s.len<=9223372036854775807
 iJ:∀(k:Nat)(x:α),l[k]? =some x->∃cs,R cs x/\fR m s.D (s.off+k*sz) cs
def eU.mono{α:Type}{d:Nat}{R b:List Ce->α->Prop}{l:List α}(h:eU m d R s l)(j:J m c)(g:∀a x,R a x->b a x):eU c d b s l:=
 ⟨h.len,h.cap,h.gY,λk x i=>let⟨a,e,f⟩:=h.iJ k x i;⟨a,g _ _ e,j.iJ f⟩⟩
def UP(a:List Ce)(n:Int):Prop:=a=[.i n]
abbrev ap(m:E)(s:O)(l:List Int):Prop:=eU m 1 UP s l
def ap.aE{l:List Int}(h:ap m s l){x:Int}(a:l[k]? =some x):af m s.D (s.off+k*1)=some (vi x):=by
 obtain⟨c,rfl,b⟩:=h.iJ k x a;exact b 0 (.i x) rfl
def ap.ext(a:J m c){l:List Int}(h:ap m s l):ap c s l:=h.mono a λ_ _ h=>h
def dD{α:Type}{l:List α}(h:k<l.length):∃x,l[k]? =some x:=⟨l[k],by simp[h]⟩
def cK{α:Type}(l:List α)(k:Nat)(h:k<l.length:=by(omega)):∃x,l[k]? =some x:=dD h
def oh(x:a)(h:a->p:=by(omega)):p:=h x
def OS{b:Prop}(x:a)(y:b)(h:a->b->p:=by(omega)):p:=h x y
def sx(h:a=False:=by(simp))(x:a):p:=(h▸x:False).elim
def av{α:Type}{l:List α}{x:α}(h:l[k]? =some x):k<l.length:=(List.getElem?_eq_some_iff.1 h).1
def aU{α:Type}{l:List α}{x:α}(h:l[k]? =some x):l.take (k+1)=l.take k++[x]:=by
 rw[List.take_add_one,h];rfl
def bY{α:Type}{l:List α}(h:l.length<=k):l.take k=l:=nO h
def HA(P:Program)(f:Nat)(a:List Value)(m:E)(v:Value):Prop:=aN P f a m λb c=>b=v/\J m c
def aN.post{a:List Value}(h:aN P f a m K)(b:∀v c,K v c->e v c):aN P f a m e:=h.mono b
def HA.then{a:List Value}(h:HA P f a m v)(d:∀c,J m c->K v c):aN P f a m K:=
 h.mono λ_ _⟨b,e⟩=>b▸d _ e
def O.BR{t:O}:s.v=t.v<->s=t:=by
 refine⟨λh=>?_,λh=>h▸rfl⟩;cases s<;>cases t<;>simp_all [O.v]
def J.dy(h:J m c)(d:∀b∈l,b<m.size):eH l m c:=λb a=>h.same b (d b a)
def J.lt(h:J m c)(a:b<m.size):b<c.size:=aO a h.size
def J.de(h:J m c)(a:Vc.af m b o=some v):Vc.af c b o=Vc.af m b o:=by rw[h.af a,a]
def kN(h:k<n)(a:n<=9223372036854775807):cT ((k:Int)+1)=((k+1:Nat):Int):=by rw[aP V V];rfl
def DF(h:k<n):((n:Int) -((k+1:Nat):Int)).toNat<((n:Int) -(k:Int)).toNat:=V
def dW(g:n<=9223372036854775807){d:(Int->E->Prop)->(Int->E->Nat)->Int->E->Prop}(Q:Nat->E->Prop)(e:Q 0 m)
 (h:∀(k:Nat)(a:E)(I:Int->E->Prop)(μ:Int->E->Nat),k<=n->Q k a->
  (k<n->∀c,Q (k+1) c->I (cT ((k:Int)+1)) c/\μ (cT ((k:Int)+1)) c<μ k a)->d I μ k a):
 ∃(I:Int->E->Prop)(μ:Int->E->Nat),I 0 m/\∀i a,I i a->d I μ i a:=by
 refine⟨λi c=>∃k:Nat,i=k/\k<=n/\Q k c,λi _=>(n -i).toNat,⟨0,rfl,dP _,e⟩,?_⟩
 rintro i a ⟨k,rfl,f,j⟩
 refine h k a _ _ f j λb c l=>?_
 rw[kN b g]
 exact⟨⟨k+1,rfl,b,l⟩,DF b⟩
def eB{σ:Type}(l:n<=9223372036854775807){f:σ}{e:(σ->Int->E->Prop)->(σ->Int->E->Nat)->σ->Int->E->Prop}(Q:Nat->σ->E->Prop)(g:Q 0 f m)
 (h:∀(k:Nat)(s:σ)(a:E)(I:σ->Int->E->Prop)(μ:σ->Int->E->Nat),k<=n->Q k s a->
  (k<n->∀b c,Q (k+1) b c->I b (cT ((k:Int)+1)) c/\μ b (cT ((k:Int)+1)) c<μ s k a)->e I μ s k a):
 ∃(I:σ->Int->E->Prop)(μ:σ->Int->E->Nat),I f 0 m/\∀s i a,I s i a->e I μ s i a:=by
 refine⟨λs i c=>∃k:Nat,i=k/\k<=n/\Q k s c,λ_ i _=>(n -i).toNat,⟨0,rfl,dP _,g⟩,?_⟩
 rintro s i a ⟨k,rfl,j,o⟩
 refine h k s a _ _ j o λd b c p=>?_
 rw[kN d l]
 exact⟨⟨k+1,rfl,d,p⟩,DF d⟩
def dw(P:Program)(f:Nat)(a:List Value)(m:E)(p:Prop):Prop:=aN P f a m λv c=>∃b:Bool,v=.bool b/\(b=true<->p)/\J m c
def dw.then{a:List Value}(h:dw P f a m p)(g:∀(b:Bool) c,(b=true<->p)->J m c->K (.bool b) c):aN P f a m K:=
 h.mono λ_ _⟨b,e,d,i⟩=>e▸g b _ d i
def dw.aI{e:List Value}(i:dw P f e m p)(g:J d m)(q:∀b∈l,b<d.size)
 (o:∀(b:Bool) c,(b=true<->p)->J m c->J d c->K (.bool b) c):aN P f e m λv c=>eH l m c/\K v c:=
 i.mono λ_ _⟨b,n,j,a⟩=>⟨a.dy λh k=>g.lt (q h k),n▸o b _ j a (g.trans a)⟩
def HA.aI{e:List Value}(i:HA P f e m v)(g:J d m)(o:∀b∈l,b<d.size)
 (n:∀c,J m c->J d c->K v c):aN P f e m λv c=>eH l m c/\K v c:=
 i.mono λ_ _⟨k,a⟩=>⟨a.dy λh j=>g.lt (o h j),k▸n _ a (g.trans a)⟩
def aN.aI{a:List Value}(j:aN P f a m K)(o:J d m)(n:∀b∈l,b<d.size)
 (g:∀v c,K v c->J m c/\e v c):aN P f a m λv c=>eH l m c/\e v c:=
 j.mono λv c h=>⟨(g v c h).1.dy λi k=>o.lt (n i k),(g v c h).2⟩
def eV{b:Bool}(h:b=true<->p)(d:J m c):∃a:Bool,Value.bool b=.bool a/\(a=true<->p)/\J m c:=⟨b,rfl,h,d⟩
def bW(h:¬p)(b:J m c):∃a:Bool,Value.bool false=.bool a/\(a=true<->p)/\J m c:=⟨false,rfl,by simp[h],b⟩
def iV(h:p)(b:J m c):∃a:Bool,Value.bool true=.bool a/\(a=true<->p)/\J m c:=⟨true,rfl,by simp[h],b⟩
def nb{b:Bool}(a:b=true<->p)(h:(!b)=true):¬p:=λc=>by simp[a.2 c]at h
def yb{b:Bool}(a:b=true<->p)(h:(!b)=false):p:=a.1 (by simpa using h)
def fb{b:Bool}(a:b=true<->p)(h:b=false):¬p:=λc=>by simp[a.2 c]at h
def bD{α:Type}{l:List α}{x:α}{p:α->Prop}(c:l[k]? =some x)(h:∀y∈l.take k,p y)(b:p x):∀y∈l.take (k+1),p y:=by
 rw[aU c];intro y a;rcases List.mem_append.1 a with a|a
 .exact h y a
 .simp at a;subst a;exact b
def df{α:Type}{l:List α}{p:α->Prop}(a:l.length<=k)(h:∀y∈l.take k,p y):∀y∈l,p y:=by rw[<-bY a];exact h
def aq{α:Type}{l:List α}{x:α}(h:l[k]? =some x):x∈l:=iE h
end Go.Vc
end
section
namespace Go.Vc
variable{m:E}{s:O}{k:Nat}
structure bA where
 tf:Int
 to:Int
 cons:List (List Int)
structure Instr where
 op:Int
 dst:Int
 bQ:Int
 bZ:Int
 args:List Int
 eN:List Int
structure dA where
 params:List Int
 cW:List Int
 aS:Int
 ak:Int
 dv:List Instr
structure cU where
 bq:List bA
 cE:List dA
def na(m:E)(a:List Ce)(c:List Int):Prop:=∃f,a=[.s f]/\ap m f c
def iT(m:E)(a:List Ce)(d:bA):Prop:=∃f,a=[.i d.tf,.i d.to,.s f]/\eU m 1 (na m) f d.cons
def dU(m:E)(b:List Ce)(x:Instr):Prop:=∃a j,b=[.i x.op,.i x.dst,.i x.bQ,.i x.bZ,.s a,.s j]/\ap m a x.args/\ap m j x.eN
def lE(m:E)(b:List Ce)(p:dA):Prop:=
 ∃a l c,b=[.s a,.s l,.i p.aS,.i p.ak,.s c]/\ap m a p.params/\ap m l p.cW/\eU m 6 (dU m) c p.dv
abbrev pA(m:E)(s:O)(l:List (List Int)):Prop:=eU m 1 (na m) s l
abbrev cy(m:E)(s:O)(l:List bA):Prop:=eU m 3 (iT m) s l
abbrev fq(m:E)(s:O)(l:List Instr):Prop:=eU m 6 (dU m) s l
abbrev iz(m:E)(s:O)(l:List dA):Prop:=eU m 5 (lE m) s l
structure fC(m:E)(d p:O)(im:cU):Prop where
 bq:cy m d im.bq
 cE:iz m p im.cE
def na.ext{m b:E}(g:J m b)(a:List Ce)(c:List Int):na m a c->na b a c:=λ⟨f,d,e⟩=>⟨f,d,e.ext g⟩
def pA.ext{m b:E}(a:J m b){s:O}{l:List (List Int)}(h:pA m s l):pA b s l:=h.mono a (na.ext a)
def iT.ext{m b:E}(g:J m b)(a:List Ce)(c:bA):iT m a c->iT b a c:=λ⟨f,d,e⟩=>⟨f,d,pA.ext g e⟩
def cy.ext{m b:E}(a:J m b){s:O}{l:List bA}(h:cy m s l):cy b s l:=h.mono a (iT.ext a)
def dU.ext{m d:E}(b:J m d)(a:List Ce)(c:Instr):dU m a c->dU d a c:=λ⟨e,j,f,g,h⟩=>⟨e,j,f,g.ext b,h.ext b⟩
def fq.ext{m b:E}(a:J m b){s:O}{l:List Instr}(h:fq m s l):fq b s l:=h.mono a (dU.ext a)
def lE.ext{m d:E}(a:J m d)(b:List Ce)(c:dA):lE m b c->lE d b c:=λ⟨e,l,c,f,g,h,i⟩=>⟨e,l,c,f,g.ext a,h.ext a,fq.ext a i⟩
def iz.ext{m b:E}(a:J m b){s:O}{l:List dA}(h:iz m s l):iz b s l:=h.mono a (lE.ext a)
def fC.ext{m c:E}(a:J m c){d p:O}{b:cU}(h:fC m d p b):fC c d p b:=⟨cy.ext a h.bq,iz.ext a h.cE⟩
def pA.aE{l:List (List Int)}(h:pA m s l){x:List Int}(b:l[k]? =some x):
 ∃f,ap m f x/\af m s.D (s.off+k*1)=some (O.v f):=by
 obtain⟨d,⟨f,rfl,a⟩,c⟩:=h.iJ k x b
 exact⟨f,a,c 0 (.s f) rfl⟩
def cy.aE{l:List bA}(h:cy m s l){x:bA}(c:l[k]? =some x):
 ∃f,pA m f x.cons/\af m s.D (s.off+k*3)=some (vi x.tf)/\af m s.D (s.off+k*3+1)=some (vi x.to)/\af m s.D (s.off+k*3+2)=some (O.v f):=by
 obtain⟨d,⟨f,rfl,b⟩,a⟩:=h.iJ k x c
 exact⟨f,b,a 0 (.i x.tf) rfl,a 1 (.i x.to) rfl,a 2 (.s f) rfl⟩
def fq.aE{l:List Instr}(h:fq m s l){x:Instr}(e:l[k]? =some x):
 ∃b j,ap m b x.args/\ap m j x.eN/\af m s.D (s.off+k*6)=some (vi x.op)/\af m s.D (s.off+k*6+1)=some (vi x.dst)/\af m s.D (s.off+k*6+2)=some (vi x.bQ)/\
  af m s.D (s.off+k*6+3)=some (vi x.bZ)/\af m s.D (s.off+k*6+4)=some (O.v b)/\af m s.D (s.off+k*6+5)=some (O.v j):=by
 obtain⟨f,⟨b,j,rfl,c,d⟩,a⟩:=h.iJ k x e
 exact⟨b,j,c,d,a 0 (.i x.op) rfl,a 1 (.i x.dst) rfl,a 2 (.i x.bQ) rfl,a 3 (.i x.bZ) rfl,a 4 (.s b) rfl,a 5 (.s j) rfl⟩
def iz.aE{l:List dA}(h:iz m s l){x:dA}(i:l[k]? =some x):
 ∃a b c,ap m a x.params/\ap m b x.cW/\fq m c x.dv/\af m s.D (s.off+k*5)=some (O.v a)/\af m s.D (s.off+k*5+1)=some (O.v b)/\af m s.D (s.off+k*5+2)=some (vi x.aS)/\
  af m s.D (s.off+k*5+3)=some (vi x.ak)/\af m s.D (s.off+k*5+4)=some (O.v c):=by
 obtain⟨j,⟨a,b,c,rfl,e,f,g⟩,d⟩:=h.iJ k x i
 exact⟨a,b,c,e,f,g,d 0 (.s a) rfl,d 1 (.s b) rfl,d 2 (.i x.aS) rfl,d 3 (.i x.ak) rfl,d 4 (.s c) rfl⟩
end Go.Vc
end
section
namespace Go.Vc
variable{g a:E}{f:Nat}{s:O}{l:List Ce}{d:List (List Ce)}
structure ic(g a:E)(f sz:Nat)(s:O)(l:List Ce):Prop where
 len:l.length=s.len*sz
 aE:s=.nil\/∃b c tail,s=.mk b 0 s.len c/\g.size<=b/\cJ a b f (l++tail)/\(l++tail).length=c*sz/\s.len<=c
def ic.nil(g a:E)(f b:Nat):ic g a f b .nil []:=⟨aL,Or.inl rfl⟩
def ic.new(h:J g a)(f c:Nat)(l:List Ce)(k:Nat)(b:l.length=k*c):ic g (a.push (.cells (bu l) f)) f c (.mk a.size 0 k k) l:=
 ⟨b,Or.inr ⟨a.size,k,[],rfl,h.size,by rw[eg];exact cJ.push _ _ _,by simpa using b,ad _⟩⟩
def ic.congr{g a d:E}{f e:Nat}{s:O}{l:List Ce}(h:ic g a f e s l)(c:d[s.D]? =a[s.D]?):ic g d f e s l:=by
 refine⟨h.len,?_⟩;rcases h.aE with b|⟨i,j,tail,b,h2,h3,h4,h5⟩
 .exact Or.inl b
 .refine Or.inr ⟨i,j,tail,b,h2,h3.congr ?_,h4,h5⟩;rw[b]at c;exact c
def ic.lt{g a:E}{f c:Nat}{s:O}{l:List Ce}(h:ic g a f c s l):s=.nil\/s.D<a.size:=by
 rcases h.aE with b|⟨d,e,tail,b,h2,h3,h4,h5⟩
 .exact Or.inl b
 .rw[b];exact Or.inr h3.lt
def ic.ext{c:E}{d:Nat}(h:ic g a f d s l)(e:J a c):ic g c f d s l:=by
 rcases h.lt with b|b
 .subst b;exact⟨h.len,Or.inl rfl⟩
 .exact h.congr (e.same _ b)
def ic.cz{c:E}{d:Nat}(h:ic c a f d s l)(j:g.size<=c.size):ic g a f d s l:=by
 refine⟨h.len,?_⟩;rcases h.aE with b|⟨e,i,tail,b,h2,h3,h4,h5⟩
 .exact Or.inl b
 .exact Or.inr ⟨e,i,tail,b,bI j h2,h3,h4,h5⟩
def ic.D{c:Nat}(h:ic g a f c s l):s=.nil\/g.size<=s.D:=by
 rcases h.aE with b|⟨d,e,tail,b,h2,h3,h4,h5⟩
 .exact Or.inl b
 .rw[b];exact Or.inr h2
def fR.MV{b o:Nat}{r:List Ce}(h:fR a b o (l++r)):fR a b o l:=λi d c=>h i d (by rw[ax (av c)];exact c)
def ic.iJ{g a:E}{f e:Nat}{s:O}{l:List Ce}(h:ic g a f e s l):fR a s.D s.off l:=by
 rcases h.aE with b|⟨i,c,tail,b,h2,h3,h4,h5⟩
 .have:l=[]:=List.length_eq_zero_iff.1 (by rw[h.len,b];simp);subst this;intro j c d;simp at d
 .rw[b];exact h3.iJ.MV
def Cl(l a tail:List Ce)(h:a.length<=tail.length):jm (l++tail) l.length a=l++a++tail.drop a.length:=by
 apply hO;intro i;rw[wo];simp only[be];by_cases b:l.length<=i/\i<l.length+a.length/\i<l.length+tail.length
 .rw[ao b,fF,aJ b.1,ax V]
 .rw[ae b];by_cases c:i<l.length
  .rw[ax c,fF,ax c]
  .rw[aJ V,fF,aJ V,aJ V,sA];congr 1;omega
def ic.append{zs:List Ce}{v:Nat}{x:O}{d:List Ce}{K:O->E->Prop}(j:ic g a f zs.length s l)(p:J g a)
 (q:d.length=x.len*zs.length)(F:fR a x.D x.off d)(t:(s.len+x.len)*v<=140737488355328)
 (u:∀k n,ic g n f zs.length k (l++d)->J g n->k.len=s.len+x.len->a.size<=n.size->(∀c,c<a.size->(s≠.nil->c≠s.D)->n[c]? =a[c]?)->((s=.nil/\k=.nil)\/(s≠.nil/\k.D=s.D/\k≠.nil)\/k.D=a.size)->K k n):
 jT a f zs v s x K:=by
 refine⟨d,q,F,λC=>?_,λI=>⟨t,l,j.len,j.iJ,λi y=>?_⟩⟩
 .rcases j.aE with h|⟨c,i,tail,h,h2,h3,h4,h5⟩
  .subst h
   have w:x.len=0:=by simpa using C
   have A:d=[]:=List.length_eq_zero_iff.1 (by rw[q,w];simp)
   subst A
   refine⟨λB z=>by simp at z,?_⟩
   exact u .nil _ ⟨by rw[eg];exact j.len,Or.inl rfl⟩ (by simpa[ah]using p) (by simp[w]) (ue (aw _ _ _ _).symm) (λc t _=>by simp[ah]) (Or.inl ⟨rfl,rfl⟩)
  .have z:=j.len
   have H:s.cap=i:=by rw[h];rfl
   rw[h]
   simp only[O.jI,O.nm,O.gK,bV]
   simp only[be]at h4
   have B:d.length<=tail.length:=by
    have A:(s.len+x.len)*zs.length<=i*zs.length:=di _ V;rw[gS]at A;omega
   refine⟨h3.fL (by simp only[be];omega),?_⟩
   have w:=cJ.ah (m:=a) (b:=c) (e:=f) (r:=d) (o:=s.len*zs.length) h3
   rw[<-z,Cl l d tail B]at w
   refine u _ _ ⟨?_,Or.inr ⟨c,i,tail.drop d.length,rfl,h2,?_,?_,?_⟩⟩ (p.ah h2 _ _) aL (ue (aw _ _ _ _).symm) (λG _ D=>bd _ _ _ _ ?_) (Or.inr (Or.inl ⟨by rw[h];simp,by rw[h];rfl,aL⟩))
   .simp only[be,O.gK,gS];omega
   .rw[<-z];exact w
   .simp only[be,List.length_drop];omega
   .simp only[O.gK];omega
   .have:=D (by rw[h];simp)
    rw[h]at this;exact this
 .refine u _ _ ⟨?_,Or.inr ⟨a.size,i,mS zs (i -(s.len+x.len)),rfl,p.size,cJ.push _ _ _,?_,by simpa using y⟩⟩ (p.aK _) aL aL (λc t _=>by rw[mX,ae V]) (Or.inr (Or.inr rfl))
  .simp only[be,O.gK,gS,j.len,q]
  .simp only[be,rQ,j.len,q]
   rw[Nat.sub_mul,<-gS]
   have:(s.len+x.len)*zs.length<=i*zs.length:=di _ y
   omega
def ap.gB{l:List Int}(h:ic g a f 1 s (l.map Ce.i))(n:l.length<=9223372036854775807):ap a s l:=by
 have i:s.len=l.length:=by have:=h.len;simp at this;omega
 refine⟨i,?_,V,λk x e=>⟨[.i x],rfl,λj d c=>?_⟩⟩
 .rcases h.aE with b|⟨m,d,tail,b,h2,h3,h4,h5⟩
  .rw[b];exact ad _
  .rw[b];exact h5
 .have b:j=0:=by have:=av c;simp at this;omega
  subst b;simp at c;subst c;have:=h.iJ k (.i x) (by simp[e]);simpa using this
def fY{g:Nat}:∀{d:List (List Ce)}(_:∀a∈d,a.length=g){b:Nat}{a:List Ce}(_:d[b]? =some a){i:Nat}{c:Ce}(_:a[i]? =some c),d.flatten[b*g+i]? =some c
 |[],_,b,a,h,_,_,_=>by simp at h
 |x::d,f,0,a,h,i,c,e=>by
  simp at h;subst h;rw[jK,QB,bV,ax (av e)];exact e
 |x::d,f,b+1,a,h,i,c,e=>by
  have k:x.length=g:=f x bg;rw[jK,aJ (by rw[k,gS];omega)];have:=fY (d:=d) (λy l=>f y (ai _ l)) (b:=b) (by simpa using h) e;rw[<-this];congr 1;rw[k,gS];omega
def cw{b:Nat}:∀{d:List (List Ce)},(∀a∈d,a.length=b)->d.flatten.length=d.length*b
 |[],_=>aL
 |x::d,a=>by
  rw[jK,be,cw (λy c=>a y (ai _ c)),a x bg,ba,gS];omega
structure gV{α:Type}(sz:Nat)(R:List Ce->α->Prop)(d:List (List Ce))(l:List α):Prop where
 len:d.length=l.length
 size:∀cs∈d,cs.length=sz
 dB:∀(j:Nat)(cs:List Ce)(x:α),d[j]? =some cs->l[j]? =some x->R cs x
def gV.nil{α:Type}(a:Nat)(R:List Ce->α->Prop):gV a R [] []:=⟨rfl,aL,aL⟩
def gV.yQ{α:Type}{f:Nat}{R:List Ce->α->Prop}{l:List α}(h:gV f R d l){cs:List Ce}{x:α}(i:cs.length=f)(k:R cs x):gV f R (d++[cs]) (l++[x]):=by
 refine⟨by simp[h.len],λe a=>?_,λj e y a b=>?_⟩
 .rcases List.mem_append.1 a with a|a
  .exact h.size e a
  .simp at a;subst a;exact i
 .rcases aW j d.length with c|c
  .rw[ax c]at a;rw[ax (h.len▸c)]at b;exact h.dB j e y a b
  .rw[aJ c]at a;rw[aJ (by rw[<-h.len];exact c),<-h.len]at b;have g:j -d.length=0:=by have:=av a;simp at this;omega
   rw[g]at a b;simp at a b;subst a;subst b;exact k
def gV.mono{α:Type}{c:Nat}{R b:List Ce->α->Prop}{l:List α}(h:gV c R d l)(g:∀a x,R a x->b a x):gV c b d l:=
 ⟨h.len,h.size,λj a x e f=>g _ _ (h.dB j a x e f)⟩
def eU.gB{α:Type}{e:Nat}{R:List Ce->α->Prop}{l:List α}(h:ic g a f e s d.flatten)(c:gV e R d l)(q:0<e)(t:l.length<=9223372036854775807):eU a e R s l:=by
 have p:s.len=l.length:=by
  have b:=h.len;rw[cw c.size]at b;have:=UA q b;rw[<-this,c.len]
 refine⟨p,?_,V,λk x n=>?_⟩
 .rcases h.aE with b|⟨j,i,tail,b,h2,h3,h4,h5⟩
  .rw[b];exact ad _
  .rw[b];exact h5
 .let⟨j,m⟩:=cK d k (by rw[c.len];exact av n);refine⟨j,c.dB k j x m n,λr i o=>?_⟩;have:=h.iJ (k*e+r) i (fY c.size m o);rwa[<-dk]at this
end Go.Vc
end
section
namespace Go.Vc
variable{S c:List Nat}{m a d:E}{b o e:Nat}{l:List Ce}{s:O}
def bH(S:List Nat)(m:E):E:=m.mapIdx λb o=>if b∈S then .cells #[] 0 else o
def Le(M a:E):Prop:=∀b o v,af M b o=some v->af a b o=some v
def eR{v:Value}:af (bH S m) b o=some v<->b∉S/\af m b o=some v:=by
 unfold af bH;rw[XQ];cases h:m[b]? with
 |none=>simp
 |some x=>by_cases a:b∈S<;>simp[a]
def Le.az(m:E):Le m m:=λ_ _ _ h=>h
def Le.trans{a b c:E}(h:Le a b)(k:Le b c):Le a c:=λx o v d=>k x o v (h x o v d)
def J.le(h:J m a):Le m a:=λ_ _ _ b=>h.af b
def bC(S:List Nat)(m:E):Le (bH S m) m:=λ_ _ _ h=>(eR.1 h).2
def pM(h:∀b,b<m.size->b∉S->b∉c/\a[b]? =m[b]?):Le (bH S m) (bH c a):=λb o v i=>by
 let⟨e,d⟩:=eR.1 i;let⟨f,g⟩:=h b (mz d) e;exact eR.2 ⟨f,by rw[aH g];exact d⟩
def J.bH(h:J m a)(d:∀b∈c,b∈S\/m.size<=b):Le (bH S m) (bH c a):=
 pM λb e g=>⟨λf=>(d b f).elim g λh=>V,h.same b e⟩
def J.dh(h:J m a)(S:List Nat):Le (Vc.bH S m) (Vc.bH S a):=h.bH λ_ b=>Or.inl b
def iZ(m:E)(a:∀b∈c,b∈S):Le (bH S m) (bH c m):=(J.az m).bH λb d=>Or.inl (a b d)
def Le.iJ{M a:E}(h:Le M a)(e:fR M b o l):fR a b o l:=λi c d=>h _ _ _ (e i c d)
def eU.le{α:Type}{d:Nat}{R c:List Ce->α->Prop}{l:List α}(h:eU m d R s l)(j:Le m a)(g:∀b x,R b x->c b x):eU a d c s l:=
 ⟨h.len,h.cap,h.gY,λk x i=>let⟨b,e,f⟩:=h.iJ k x i;⟨b,g _ _ e,j.iJ f⟩⟩
def ap.le{m a:E}(b:Le m a){s:O}{l:List Int}(h:ap m s l):ap a s l:=eU.le h b λ_ _ h=>h
def na.le{m a:E}(g:Le m a)(b:List Ce)(c:List Int):na m b c->na a b c:=λ⟨f,d,e⟩=>⟨f,d,e.le g⟩
def iT.le{m a:E}(d:Le m a)(b:List Ce)(c:bA):iT m b c->iT a b c:=λ⟨f,e,g⟩=>⟨f,e,eU.le g d (na.le d)⟩
def cy.le{m a:E}(b:Le m a){s:O}{l:List bA}(h:cy m s l):cy a s l:=eU.le h b (iT.le b)
def Kq(a:b∉S)(h:fR m b o l):fR (bH S m) b o l:=λi c d=>eR.2 ⟨a,h i c d⟩
def eU.Q8{α:Type}{a:Nat}{R:List Ce->α->Prop}{c:List (List Ce)}{l:List α}(o:∀b∈S,b<d.size)(h:ic d m e a s c.flatten)(q:gV a R c l)(r:0<a)(p:l.length<=9223372036854775807):eU (bH S m) a R s l:=by
 have H:=eU.gB h q r p;refine⟨H.len,H.cap,H.gY,λt x i=>?_⟩;let⟨j,k,n⟩:=H.iJ t x i;rcases h.D with f|f
 .have g:=H.len;have:=av i;rw[f]at g;simp at g;omega
 .exact⟨j,k,Kq (λg=>oh (o _ g)) n⟩
def ap.Q8{l:List Int}(k:∀b∈S,b<d.size)(h:ic d m e 1 s (l.map Ce.i))(n:l.length<=9223372036854775807):ap (bH S m) s l:=by
 have H:=ap.gB h n;refine⟨H.len,H.cap,H.gY,λo x f=>?_⟩;let⟨g,i,j⟩:=H.iJ o x f;rcases h.D with a|a
 .have c:=H.len;have:=av f;rw[a]at c;simp at c;omega
 .exact⟨g,i,Kq (λc=>oh (k _ c)) j⟩
end Go.Vc
end
section
namespace Go.Vc
variable{X Y S:List Nat}{a b c m d:E}{f:List Ce}{s:O}{k:Nat}
structure Fz(X:List Nat)(m d:E):Prop where
 size:m.size<=d.size
 same:∀b,b<m.size->b∉X->d[b]? =m[b]?
def Fz.az(X:List Nat)(m:E):Fz X m m:=⟨ad _,λ_ _ _=>rfl⟩
def Fz.sq(h:Fz X a b)(k:Fz Y b c)(g:∀y∈Y,y∈X\/a.size<=y):Fz X a c:=
 ⟨bI h.size k.size,λi d e=>(k.same i (aO d h.size) λf=>(g i f).elim e λh=>V).trans (h.same i d e)⟩
def Fz.trans(h:Fz X a b)(k:Fz X b c):Fz X a c:=h.sq k λ_ d=>Or.inl d
def J.fz(h:J m d)(X:List Nat):Fz X m d:=⟨h.size,λb a _=>h.same b a⟩
def Fz.then(h:Fz X a b)(k:J b c):Fz X a c:=h.trans (k.fz X)
def Fz.push{X:List Nat}{a m:E}(h:Fz X a m)(o:Obj):Fz X a (m.push o):=h.then (J.push m o)
def Fz.ext(h:Fz [] m d):J m d:=⟨h.size,λb a=>h.same b a aL⟩
def Fz.DP(h:Fz X m d)(f:∀b∈X,b∈Y\/m.size<=b):Fz Y m d:=⟨h.size,λb a e=>h.same b a λc=>(f b c).elim e λh=>V⟩
def Fz.ah(h:Fz X a m){b:Nat}(c:b∈X\/a.size<=b)(o:Nat)(l:List Ce):Fz X a (ah m b o l):=
 ⟨by rw[aw];exact h.size,λj f d=>by
  have e:j≠b:=λe=>by subst e;exact c.elim d λc=>V
  rw[bd l m b o e];exact h.same j f d⟩
def Fz.bH(h:Fz X m d){a:List Nat}(f:∀b∈X,b∈S)(e:∀b∈a,b∈S\/m.size<=b):Le (bH S m) (bH a d):=
 pM λb g c=>⟨λi=>(e b i).elim c λh=>V,h.same b g λj=>c (f b j)⟩
def Fz.dh(h:Fz X m d)(a:∀b∈X,b∈S):Le (Vc.bH S m) (Vc.bH S d):=h.bH a λ_ h=>Or.inl h
def Fz.dy(h:Fz X m d){l:List Nat}(c:∀b∈l,b<m.size/\b∉X):eH l m d:=λb a=>h.same b (c b a).1 (c b a).2
inductive Ex where
 |mk (op bQ:Int) (bE:List Ex)
def Ex.op:Ex->Int| .mk o _ _=>o
def Ex.bQ:Ex->Int| .mk _ n _=>n
def Ex.bE:Ex->List Ex| .mk _ _ k=>k
structure MC(β:Type)where
 op:Int
 bQ:Int
 bZ:Int
 args:List Int
 bE:List β
inductive Bk where
 |mk (aD:List (MC Bk)) (aS:Int)
abbrev cY:=MC Bk
def Bk.aD:Bk->List cY| .mk s _=>s
def Bk.aS:Bk->Int| .mk _ r=>r
@[simp] theorem Ex.V6 (o n:Int) (k:List Ex):(Ex.mk o n k).op=o:=rfl
@[simp] theorem Ex.Uf (o n:Int) (k:List Ex):(Ex.mk o n k).bQ=n:=rfl
@[simp] theorem Ex.RW (o n:Int) (k:List Ex):(Ex.mk o n k).bE=k:=rfl
@[simp] theorem Bk.j7 (s:List cY) (r:Int):(Bk.mk s r).aD=s:=rfl
@[simp] theorem Bk.jD (s:List cY) (r:Int):(Bk.mk s r).aS=r:=rfl
inductive BW(m:E):List Ce->Ex->Prop
 |mk (op bQ:Int) (bE:List Ex) (s:O) (css:Nat->List Ce) (hl:s.len=bE.length) (hc:s.len<=s.cap) (hm:s.len<=9223372036854775807)
  (hr:∀(k:Nat)(x:Ex),bE[k]? =some x->fR m s.D (s.off+k*3) (css k)) (hk:∀(k:Nat)(x:Ex),bE[k]? =some x->BW m (css k) x):BW m [.i op,.i bQ,.s s] (.mk op bQ bE)
inductive rT(m:E):List Ce->Bk->Prop
 |mk (aD:List (MC Bk)) (r:Int) (s:O) (hl:s.len=aD.length) (hc:s.len<=s.cap) (hm:s.len<=9223372036854775807) (aa ks:Nat->O) (kcs:Nat->Nat->List Ce)
  (hr:∀(k:Nat)(x:MC Bk),aD[k]? =some x->fR m s.D (s.off+k*5) [.i x.op,.i x.bQ,.i x.bZ,.s (aa k),.s (ks k)]/\ap m (aa k) x.args/\(ks k).len=x.bE.length/\(ks k).len<=(ks k).cap/\(ks k).len<=9223372036854775807)
  (hb:∀(k:Nat)(x:MC Bk)(j:Nat)(b:Bk),aD[k]? =some x->x.bE[j]? =some b->fR m (ks k).D ((ks k).off+j*2) (kcs k j))
  (hk:∀(k:Nat)(x:MC Bk)(j:Nat)(b:Bk),aD[k]? =some x->x.bE[j]? =some b->rT m (kcs k j) b):rT m [.s s,.i r] (.mk aD r)
def gH(m:E)(f:List Ce)(x:cY):Prop:=∃a k,f=[.i x.op,.i x.bQ,.i x.bZ,.s a,.s k]/\ap m a x.args/\eU m 2 (rT m) k x.bE
abbrev fH(m:E)(s:O)(l:List Ex):Prop:=eU m 3 (BW m) s l
abbrev eQ(m:E)(s:O)(l:List cY):Prop:=eU m 5 (gH m) s l
abbrev nQ(m:E)(s:O)(l:List Bk):Prop:=eU m 2 (rT m) s l
def BW.le(h:Le m d){e:Ex}(a:BW m f e):BW d f e:=by
 induction a with
 |mk n bQ bE s b g c i a o l=>exact .mk n bQ bE s b g c i (λk x j=>h.iJ (a k x j)) l
def rT.le{m d:E}(h:Le m d){f:List Ce}{b:Bk}(a:rT m f b):rT d f b:=by
 induction a with
 |mk aD t s o n p e ks r a l u q=>
  exact .mk aD t s o n p e ks r (λk x c=>let⟨g,i,j⟩:=a k x c;⟨h.iJ g,i.le h,j⟩) (λk x j b c g=>h.iJ (l k x j b c g)) q
def eU.choose{α:Type}{m:E}{a:Nat}{R:List Ce->α->Prop}{s:O}{l:List α}(h:eU m a R s l):
 ∃b:Nat->List Ce,∀(k:Nat)(x:α),l[k]? =some x->R (b k) x/\fR m s.D (s.off+k*a) (b k):=by
 have:∀k:Nat,∃f:List Ce,∀x:α,l[k]? =some x->R f x/\fR m s.D (s.off+k*a) f:=λk=>by
  cases e:l[k]? with
  |none=>exact⟨[],λx c=>by simp at c⟩
  |some x=>obtain⟨f,d⟩:=h.iJ k x e;exact⟨f,λy c=>by simp at c;exact c▸d⟩
 exact⟨λk=>Classical.choose (this k),λk=>fN (this k)⟩
def BW.aT{e:Ex}(h:BW m f e):∃s,f=[.i e.op,.i e.bQ,.s s]/\fH m s e.bE:=by
 cases h with
 |mk l bQ bE s b g c i j d=>exact⟨s,rfl,g,c,i,λk x a=>⟨b k,d k x a,j k x a⟩⟩
def BW.of{b bQ:Int}{bE:List Ex}(h:fH m s bE):BW m [.i b,.i bQ,.s s] (.mk b bQ bE):=by
 let⟨d,c⟩:=h.choose;exact .mk b bQ bE s d h.len h.cap h.gY (λk x a=>(c k x a).2) λk x a=>(c k x a).1
def rT.aT{b:Bk}(h:rT m f b):∃s,f=[.s s,.i b.aS]/\eQ m s b.aD:=by
 cases h with
 |mk aD w s r p t d ks v u o q=>
  exact⟨s,rfl,r,p,t,λk x a=>let⟨e,g,i,l,n⟩:=u k x a;⟨_,⟨d k,ks k,rfl,g,i,l,n,λj b c=>⟨v k j,q k x j b a c,o k x j b a c⟩⟩,e⟩⟩
def rT.of{r:Int}{aD:List cY}(h:eQ m s aD):rT m [.s s,.i r] (.mk aD r):=by
 let⟨n,l⟩:=h.choose;have:∀k:Nat,∃(a c:O)(kc:Nat->List Ce),∀x:cY,aD[k]? =some x->n k=[.i x.op,.i x.bQ,.i x.bZ,.s a,.s c]/\ap m a x.args/\(c.len=x.bE.length/\c.len<=c.cap/\c.len<=9223372036854775807)/\
  ∀(j:Nat)(b:Bk),x.bE[j]? =some b->rT m (kc j) b/\fR m c.D (c.off+j*2) (kc j):=λk=>by
  cases o:aD[k]? with
  |none=>exact⟨.nil,.nil,λ_=>[],λx d=>by simp at d⟩
  |some x=>
   obtain⟨⟨a,c,f,g,e⟩,_⟩:=l k x o
   let⟨kc,p⟩:=e.choose
   exact⟨a,c,kc,λy i=>by simp at i;subst i;exact⟨f,g,⟨e.len,e.cap,e.gY⟩,p⟩⟩
 have H:=λk=>fN (fN (fN (this k)));refine .mk aD r s h.len h.cap h.gY (λk=>Classical.choose (this k)) (λk=>Classical.choose (fN (this k))) (λk=>Classical.choose (fN (fN (this k)))) (λk x d=>?_) (λk x j b d i=>((H k x d).2.2.2 j b i).2) λk x j b d i=>((H k x d).2.2.2 j b i).1;obtain⟨f,g,e,_⟩:=H k x d;exact⟨by rw[<-f];exact(l k x d).2,g,e⟩
def gH.le{m d:E}(h:Le m d){f:List Ce}{x:cY}:gH m f x->gH d f x:=λ⟨a,k,b,c,e⟩=>⟨a,k,b,c.le h,eU.le e h λ_ _=>rT.le h⟩
def fH.le{m d:E}(a:Le m d){s:O}{l:List Ex}(h:fH m s l):fH d s l:=eU.le h a λ_ _=>BW.le a
def eQ.le{m d:E}(a:Le m d){s:O}{l:List cY}(h:eQ m s l):eQ d s l:=eU.le h a λ_ _=>gH.le a
def nQ.le{m d:E}(a:Le m d){s:O}{l:List Bk}(h:nQ m s l):nQ d s l:=eU.le h a λ_ _=>rT.le a
def fH.aE{l:List Ex}(h:fH m s l){x:Ex}(b:l[k]? =some x):
 ∃t,fH m t x.bE/\af m s.D (s.off+k*3)=some (vi x.op)/\af m s.D (s.off+k*3+1)=some (vi x.bQ)/\af m s.D (s.off+k*3+2)=some (O.v t):=by
 let⟨f,d,a⟩:=h.iJ k x b
 obtain⟨t,rfl,c⟩:=d.aT
 exact⟨t,c,a 0 _ rfl,a 1 _ rfl,a 2 _ rfl⟩
def eQ.aE{l:List cY}(h:eQ m s l){x:cY}(e:l[k]? =some x):
 ∃a t,ap m a x.args/\nQ m t x.bE/\af m s.D (s.off+k*5)=some (vi x.op)/\af m s.D (s.off+k*5+1)=some (vi x.bQ)/\af m s.D (s.off+k*5+2)=some (vi x.bZ)/\af m s.D (s.off+k*5+3)=some (O.v a)/\af m s.D (s.off+k*5+4)=some (O.v t):=by
 obtain⟨f,⟨a,t,rfl,c,d⟩,b⟩:=h.iJ k x e
 exact⟨a,t,c,d,b 0 _ rfl,b 1 _ rfl,b 2 _ rfl,b 3 _ rfl,b 4 _ rfl⟩
def nQ.aE{l:List Bk}(h:nQ m s l){x:Bk}(b:l[k]? =some x):
 ∃t,eQ m t x.aD/\af m s.D (s.off+k*2)=some (O.v t)/\af m s.D (s.off+k*2+1)=some (vi x.aS):=by
 let⟨f,d,a⟩:=h.iJ k x b
 obtain⟨t,rfl,c⟩:=d.aT
 exact⟨t,c,a 0 _ rfl,a 1 _ rfl⟩
def Bk.w:Bk->Nat
 | .mk aD _=>1+(aD.map λs=>1+s.args.length+(s.bE.map Bk.w).sum).sum
decreasing_by
 rename_i s a _ _
 have b:=oV a
 have c:=oV (by assumption:_∈s.bE)
 have d:SizeOf.sizeOf s.bE<SizeOf.sizeOf s:=by cases s;simp;omega
 simp;omega
def MC.w(s:MC Bk):Nat:=1+s.args.length+(s.bE.map Bk.w).sum
def Bk.Zh(b:Bk):b.w=1+(b.aD.map MC.w).sum:=by
 cases b;rw[Bk.w];rfl
def Ex.n:Ex->Nat
 | .mk _ _ bE=>1+(bE.map Ex.n).sum
end Go.Vc
end
section
namespace Go.Vc
variable{S Y S' X:List Nat}{d a c:E}{b k n h tb:Nat}{s x:O}{g cs i:List Ce}{f:List (List Ce)}{K:O->E->Prop}
structure oK{α:Type}(sz:Nat)(R:E->List Ce->α->Prop):Prop where
 le:∀{M M':E}{cs:List Ce}{x:α},Le M M'->R M cs x->R M' cs x
 len:∀{M:E}{cs:List Ce}{x:α},R M cs x->cs.length=sz
def uf(_:E)(cs:List Ce)(n:Int):Prop:=UP cs n
def uf.mono:oK 1 uf:=⟨λ_ h=>h,λh=>by rw[h];rfl⟩
def BW.mono:oK 3 BW:=⟨λh=>BW.le h,λh=>by obtain⟨s,rfl,_⟩:=h.aT;rfl⟩
def rT.mono:oK 2 rT:=⟨λh=>rT.le h,λh=>by obtain⟨s,rfl,_⟩:=h.aT;rfl⟩
def gH.mono:oK 5 gH:=⟨λh=>gH.le h,λh=>by obtain⟨_,_,rfl,_⟩:=h;rfl⟩
structure Gr{α:Type}(S:List Nat)(d a:E)(b sz:Nat)(R:E->List Ce->α->Prop)(s:O)(l:List α):Prop where
 je:s≠.nil
 aR:∃f,ic d a b sz s f.flatten/\gV sz (R (bH (s.D::S) a)) f l
def Gr.len{α:Type}{S:List Nat}{d a:E}{b e:Nat}{R:E->List Ce->α->Prop}{s:O}{l:List α}(h:Gr S d a b e R s l)(i:0<e):s.len=l.length:=by
 obtain⟨_,f,g,c⟩:=h;have:=g.len;rw[cw c.size]at this;rw[<-c.len,UA i this]
def Gr.bn{α:Type}{g:Nat}{R:E->List Ce->α->Prop}{l:List α}(h:Gr S d a b g R s l):d.size<=s.D/\s.D<a.size:=by
 let⟨c,f,e,i⟩:=h;exact⟨e.D.resolve_left c,e.lt.resolve_left c⟩
def Gr.new{α:Type}(S:List Nat){d a:E}(h:d.size<=a.size)(b c:Nat)(R:E->List Ce->α->Prop):Gr S d (a.push (.cells (bu []) b)) b c R (.mk a.size 0 0 0) []:=
 ⟨aL,[],(ic.new (J.az a) b c [] 0 aL).cz h,gV.nil _ _⟩
def Gr.eC{α:Type}{g:Nat}{R:E->List Ce->α->Prop}{l:List α}(o:oK g R)(h:Gr S d a b g R s l)(j:Fz Y a c)(i:∀e∈Y,e∈S/\e<d.size):Gr S d c b g R s l:=by
 have q:=h.bn;let⟨k,f,m,n⟩:=h;refine⟨k,f,m.congr (j.same _ q.2 λp=>oh ((i _ p).2)),n.mono λcs x=>o.le ?_⟩;exact j.dh λe p=>ai _ (i e p).1
def Gr.NH{α:Type}{g:Nat}{R:E->List Ce->α->Prop}{l:List α}(n:oK g R)(h:Gr S d a b g R s l)(i:Fz Y a c)(o:∀e∈Y,e∈S)(q:s.D∉Y):Gr S d c b g R s l:=by
 have r:=h.bn;let⟨j,f,k,m⟩:=h;exact⟨j,f,k.congr (i.same _ r.2 q),m.mono λcs x=>n.le (i.dh λe p=>ai _ (o e p))⟩
def Gr.re{α:Type}{h:Nat}{R:E->List Ce->α->Prop}{l:List α}(o:oK h R)(i:Gr S d a b h R s l)(j:Fz Y a c)(q:∀e∈Y,e∈S)(r:s.D∉Y)(p:∀e∈S',e∈S\/a.size<=e):Gr S' d c b h R s l:=by
 have t:=i.bn;let⟨k,f,m,n⟩:=i;refine⟨k,f,m.congr (j.same _ t.2 r),n.mono λcs x=>o.le (j.bH (λe g=>ai _ (q e g)) λe g=>?_)⟩;rcases List.mem_cons.1 g with g|g
 .exact Or.inl (by rw[g];exact bg)
 .exact(p e g).imp (ai _) id
def Gr.ext{α:Type}{e:Nat}{R:E->List Ce->α->Prop}{l:List α}(f:oK e R)(h:Gr S d a b e R s l)(g:J a c):Gr S d c b e R s l:=
 h.eC f (g.fz []) aL
def Gr.done{α:Type}{c:Nat}{R:E->List Ce->α->Prop}{l:List α}(j:oK c R)(h:Gr S d a b c R s l)(k:∀e∈S,e<d.size)(o:0<c)(n:l.length<=9223372036854775807):eU (bH S a) c (R (bH S a)) s l:=by
 obtain⟨_,f,g,i⟩:=h;exact eU.Q8 k g (i.mono λcs x=>j.le (iZ a λe m=>ai _ m)) o n
def J.MV(h:k<=a.size):J (a.extract 0 k) a:=by
 refine⟨bF,λb c=>?_⟩;have d:b<k:=by simp at c;omega
 rw[Array.getElem?_extract];simp;omega
def mC(h:k<=a.size):(a.extract 0 k).size=k:=bF
def Gr.next{α:Type}{F:Nat}{R:E->List Ce->α->Prop}{C D:List α}(G:oK g.length R)(W:0<g.length)
 (y:Gr S d a b g.length R s C)(H:Fz X d a)(u:x.len=f.length)(T:fR a x.D x.off f.flatten)(n:gV g.length (R (bH (s.D::S) a)) f D)(i:(C.length+D.length)*F<=140737488355328)
 (P:∀r c,Gr S d c b g.length R r (C++D)->Fz X d c->(a.size<=c.size/\(r.D=s.D\/a.size<=r.D))->(∀e,e<a.size->e≠s.D->c[e]? =a[e]?)->K r c):jT a b g F s x K:=by
 have Q:=y.len W
 have hy:=y.bn
 let⟨z,w,O,j⟩:=y
 have q:d.size<=a.size:=H.size
 refine ic.append (g:=a.extract 0 d.size) (zs:=g) (d:=f.flatten) (l:=w.flatten) (O.cz (by rw[mC q];exact ad _)) (J.MV q) ?_ T (by rw[Q,u,n.len];exact i) λr c Y k2 k3 Z k5 B=>?_
 .rw[cw n.size,u]
 have A:∀e,e<a.size->e≠s.D->c[e]? =a[e]? :=λe i k=>k5 e i λ_=>k
 have U:r≠.nil:=by
  rcases B with⟨h,_⟩|⟨_,_,h⟩|h
  .exact absurd h z
  .exact h
  .intro b;rw[b]at h;simp at h;omega
 have L:a.size<=c.size:=Z
 have I:Le (bH (s.D::S) a) (bH (r.D::S) c):=pM λe i k=>by
  simp only[aV,vG]at k;refine⟨?_,A e i k.1⟩;simp only[aV,vG];refine⟨?_,k.2⟩;rcases B with⟨h,_⟩|⟨_,h,_⟩|h
  .exact absurd h z
  .rw[h];exact k.1
  .omega
 refine P r c ⟨U,w++f,?_,?_⟩ ⟨bI q L,λe i u=>?_⟩ ⟨L,?_⟩ A
 .rw[qR]
  exact Y.cz (by rw[mC q];exact ad _)
 .refine⟨by simp[j.len,n.len],λm o=>?_,λM m N t v=>?_⟩
  .rcases List.mem_append.1 o with o|o
   .exact j.size m o
   .exact n.size m o
  .rcases aW M w.length with p|p
   .rw[ax p]at t
    rw[ax (j.len▸p)]at v
    exact G.le I (j.dB M m N t v)
   .rw[aJ p]at t
    rw[aJ (by rw[<-j.len];exact p),<-j.len]at v
    exact G.le I (n.dB _ m N t v)
 .rw[A e (aO i q) V];exact H.same e i u
 .rcases B with⟨h,_⟩|⟨_,h,_⟩|h
  .exact absurd h z
  .exact Or.inl h
  .exact Or.inr V
def Gr.kV{α:Type}{n:Nat}{R:E->List Ce->α->Prop}{m:List α}{k:α}(i:oK g.length R)(z:0<g.length)
 (q:Gr S d a b g.length R s m)(w:Fz X d a)(p:R (bH (s.D::S) a) cs k)(j:(m.length+1)*n<=140737488355328)
 (x:∀r c,Gr S d c b g.length R r (m++[k])->Fz X d c->(a.size<=c.size/\(r.D=s.D\/a.size<=r.D))->(∀f,f<a.size->f≠s.D->c[f]? =a[f]?)->K r c):jT (a.push (.cells (bu cs) b)) b g n s (.mk a.size 0 1 1) K:=by
 have h:=J.push a (.cells (bu cs) b)
 refine Gr.next (f:=[cs]) (D:=[k]) i z (q.ext i h) (w.then h) rfl ?_ ?_ j λr c t u o v=>x r c t u ⟨bI h.size o.1,o.2.imp id (bI h.size)⟩ λf j y=>(v f (aO j h.size) y).trans (h.same f j)
 .have:=(cJ.push a (e:=b) (l:=cs)).iJ
  simpa using this
 .have:=gV.yQ (gV.nil g.length (R (bH (s.D::S) (a.push (.cells (bu cs) b))))) (i.len p) (i.le (h.dh _) p)
  simpa using this
def eU.V8{α:Type}{b:Nat}{R:List Ce->α->Prop}{l:List α}(z:∀cs x,R cs x->cs.length=b)(r:eU a b R s l):
 ∃f,s.len=f.length/\fR a s.D s.off f.flatten/\gV b R f l:=by
 let⟨e,k⟩:=r.choose
 have w:∀(c:Nat)(cs:List Ce),((List.range l.length).map e)[c]? =some cs->c<l.length/\cs=e c:=λc cs d=>by
  simp only[cL,jN]at d;let⟨E,o,B⟩:=d;let⟨t,u⟩:=List.getElem?_eq_some_iff.1 o;simp at t u;subst u;exact⟨t,B.symm⟩
 have m:∀cs∈(List.range l.length).map e,cs.length=b:=λcs D=>by
  let⟨c,d⟩:=List.mem_iff_getElem?.1 D;obtain⟨o,rfl⟩:=w c cs d;let⟨x,h⟩:=dD o;exact z _ _ (k c x h).1
 refine⟨(List.range l.length).map e,by simp[r.len],λi A q=>?_,aL,m,λc cs x d h=>?_⟩
 .rcases km b with n|n
  .have g:=av q
   rw[cw m,n]at g;simp at g
  have g:=av q
  rw[cw m]at g
  simp at g
  have d:i/b<l.length:=Nat.div_lt_of_lt_mul (by rw[Nat.mul_comm];exact g)
  let⟨x,h⟩:=dD d
  have y:i=i/b*b+i%b:=by rw[Nat.mul_comm];exact(Nat.div_add_mod i b).symm
  have H:=Nat.mod_lt i n
  have G:(e (i/b)).length=b:=z _ _ (k _ x h).1
  let⟨F,v⟩:=cK (e (i/b)) (i%b)
  have p:=fY (d:=(List.range l.length).map e) m (b:=i/b) (a:=e (i/b)) (by simp[d]) v
  rw[<-y,q]at p
  simp at p;subst p
  have C:=(k _ x h).2 _ A v
  rw[y,<-dk];exact C
 .obtain⟨_,rfl⟩:=w c cs d
  exact(k c x h).1
def Gr.all{α:Type}{j:Nat}{R:E->List Ce->α->Prop}{l i:List α}(k:oK g.length R)(v:0<g.length)
 (h:Gr S d a b g.length R s l)(t:Fz X d a)(p:eU (bH (s.D::S) a) g.length (R (bH (s.D::S) a)) x i)(q:(l.length+i.length)*j<=140737488355328)
 (u:∀r c,Gr S d c b g.length R r (l++i)->Fz X d c->(a.size<=c.size/\(r.D=s.D\/a.size<=r.D))->(∀e,e<a.size->e≠s.D->c[e]? =a[e]?)->K r c):jT a b g j s x K:=by
 let⟨f,m,n,o⟩:=p.V8 λ_ _ h=>k.len h
 exact Gr.next k v h t m ((bC _ _).iJ n) o q u
def Gr.lit{α:Type}{e:Nat}{R:E->List Ce->α->Prop}{l:List α}(j:oK e R)(i:d.size<=a.size)(p:∀g∈S,g<d.size)(k:cs=f.flatten)(m:n=f.length)(h:gV e (R (bH S a)) f l):
 Gr S d (a.push (.cells (bu cs) b)) b e R (.mk a.size 0 n n) l:=by
 subst k m
 refine⟨aL,f,(ic.new (J.az a) b e f.flatten f.length (cw h.size)).cz i,h.mono λo x=>j.le ?_⟩
 exact(J.push a _).bH λg c=>by
  rcases List.mem_cons.1 c with c|c
  .exact Or.inr (by simp[c])
  .exact Or.inl c
def Gr.nT{α:Type}{c:Nat}{R:E->List Ce->α->Prop}{l:List α}(m:oK c R)(h:Gr S d a b c R s l)(n:s.D∉S)(q:0<c)(p:l.length<=9223372036854775807):eU (bH S a) c (R (bH S a)) s l:=by
 obtain⟨_,f,e,g⟩:=h;have H:=eU.gB e (g.mono λcs x=>m.le (iZ a λj i=>ai s.D i)) q p;exact⟨H.len,H.cap,H.gY,λk x o=>let⟨cs,i,j⟩:=H.iJ k x o;⟨cs,i,Kq n j⟩⟩
def Gr.ne{α:Type}{p:Nat}{R:E->List Ce->α->Prop}{o:List α}(k:Gr S d a b p R s o)(g:cJ a h tb i)(n:tb≠b):s.D≠h:=by
 let⟨l,f,m,w⟩:=k;let⟨q,r,tail,j,t,c,u,v⟩:=m.aE.resolve_left l;intro e;rw[j]at e;simp only[O.jI]at e;subst e;unfold cJ at g c;rw[g]at c;simp at c;exact n c.2
def Gr.Lq{α β:Type}{q:E}{r c t:Nat}{R:E->List Ce->α->Prop}{g:E->List Ce->β->Prop}{e:O}{o:List α}{p:List β}(j:Gr S d a b r R s o)(k:Gr S' q a c t g e p)(n:c≠b):s.D≠e.D:=by
 let⟨l,f,m,z⟩:=k;let⟨u,v,tail,h,w,i,x,y⟩:=m.aE.resolve_left l;have:=j.ne i n;rw[h];exact this
def Gr.box{α:Type}{L:List Nat}{j y:Nat}{R:E->List Ce->α->Prop}{u:List α}{w:α}{K:E->Prop}(B:oK g.length R)(U:0<g.length)
 (o:Gr S d a b g.length R s u)(C:Fz X d a)(P:R (bH (s.D::S) a) cs w)(k:(u.length+1)*y<=140737488355328)
 (p:cJ a h tb i)(hi:j<i.length)(G:tb≠b)(t:d.size<=h/\h∈S)(A:∀e∈L,e<a.size/\e≠h/\e≠s.D)
 (Q:∀r c,Gr S d c b g.length R r (u++[w])->cJ c h tb (jm i j [.s r])->Fz X d c->a.size<=c.size->(∀e,e<a.size->e≠s.D->e≠h->c[e]? =a[e]?)->K c):
 af (a.push (.cells (bu cs) b)) h j=af a h j/\
 jT (a.push (.cells (bu cs) b)) b g y s (.mk a.size 0 1 1) λr c=>eH L (a.push (.cells (bu cs) b)) c/\fL c h j 1/\(eH L c (ah c h j [.s r])/\K (ah c h j [.s r])):=by
 have D:=p.lt
 have H:=J.push a (.cells (bu cs) b)
 have hy:=o.bn
 refine⟨aH (H.same h D) j,Gr.kV B U o C P k λr c z I W v=>?_⟩
 have q:cJ c h tb i:=p.congr (v h D (kO (o.ne p G)))
 have T:=z.ne q G
 have n:∀e,e≠h->(ah c h j [.s r])[e]? =c[e]? :=λe k=>bd _ _ _ _ k
 have Z:=C.size
 have Y:=t.1
 refine⟨λe k=>?_,q.fL V,λe k=>n e (A e k).2.1,Q r _ ?_ (cJ.ah (m:=c) q) (I.ah (Or.inr t.1) _ _) (by rw[aw];exact W.1) λe l N O=>(n e O).trans (v e l N)⟩
 .have l:=A e k
  rw[v e l.1 l.2.2,H.same e l.1]
 .let⟨M,f,g1,g2⟩:=z
  refine⟨M,f,g1.congr (n _ T),g2.mono λcs x=>B.le ?_⟩
  exact pM λe k F=>⟨F,n e λb=>F (by rw[b];exact ai _ t.2)⟩
def ap.lit(b:Nat)(l:List Int)(d:∀c∈S,c<a.size)(c:cs=l.map Ce.i)(f:n=l.length)(e:l.length<=9223372036854775807):ap (bH S (a.push (.cells (bu cs) b))) (.mk a.size 0 n n) l:=by
 subst c f;have h:=ic.new (J.az a) b 1 (l.map Ce.i) l.length aL;exact ap.Q8 d h e
end Go.Vc
end
section
namespace Go.Vc
variable{x y:Operand}{k:SV->Prop}{l h:List Ce}{f:Int->Prop}{r:List Sh}{a:Int}{g:Array (Nat×Operand)}{e:List Oper}{Q:Exit->Fr->E->Prop}{c:Code}
section
variable{P:Program}{T:TT}{G:List Nat}{n:Nat}{A:Ph}{m q:E}{p u:Fr}{b o j i t:Nat}{s:Sh}{d:Option Nat}{v:Value}
def nc(n:Nat):Int:=n
def nce{n:Nat}:nc n=n:=rfl
def VN:Tz T p .len [t] [x] k=match fK T t,ev p x with
 |some ⟨.slice _,_,_⟩,.c (.s s)=>k (.c (.i (nc s.len)))
 |_,_=>False:=rfl
def VO{l:List Nat}:Tz T p .max l [x,y] k=match ev p x,ev p y with
 | .c (.i a),.c (.i b)=>k (.c (.i (if b>a then b else a)))
 |_,_=>False:=rfl
def VP{l:List Nat}:Tz T p .min l [x,y] k=match ev p x,ev p y with
 | .c (.i a),.c (.i b)=>k (.c (.i (if b<a then b else a)))
 |_,_=>False:=rfl
def RZ(m:E)(k:E->Prop):OQ m k=(let q:=m;k q):=rfl
def pa{α:Type}(x:α)(f:α->Prop):Prop:=f x
def S0(s:Sh)(f:s.ty->Prop):Prop:=∃x,f x
def UR(s:Sh)(f:s.ty->Prop):Prop:=∀x,f x
def exI:S0 .I f=∃x,pa x f:=rfl
def exU{k:IntKind}:S0 (.U k) f=∃x,pa x f:=rfl
def exB{f:Bool->Prop}:S0 .T f=∃x,pa x f:=rfl
def Yu{f:O->Prop}:S0 .S f=∃x,pa x f:=rfl
def exP{f:Nat×Nat->Prop}:S0 .P f=∃x,pa x f:=rfl
def exF{f:Fn×Array Value×Array Value->Prop}:S0 .F f=∃x,pa x f:=rfl
def exM{f:Nat->Prop}:S0 .M f=∃x,pa x f:=rfl
def alI:UR .I f=∀x,f x:=rfl
def alU{k:IntKind}:UR (.U k) f=∀x,f x:=rfl
def alB{f:Bool->Prop}:UR .T f=∀x,f x:=rfl
def Yf{f:O->Prop}:UR .S f=∀x,f x:=rfl
def alP{f:Nat×Nat->Prop}:UR .P f=∀x,f x:=rfl
def alF{f:Fn×Array Value×Array Value->Prop}:UR .F f=∀x,f x:=rfl
def alM{f:Nat->Prop}:UR .M f=∀x,f x:=rfl
def cU8{x:Int}:kW (.int .u8 x)=some (.u .u8 x):=rfl
def z0:mS h 0=[]:=rfl
def z1:mS h (n+1)=h++mS h n:=rfl
def tb{a b:Nat}:Nat.testBit a b=(1&&&(a>>>b)!=0):=rfl
def VI{e:Edge}{a:List Edge}:lM (e::a)=bif Region.binds .any e then 2^e.on|||lM a else lM a:=rfl
def b1:Region.binds .any ⟨i,.data⟩=true:=rfl
def b2:Region.binds .any ⟨i,.chain⟩=true:=rfl
def b3:Region.binds .any ⟨i,.guard⟩=true:=rfl
def b4:Region.binds .any ⟨i,.phase⟩=true:=rfl
def b5{x:Departure}:Region.binds .any ⟨i,.gcOnly x⟩=false:=rfl
def b6{x:Departure}:Region.binds .any ⟨i,.textOnly x⟩=false:=rfl
def RT(c:Ce)(k:List Ce->Prop)(l:List Ce):Prop:=k (c::l)
def Vd(k:SV->Prop)(l:List Ce):Prop:=k (.agg l)
def Z8(m:E)(b o j:Nat)(s:Sh)(r:List Sh)(k:List Ce->Prop)(x:s.ty):Prop:=
 af m b (bif j==0 then o else o+j)=some (s.mk x).v/\V2 m b o (j+1) r (RT (s.mk x) k)
def Yp{k:List Ce->Prop}:V2 m b o j (s::r) k=S0 s (Z8 m b o j s r k):=by
 cases j<;>rfl
def Z7(m:E)(b o:Nat)(s:Sh)(k:SV->Prop)(x:s.ty):Prop:=af m b o=some (s.mk x).v/\k (.c (s.mk x))
def TP{t:Nat}:PW T m t b o k=match fK T t with
 |some ⟨.struct _,a,_⟩=>V2 m b o 0 a (Vd k)
 |some ⟨.cell,[s],_⟩=>S0 s (Z7 m b o s k)
 |some ⟨.slice _,[_],_⟩=>∃x:O,af m b o=some x.v/\k (.c (.s x))
 |_=>False:=rfl
def ile{b:Int}:Int.le a b=(a<=b):=rfl
def Z6(s:O)(z:Nat)(l:Int)(k:SV->Prop)(h:Int):Prop:=Int.le 0 l/\Int.le l h/\Int.le h (nc s.cap)/\k (.c (.s (s.cut l.toNat h.toNat z)))
def Z9(p:Fr)(a:Option Operand)(s:O)(z:Nat)(k:SV->Prop)(l:Int):Prop:=MT p a (nc s.len) (Z6 s z l k)
def Yn{f:Nat}{mk:Nat->SV}:FQ T t f o mk k=match fK T t with
 |some ⟨.struct c,_,_⟩=>match Ic c f with
  |some (a,u)=>match fK T u with
   |some b=>bif b.uI||Nat.beq b.sh.length 0 then False else bif a==0 then k (mk o)else k (mk (o+a))
   |none=>False
  |none=>False
 |_=>False:=by
 have h:∀a,(bif a==0 then k (mk o)else k (mk (o+a)))=k (mk (o+a)):=λa=>by cases a<;>rfl
 simp only[h];rfl
def VM{s:O}{n:Int}:Xl T t s n k=match fK T t with
 |some ⟨.slice e,_,_⟩=>match fK T e with
  |some a=>bif a.uI then False else Int.le 0 n/\n<nc s.len/\k (.c (.p s.D (s.off+n.toNat*a.sh.length)))
  |none=>False
 |_=>False:=rfl
def RL{s:O}{b a:Option Operand}:Rl T p t s b a k=match fK T t with
 |some ⟨.slice e,_,_⟩=>match fK T e with
  |some c=>bif c.uI then False else MT p b 0 (Z9 p a s c.sh.length k)
  |none=>False
 |_=>False:=rfl
def RI:rd T p m k (.build t g)=match fK T t with
 |some ⟨.struct a,b,_⟩=>bif vo T a then FH T p a (b.map Sh.zero) g.toList (Vd k)else False
 |_=>False:=rfl
def kxc(s:Sh)(r:List Sh)(k:List Ce->Prop)(x:s.ty):Prop:=UG r (RT (s.mk x) k)
def VK{k:List Ce->Prop}:UG (s::r) k=S0 s (kxc s r k):=rfl
def YC(a:AV)(k:List AV->Prop)(l:List AV):Prop:=k (a::l)
def kxt(T:TT)(r:List Nat)(k:List AV->Prop)(l:List Ce):Prop:=Sz T r (YC (.agg l) k)
def kxs(T:TT)(s:Sh)(r:List Nat)(k:List AV->Prop)(x:s.ty):Prop:=Sz T r (YC (.c (s.mk x)) k)
def VL{r:List Nat}{k:List AV->Prop}:Sz T (t::r) k=match fK T t with
 |some ⟨.struct _,a,_⟩=>UG a (kxt T r k)
 |some ⟨.cell,[s],_⟩=>S0 s (kxs T s r k)
 |some ⟨.slice _,[_],_⟩=>∃x:O,Sz T r (YC (.c (.s x)) k)
 |_=>False:=rfl
def krt(v:Value)(k:SV->Prop)(l:List AV):Prop:=v=.tuple (l.map AV.v).toArray/\k (.Xv l)
def krs(v:Value)(k:SV->Prop)(l:List Ce):Prop:=v=.agg (l.map Ce.v).toArray/\k (.agg l)
def krc(v:Value)(s:Sh)(k:SV->Prop)(x:s.ty):Prop:=v=(s.mk x).v/\k (.c (s.mk x))
def VU:P9 T t v k=match fK T t with
 |some ⟨.tuple [],_,_⟩=>k .fV
 |some ⟨.tuple a,_,_⟩=>Sz T a (krt v k)
 |some ⟨.struct _,a,_⟩=>UG a (krs v k)
 |some ⟨.cell,[s],_⟩=>S0 s (krc v s k)
 |some ⟨.slice _,[_],_⟩=>∃x:O,v=x.v/\k (.c (.s x))
 |_=>False:=rfl
def Ve(k:Fr->SV->E->Prop)(p:Fr)(m:E)(x:SV):Prop:=k p x m
def inG(G:List Nat)(g:Nat):Prop:=G.elem g=true
def YA{G:List Nat}{g:Nat}:inG G g=(G.elem g=true):=rfl
def nz(b:Int):Prop:=b≠0
def nze{b:Int}:nz b=(b≠0):=rfl
def VR{b:Int}:rW .quo a b k=(nz b/\k (.c (.i (cT (a.tdiv b))))):=rfl
def VT{b:Int}:rW .rem a b k=(nz b/\k (.c (.i (a.tmod b)))):=rfl
def TM{c:Nat}{f:Operand}{a:List Operand}{k:Fr->SV->E->Prop}:TC P T G n p m c f a k=match TV p (a.map (ev p))with
 |none=>False
 |some u=>match ev p f with
  | .c (.fn (.func g) first b)=>bif G.elem g&&a.all (λx=>(ev p x).jP)then
   aN P g (first.toList++(a.map λx=>(ev p x).v)++b.toList) m λv q=>Au (MA n u []) m q (P9 T c v (Ve k u q))
   else False
  | .c (.fv b)=>bif a.all (λx=>(ev p x).jP)then
   ∃g,b.1=.func g/\inG G g/\aN P g (b.2.1.toList++(a.map λx=>(ev p x).v)++b.2.2.toList) m λv q=>Au (MA n u []) m q (P9 T c v (Ve k u q))
   else False
  |_=>False:=rfl
def p3(m:E)(k:Fr->SV->E->Prop)(p:Fr)(x:SV):Prop:=k p x m
def p2(m:E)(k:SV->E->Prop)(x:SV):Prop:=k x m
def TR{k:Fr->SV->E->Prop}:SH n p none m t l k=OQ (m.push (.cells (bu l) t)) λq=>p3 q k p (.c (.p m.size 0)):=rfl
def TS{j:Nat}{k:Fr->SV->E->Prop}:SH n p (some j) m t l k=match iA p (n+j)with
 | .zN _ _ _=>False
 |_=>OQ (m.push (.cells (bu l) t)) λq=>p3 q k ((n+j,.box m.size t l)::p) (.c (.bp (n+j) m.size 0)):=rfl
def Ys{x:SV}{k:Fr->SV->E->Prop}:O8 n p m x l k=match x with
 | .c (.p b o)=>fL m b o l.length/\OQ (ah m b o l) λq=>Au (MA n p []) m q (k p .un q)
 | .c (.bp d b o)=>match iA p d with
  | .box a e c=>bif Nat.ble (o+l.length) c.length then MH a b (OQ (ah m b o l) λq=>p3 q k ((d,.box a e (jm c o l))::p) .un)else False
  | .zN _ _ _=>False
  |_=>fL m b o l.length/\OQ (ah m b o l) λq=>Au (MA n p []) m q (k p .un q)
 |_=>False:=rfl
def Yr{b:Nat}{k:Fr->SV->E->Prop}:wr P T G n p m d b k (.makeSlice t x y)=match fK T t,ev p x,ev p y with
 |some ⟨.slice e,_,_⟩,.c (.i l),.c (.i c)=>match fK T e with
  |some a=>bif a.uI then False else Int.le 0 l/\Int.le l c/\Int.le (nc a.bytes*c) 281474976710656/\Int.le c 9223372036854775807/\
   OQ (m.push (.cells (bu (mS (a.sh.map Sh.zero) c.toNat)) e)) λq=>p3 q k p (.c (.s (.mk m.size 0 l.toNat c.toNat)))
  |none=>False
 |_,_,_=>False:=rfl
def Yq{a:Nat}{k:Fr->SV->E->Prop}:wr P T G n p m d a k (.makeMap t none)=OQ (m.push (.map #[] 0)) λq=>p3 q k p (.c (.mp m.size)):=rfl
def VJ{z:Nat}{s x:O}{k:SV->E->Prop}:Xf m z s x k=∃a:List Ce,a.length=Nat.min x.len s.len*z/\fR m x.D x.off a/\fL m s.D s.off a.length/\
 OQ (ah m s.D s.off a) λq=>p2 q k (.c (.i (nc (Nat.min x.len s.len)))):=rfl
def Z4(p:Fr)(m:E)(e a:Nat)(k:Fr->SV->E->Prop)(l:List Ce):Prop:=match FL p l with
 |some u=>OQ (m.push (.cells (bu l) e)) λq=>p3 q k u (.c (.s (.mk m.size 0 a a)))
 |none=>False
def Ym{c a:Nat}{k:Fr->SV->E->Prop}:wr P T G n p m d c k (.buildSlice t a g)=match fK T t with
 |some ⟨.slice e,_,_⟩=>match fK T e with
  |some b=>bif b.uI||!(Nat.ble (a*b.sh.length) 16777216)then False else
   xp T p b.sh.length (mS (b.sh.map Sh.zero) a) g.toList (Z4 p m e a k)
  |none=>False
 |_=>False:=rfl
def Z5(n:Nat)(p:Fr)(m:E)(k:Fr->SV->E->Prop)(x:SV)(q:E):Prop:=Au (MA n p []) m q (k p x q)
def TN{b:Nat}{u:Nat}{c:List Nat}{k:Fr->SV->E->Prop}:wr P T G n p m d b k (.call ⟨.builtin .copy,⟨[x,y]⟩,⟨u::c⟩⟩)=match fK T u,ev p x,ev p y with
 |some ⟨.slice e,_,_⟩,.c (.s s),.c (.s z)=>match fK T e with
  |some a=>bif a.uI then False else Xf m a.sh.length s z (Z5 n p m k)
  |none=>False
 |_,_,_=>False:=rfl
def kw(P:Program)(T:TT)(G:List Nat)(n:Nat)(e:List Oper)(d:Option Nat)(jV:List Oper)(k:Fr->E->Prop)(p:Fr)(x:SV)(m:E):Prop:=sG P T G n e jV (ug p d x) m k
def kr(P:Program)(T:TT)(G:List Nat)(n:Nat)(e:List Oper)(d:Option Nat)(jV:List Oper)(k:Fr->E->Prop)(p:Fr)(m:E)(x:SV):Prop:=sG P T G n e jV (ug p d x) m k
def ky(P:Program)(T:TT)(G:List Nat)(n:Nat)(e:List Oper)(o:Oper)(jV:List Oper)(k:Fr->E->Prop)(m:E)(p:Fr):Prop:=
 bif Li o.op then wr P T G n p m o.dst o.type (kw P T G n e o.dst jV k) o.op else rd T p m (kr P T G n e o.dst jV k p m) o.op
def kn(P:Program)(T:TT)(G:List Nat)(n:Nat)(e:List Oper)(d:Option Nat)(jV:List Oper)(k:Fr->E->Prop)(m:E)(p:Fr):Prop:=sG P T G n e jV (ug p d .un) m k
def VQ{o:Oper}{jV:List Oper}{k:Fr->E->Prop}:sG P T G n e (o::jV) p m k=
 bif sB n o.dst then gd e p o.guard (ky P T G n e o jV k m) (kn P T G n e o.dst jV k m)else False:=rfl
abbrev LL:=List (Nat×List (Nat×Nat))
def ZV(P:Program)(T:TT)(G:List Nat)(n:Nat)(e:List Oper)(c a:List Nat)(b done:Nat)(o:Oper)(i:Nat)(m:E)(L:LL)(k:Fr->E->Prop)(p:Fr)(x:SV):Prop:=
 oU P T G n e c a b (done|||2^i) (ug p o.dst x) m ((i,Ta T p o.op)::L) k
def ZY(P:Program)(T:TT)(G:List Nat)(n:Nat)(e:List Oper)(c a:List Nat)(b done:Nat)(o:Oper)(i:Nat)(m:E)(L:LL)(k:Fr->E->Prop)(p:Fr):Prop:=
 rd T p m (ZV P T G n e c a b done o i m L k p) o.op
def Zq(P:Program)(T:TT)(G:List Nat)(n:Nat)(e:List Oper)(c a:List Nat)(b done:Nat)(o:Oper)(i:Nat)(m:E)(L:LL)(k:Fr->E->Prop)(p:Fr):Prop:=
 oU P T G n e c a b (done|||2^i) (ug p o.dst .un) m L k
def ZW(P:Program)(T:TT)(G:List Nat)(n:Nat)(e:List Oper)(c a:List Nat)(b done:Nat)(o:Oper)(i:Nat)(m:E)(L:LL)(k:Fr->E->Prop)(p:Fr)(x:SV)(q:E):Prop:=
 DM (uj a i) m q L (oU P T G n e c a b (done|||2^i) (ug p o.dst x) q L k)
def ZZ(P:Program)(T:TT)(G:List Nat)(n:Nat)(e:List Oper)(c a:List Nat)(b done:Nat)(o:Oper)(i:Nat)(m:E)(L:LL)(k:Fr->E->Prop)(p:Fr):Prop:=
 wr P T G n p m o.dst o.type (ZW P T G n e c a b done o i m L k) o.op
def ZX(P:Program)(T:TT)(G:List Nat)(n:Nat)(e:List Oper)(c a:List Nat)(b done:Nat)(m:E)(L:LL)(k:Fr->E->Prop)(p:Fr)(i:Nat):Prop:=match Ic e i with
 |some o=>bif sB n o.dst then gd e p o.guard (ZZ P T G n e c a b done o i m L k) (Zq P T G n e c a b done o i m L k)else False
 |none=>False
def TO{a b:List Nat}{c done:Nat}{L:LL}{k:Fr->E->Prop}:oU P T G n e a b (c+1) done p m L k=match wZ done 0 e a with
 |some i=>match Ic e i with
  |some o=>bif sB n o.dst then gd e p o.guard (ZY P T G n e a b c done o i m L k) (Zq P T G n e a b c done o i m L k)else False
  |none=>False
 |none=>match pS done 0 e a with
  |[]=>k p m
  |d=>Ot d (ZX P T G n e a b c done m L k p):=rfl
def TJ{f:Nat->Prop}:Ot [i] f=f i:=rfl
def TL{r:List Nat}{f:Nat->Prop}:Ot (i::j::r) f=(f i/\Ot (j::r) f):=rfl
def kq(Q:Exit->Fr->E->Prop)(p:Fr)(m:E):Prop:=Q .normal p m
def VS{e:Array Oper}{a:Bool}:vc P T G n A (.region i e a) p m Q=
 bif a then oU P T G n e.toList (Vk e.toList) (TA [] e.toList) e.toList.length 0 p m [] (kq Q)
 else sG P T G n e.toList e.toList p m (kq Q):=rfl
def Z2(t:Nat)(s:Sh)(r:List (Nat×Sh))(I:s.ty->HG r)(p:Fr)(k:Fr->(E->Prop)->Prop)(x:s.ty):Prop:=Pu r (I x) ((t,.c (s.mk x))::p) k
def VG{r:List (Nat×Sh)}{I:s.ty->HG r}{k:Fr->(E->Prop)->Prop}:Pu ((t,s)::r) I p k=UR s (Z2 t s r I p k):=rfl
def Z3(t:Nat)(s:Sh)(r:List (Nat×Sh))(I:s.ty->HG r)(μ:s.ty->On r)(p:Fr)(k:Fr->(E->Prop)->(E->Nat)->Prop)(x:s.ty):Prop:=Pv r (I x) (μ x) ((t,.c (s.mk x))::p) k
def VH{r:List (Nat×Sh)}{I:s.ty->HG r}{μ:s.ty->On r}{k:Fr->(E->Prop)->(E->Nat)->Prop}:Pv ((t,s)::r) I μ p k=UR s (Z3 t s r I μ p k):=rfl
def ks(P:Program)(T:TT)(G:List Nat)(n:Nat)(A:Ph)(b:Code)(Q:Exit->Fr->E->Prop):Exit->Fr->E->Prop
 | .normal,u,q=>vc P T G n A b u q Q
 |e,u,q=>Q e u q
def kc(A:Ph)(b:Code)(p:Fr)(l:List (Nat×Sh))(K:HG l)(Q:Exit->Fr->E->Prop):Exit->Fr->E->Prop
 | .normal,u,q=>UF p u (lB A b) (HJ l K u q)
 |e,u,q=>Q e u q
def ki(P:Program)(T:TT)(G:List Nat)(n:Nat)(A:Ph)(b:Code)(Q:Exit->Fr->E->Prop)(u:Fr)(a:E->Prop):Prop:=∀q,a q->vc P T G n A b u q Q
def VV{a b:Code}:vc P T G n A (.seq a b) p m Q=match V5 A.U9 b with
 |none=>vc P T G n A a p m (ks P T G n A b Q)
 |some l=>bif pY (oQ a) l then∃K:HG l,vc P T G n A a p m (kc A b p l K Q)/\
  Pu l K (nN (oQ a) (uD n (lB A b) p)) (ki P T G n A b Q)else False:=by
 unfold ks kc ki;rfl
def kb(i:Nat)(Q:Exit->Fr->E->Prop):Exit->Fr->E->Prop
 | .exit j,u,q=>bif Nat.beq j i then Q .normal u q else Q (.exit j) u q
 |e,u,q=>Q e u q
def RH:vc P T G n A (.block i c) p m Q=vc P T G n A c p m (kb i Q):=by
 unfold kb;rfl
def ke(A:Ph)(c:Code)(p:Fr)(l:List (Nat×Sh))(I:HG l)(μ:On l)(N:Nat)(Q:Exit->Fr->E->Prop):Exit->Fr->E->Prop
 | .normal,a,b=>UF p a (lB A c) (Ov l I μ a b N)
 |e,a,b=>Q e a b
def kl(P:Program)(T:TT)(G:List Nat)(n:Nat)(A:Ph)(c:Code)(p:Fr)(l:List (Nat×Sh))(I:HG l)(μ:On l)(Q:Exit->Fr->E->Prop)(u:Fr)(a:E->Prop)(μ':E->Nat):Prop:=
 ∀q,a q->vc P T G n A c u q (ke A c p l I μ (μ' q) Q)
def TQ:vc P T G n A (.loop c) p m Q=match V5 A.Ua c with
 |none=>False
 |some l=>bif pY (oQ c) l then∃(I:HG l)(μ:On l),HJ l I p m/\
  Pv l I μ (nN (oQ c) (uD n (lB A c) p)) (kl P T G n A c p l I μ Q)else False:=by
 unfold kl ke;rfl
def kR(m:E)(R:Value->E->Prop)(l:List SV):Prop:=match l with
 |[x]=>R x.v m
 |l=>R (.tuple (l.map SV.v).toArray) m
def kx(x:SV)(k:List SV->Prop)(l:List SV):Prop:=k (x::l)
def kz(T:TT)(p:Fr)(m:E)(r:List ResultVar)(k:List SV->Prop)(x:SV):Prop:=bif x.jP then Gs T p m r (kx x k)else False
def RJ{r:List ResultVar}{k:List SV->Prop}:Gs T p m (.tmp t::r) k=bif (iA p t).jP then Gs T p m r (kx (iA p t) k)else False:=rfl
def RK{a:Nat}{r:List ResultVar}{k:List SV->Prop}:Gs T p m (.cell a t::r) k=rd T p m (kz T p m r k) (.load t (.tmp a)):=rfl
def kf(T:TT)(a:List ResultVar)(R:Value->E->Prop):Exit->Fr->E->Prop
 | .normal,p,m=>Gs T p m a (kR m R)
 | .ret,p,m=>Gs T p m a (kR m R)
 |_,_,_=>False
def Yo{b:List ResultVar}{a:List SV}{R:Value->E->Prop}:SX P T G A n b c a m R=vc P T G n A c (uC 0 a) m (kf T b R):=by
 unfold kf kR;rfl
end
def Tg(_:Prop):Type:=Prop
def Tg.p{q:Prop}(t:Tg q):Prop:=t
def Tg.lf(q:Prop):Tg q:=q
def Tg.pm{a b:Prop}{h:Tg a=Tg b}:Tg.p (Eq.mpr h (Tg.lf b))=b:=rfl
def rg1:List.range 1=[0]:=rfl
def rg2:List.range 2=[0,1]:=rfl
def rg3:List.range 3=[0,1,2]:=rfl
def rg4:List.range 4=[0,1,2,3]:=rfl
def rg5:List.range 5=[0,1,2,3,4]:=rfl
def rg6:List.range 6=[0,1,2,3,4,5]:=rfl
def rg7:List.range 7=[0,1,2,3,4,5,6]:=rfl
def Tg.pm2{a b c:Prop}{h:Tg a=Tg b}{d:Tg b=Tg c}:Tg.p (Eq.mpr h (Eq.mpr d (Tg.lf c)))=c:=rfl
def Wi(_ _:Prop):Type:=Unit
def mkT{a X:Prop}(_:Wi a X)(t:Tg a)(_:t.p=X):True:=trivial
end Go.Vc
end
namespace Go.Proofs.YtkoifinbblcbiaaGreat
open Go.Vc
section
noncomputable abbrev cp:=Tryz.prog
def Xd:TT:=[(0,⟨.tuple [],[],0⟩),
 (3,⟨.cell,[.I],8⟩),
 (4,⟨.cell,[.T],1⟩),
 (5,⟨.cell,[(.U .u8)],1⟩),
 (22,⟨.slice 5,[.S],24⟩),
 (23,⟨.slice 90,[.S],24⟩),
 (24,⟨.slice 43,[.S],24⟩),
 (26,⟨.struct [(0,23),(1,24)],[.S,.S],48⟩),
 (27,⟨.slice 3,[.S],24⟩),
 (28,⟨.slice 46,[.S],24⟩),
 (29,⟨.slice 38,[.S],24⟩),
 (31,⟨.struct [(0,3),(1,3),(2,3),(3,3),(4,27),(5,28),(6,29)],[.I,.I,.I,.I,.S,.S,.S],104⟩),
 (32,⟨.tuple [26,31],[],0⟩),
 (34,⟨.tuple [31,4],[],0⟩),
 (38,⟨.struct [(0,3),(1,3),(2,3),(3,27),(4,27),(5,27)],[.I,.I,.I,.S,.S,.S],96⟩),
 (40,⟨.struct [(0,3),(1,3),(2,3),(3,3),(4,27),(5,27)],[.I,.I,.I,.I,.S,.S],80⟩),
 (41,⟨.slice 40,[.S],24⟩),
 (43,⟨.struct [(0,27),(1,27),(2,3),(3,3),(4,41)],[.S,.S,.I,.I,.S],88⟩),
 (46,⟨.struct [(0,3),(1,3),(2,27)],[.I,.I,.S],40⟩),
 (49,⟨.tuple [26,31,3],[],0⟩),
 (54,⟨.tuple [26,3],[],0⟩),
 (57,⟨.struct [(0,3),(1,3),(2,3),(3,3),(4,3),(5,3),(6,3),(7,3)],[.I,.I,.I,.I,.I,.I,.I,.I],64⟩),
 (58,⟨.tuple [57,4],[],0⟩),
 (63,⟨.cell,[.P],8⟩),
 (68,⟨.struct [(0,26),(2,3),(3,31)],[.S,.S,.I,.I,.I,.I,.I,.S,.S,.S],160⟩),
 (69,⟨.cell,[.P],8⟩),
 (71,⟨.struct [(0,26),(2,31)],[.S,.S,.I,.I,.I,.I,.S,.S,.S],152⟩),
 (87,⟨.struct [(0,22),(1,3)],[.S,.I],32⟩),
 (88,⟨.slice 218,[.S],24⟩),
 (90,⟨.struct [(0,3),(1,3),(2,88)],[.I,.I,.S],40⟩),
 (94,⟨.cell,[.P],8⟩),
 (95,⟨.cell,[.P],8⟩),
 (101,⟨.cell,[.F],8⟩),
 (107,⟨.slice 163,[.S],24⟩),
 (109,⟨.struct [(0,23),(1,107)],[.S,.S],48⟩),
 (110,⟨.tuple [109,4],[],0⟩),
 (113,⟨.tuple [27,4],[],0⟩),
 (120,⟨.cell,[.P],8⟩),
 (122,⟨.slice 175,[.S],24⟩),
 (124,⟨.struct [(0,23),(1,122)],[.S,.S],48⟩),
 (127,⟨.cell,[.P],8⟩),
 (129,⟨.struct [(0,3),(1,3),(2,3),(3,3),(4,3),(5,3),(6,3),(7,3)],[.I,.I,.I,.I,.I,.I,.I,.I],64⟩),
 (130,⟨.tuple [3,3],[],0⟩),
 (135,⟨.tuple [27,27],[],0⟩),
 (140,⟨.slice 46,[.S],24⟩),
 (163,⟨.struct [(0,27),(1,27),(2,3)],[.S,.S,.I],56⟩),
 (167,⟨.tuple [3,4],[],0⟩),
 (171,⟨.slice 173,[.S],24⟩),
 (173,⟨.struct [(0,3),(1,3),(2,171)],[.I,.I,.S],40⟩),
 (175,⟨.struct [(0,27),(1,3),(2,173)],[.S,.I,.I,.I,.S],72⟩),
 (181,⟨.slice 205,[.S],24⟩),
 (183,⟨.struct [(0,23),(1,181)],[.S,.S],48⟩),
 (188,⟨.cell,[.F],8⟩),
 (189,⟨.cell,[.P],8⟩),
 (191,⟨.slice 4,[.S],24⟩),
 (201,⟨.slice 226,[.S],24⟩),
 (203,⟨.struct [(0,201),(1,3)],[.S,.I],32⟩),
 (205,⟨.struct [(0,27),(1,27),(2,3),(3,203)],[.S,.S,.I,.S,.I],88⟩),
 (206,⟨.cell,[.P],8⟩),
 (208,⟨.struct [(0,41)],[.S],24⟩),
 (218,⟨.struct [(0,27)],[.S],24⟩),
 (220,⟨.map 3 3,[.M],8⟩),
 (222,⟨.tuple [3,218],[],0⟩),
 (224,⟨.slice 203,[.S],24⟩),
 (226,⟨.struct [(0,3),(1,3),(2,3),(3,27),(4,224)],[.I,.I,.I,.S,.S],72⟩),
 (229,⟨.cell,[.P],8⟩),
 (230,⟨.tuple [229,4],[],0⟩),
 (233,⟨.struct [(0,27),(1,27),(2,27),(3,27),(4,27),(5,27),(6,27)],[.S,.S,.S,.S,.S,.S,.S],168⟩),
 (259,⟨.slice 27,[.S],24⟩),
 (275,⟨.cell,[.P],8⟩),
 (277,⟨.struct [(0,201),(1,3)],[.S,.I],32⟩)]
abbrev ta:Nat:=4
abbrev Qq:Nat:=22
abbrev dj:Nat:=203
abbrev mw:Nat:=46
abbrev pu:Nat:=218
abbrev kd:Nat:=90
abbrev bG:Nat:=173
abbrev dR:Nat:=38
abbrev fx:Nat:=175
abbrev vB:Nat:=26
abbrev dZ:Nat:=40
abbrev nA:Nat:=183
abbrev jH:Nat:=43
abbrev kU:Nat:=124
abbrev jX:Nat:=205
abbrev iD:Nat:=31
abbrev gD:Nat:=226
abbrev eE:Nat:=140
abbrev bU:Nat:=68
abbrev qe:Nat:=163
abbrev my:Nat:=109
abbrev aA:Nat:=3
abbrev xY:Nat:=27
abbrev oF:Nat:=208
abbrev BQ:Nat:=233
abbrev lQ:Nat:=277
abbrev bK:Nat:=71
abbrev qj:Nat:=87
abbrev Uq:Nat:=5
def Pb:uB cp Xd:=by
 unfold uB;kernel_rfl
def GL:List Nat:=List.range' 3 337
def Zs:UO cp GL:=by
 unfold UO;kernel_rfl
def Zt:cp.follows .mixedOrders=true:=by kernel_rfl
def nbq(a b:Nat):Nat.beq a b=(a==b):=by rw[JH];simp
def nbl(a b:Nat):Nat.ble a b=(a -b==0):=by rw[JH];simp;omega
def nbt(a b:Nat):Nat.blt a b=(a+1 -b==0):=by rw[JH];simp[Nat.blt];omega
def gel(g:Nat):List.elem g GL=(3 -g==0&&(g -339==0)):=by rw[JH];simp[GL];omega
section
variable{α β:Type}{a:α}{b:β}
def atl(l:List α):(Array.mk l).toList=l:=rfl
end
section
variable(a b c d e f)
def o1:(Oper.mk a b c d e f).dst=a:=rfl
def o2:(Oper.mk a b c d e f).op=b:=rfl
def o3:(Oper.mk a b c d e f).type=c:=rfl
def o5:(Oper.mk a b c d e f).after=e:=rfl
def o6:(Oper.mk a b c d e f).guard=f:=rfl
end
section
variable(a b c)
def a2:(Ph.mk a b c).Ua=a:=rfl
def a3:(Ph.mk a b c).U9=b:=rfl
def a4:(Ph.mk a b c).eC=c:=rfl
def t1:(TI.mk a b c).HZ=a:=rfl
def t2:(TI.mk a b c).sh=b:=rfl
def t3:(TI.mk a b c).bytes=c:=rfl
def g1:(Edge.mk a b).on=a:=rfl
def g2:(Edge.mk a b).ground=b:=rfl
end
def A0:Ph:=⟨[],[],[]⟩
def cI(x:Int):SV:=.c (.i x)
def cS(x:O):SV:=.c (.s x)
def cP(x:Nat×Nat):SV:=.c (.p x.1 x.2)
instance:Coe Int SV:=⟨cI⟩
instance:Coe O SV:=⟨cS⟩
instance:Coe (Nat×Nat) SV:=⟨cP⟩
instance:Coe Int Ce:=⟨.i⟩
instance:Coe O Ce:=⟨.s⟩
def nu(n:Nat){x:TI}(h:fK Xd n=some x:=by cbv):fK Xd n=some x:=h
def tg0:=nu 0
def tg3:=nu 3
def tg4:=nu 4
def tg5:=nu 5
def YN:=nu 22
def YO:=nu 23
def YP:=nu 24
def YQ:=nu 26
def YR:=nu 27
def YS:=nu 28
def YT:=nu 29
def YU:=nu 31
def YV:=nu 32
def YW:=nu 34
def YX:=nu 38
def YY:=nu 40
def YZ:=nu 41
def Y0:=nu 43
def Y1:=nu 46
def Y2:=nu 49
def Y3:=nu 54
def Y4:=nu 57
def Y5:=nu 58
def Y6:=nu 63
def Y7:=nu 68
def Y8:=nu 69
def Y9:=nu 71
def Za:=nu 87
def Zb:=nu 88
def Zc:=nu 90
def Zd:=nu 94
def Ze:=nu 95
def Wa:=nu 101
def Wb:=nu 107
def Wc:=nu 109
def Wd:=nu 110
def We:=nu 113
def Wf:=nu 120
def Wg:=nu 122
def Wh:=nu 124
def Wj:=nu 127
def Wk:=nu 129
def Wl:=nu 130
def Wm:=nu 135
def Wn:=nu 140
def Wo:=nu 163
def Wp:=nu 167
def Wq:=nu 171
def Wr:=nu 173
def Ws:=nu 175
def Wt:=nu 181
def Wu:=nu 183
def Wv:=nu 188
def Ww:=nu 189
def Wx:=nu 191
def Wy:=nu 201
def Wz:=nu 203
def WA:=nu 205
def WC:=nu 206
def WD:=nu 208
def WE:=nu 218
def WG:=nu 220
def WH:=nu 222
def WI:=nu 224
def WJ:=nu 226
def WK:=nu 229
def WM:=nu 230
def WN:=nu 233
def WO:=nu 259
def WQ:=nu 275
def WR:=nu 277
def da(m:E)(R:Value->E->Prop)(A:Ph)(a:List SV){f:FuncId}{b:Go.Func}{X:Prop}{c:Code}{n:Nat}{e:List ResultVar}{g:List Value}(k:cp.funcs[f]? =some b)
 (d:(b.body,b.ntmps,b.results)=(some c,n,Array.mk e):=by cbv)
 (i:a.all SV.jP=true:=by kernel_rfl)(l:Nat.ble a.length n=true:=by kernel_rfl)(hd:qB c=true:=by kernel_rfl)
 (o:a.map SV.v=g:=by dsimp only[List.map,cI,cS,cP,SV.v,Ce.v])
 (w:Wi (SX cp Xd GL A n e c a m R) X->True:=by intro w;obtain - :=mkT w (by sym -abstractProof=>simp[gel,A0.eq_1,cI.eq_1,cS.eq_1,cP.eq_1,tg0,tg3,tg4,tg5,YN,YO,YP,YQ,YR,YS,YT,YU,YV,YW,YX,YY,YZ,Y0,Y1,Y2,Y3,Y4,Y5,Y6,Y7,Y8,Y9,Za,Zb,Zc,Zd,Ze,Wa,Wb,Wc,Wd,We,Wf,Wg,Wh,Wj,Wk,Wl,Wm,Wn,Wo,Wp,Wq,Wr,Ws,Wt,Wu,Wv,Ww,Wx,Wy,Wz,WA,WC,WD,WE,WG,WH,WI,WJ,WK,WM,WN,WO,WQ,WR,nbq,nbl,nbt,atl,o1,o2,o3,o5,o6,a2,a3,a4,t1,t2,t3,g1,g2,cN,fG,db,eG,Of,List.all_nil,ba,eX,List.elem_cons,Oe,Bool.false_and,Vy,Vx,Bool.true_or,Od,Mw,Bool.and_true,oA,Option.map_none,iH,jy,mK,List.flatMap_nil,List.isEmpty_cons,List.isEmpty_nil,List.any_cons,Qx,qT,No,uC.eq_1,uC.eq_2,vc.eq_1,vc.eq_4,vc.eq_6,vc.eq_7,vc.eq_8,uL.eq_def,YH.eq_def,V7.eq_def,rc.eq_1,rc.eq_2,Ly.eq_def,UF.eq_1,UF.eq_2,uD.eq_1,Dv.eq_1,Dv.eq_2,lB.eq_1,pY.eq_1,pY.eq_2,oQ.eq_def,nN.eq_1,nN.eq_2,Pv.eq_1,Pu.eq_1,Ov.eq_1,Ov.eq_2,HJ.eq_1,HJ.eq_2,QZ.eq_def,V5.eq_1,Dz.eq_def,lk.eq_1,lk.eq_2,oU.eq_1,DM.eq_1,DM.eq_2,LG.eq_1,LG.eq_2,pS.eq_def,wZ.eq_def,kY.eq_1,oC.eq_1,oC.eq_2,lM.eq_1,uj.eq_1,uj.eq_2,uj.eq_3,sG.eq_1,zS.eq_1,zS.eq_2,gd.eq_1,gd.eq_2,Lb.eq_1,sB.eq_1,sB.eq_2,Li.eq_def,wr.eq_1,wr.eq_2,wr.eq_4,wr.eq_6,wr.eq_8,wr.eq_9,wr.eq_10,wr.eq_11,xp.eq_1,xp.eq_2,Sz.eq_1,UG.eq_1,MA.eq_def,Au.eq_def,rd.eq_1,rd.eq_2,rd.eq_3,rd.eq_4,rd.eq_5,rd.eq_6,rd.eq_7,rd.eq_8,rd.eq_9,rd.eq_10,rd.eq_11,rd.eq_12,rd.eq_13,rd.eq_15,Ta.eq_def,VN,VO,VP,NC.eq_1,Hq.eq_1,Hq.eq_2,OG.eq_1,MT.eq_1,MT.eq_2,vo.eq_1,vo.eq_2,FH.eq_1,FH.eq_2,mD.eq_1,mD.eq_2,mD.eq_3,mD.eq_4,mD.eq_5,SV.cells.eq_def,Zy.eq_def,Vf.eq_def,UT.eq_def,rW.eq_1,rW.eq_2,rW.eq_3,rW.eq_6,rW.eq_7,rW.eq_8,rW.eq_9,rW.eq_10,rW.eq_11,rW.eq_12,VR,VT,V2.eq_1,Ic.eq_1,Ic.eq_2,Ic.eq_3,lJ.eq_def,SV.jP.eq_def,TI.uI.eq_1,TI.agg.eq_1,Sh.zero.eq_1,Sh.zero.eq_2,Sh.zero.eq_3,Sh.zero.eq_4,Sh.zero.eq_5,Sh.zero.eq_6,Sh.zero.eq_7,ev.eq_1,ev.eq_2,ev.eq_3,ev.eq_4,FK.eq_def,pL.eq_1,pL.eq_2,kW.eq_1,kW.eq_3,kW.eq_4,kW.eq_5,kW.eq_6,kW.eq_7,ug.eq_1,ug.eq_2,SV.nb.eq_def,iA.eq_1,iA.eq_2,AV.sv.eq_1,AV.sv.eq_2,SV.v.eq_1,SV.v.eq_2,SV.v.eq_3,SV.v.eq_4,SV.v.eq_5,SV.v.eq_6,SV.v.eq_7,SV.v.eq_8,SV.v.eq_9,AV.v.eq_1,AV.v.eq_2,Ce.v.eq_1,Ce.v.eq_2,Ce.v.eq_3,Ce.v.eq_4,Ce.v.eq_5,Ce.v.eq_6,Ce.v.eq_7,Ce.v.eq_8,Ce.v.eq_9,Ce.v.eq_10,Ce.v.eq_11,Ce.v.eq_12,Ce.v.eq_13,vm.eq_1,vm.eq_2,TV.eq_1,FL.eq_def,jm.eq_1,jm.eq_2,HG.eq_1,HG.eq_2,On.eq_1,On.eq_2,Sh.ty.eq_1,Sh.ty.eq_2,Sh.ty.eq_3,Sh.ty.eq_4,Sh.ty.eq_5,Sh.ty.eq_6,Sh.ty.eq_7,Sh.mk.eq_1,Sh.mk.eq_2,Sh.mk.eq_3,Sh.mk.eq_4,Sh.mk.eq_5,Sh.mk.eq_6,Sh.mk.eq_7,Ow.eq_1,SV.U0.eq_def,AV.U0.eq_1,AV.U0.eq_2,Gs.eq_1,Vk.eq_1,Vk.eq_2,TA.eq_1,TA.eq_2,Z8.eq_1,Z7.eq_1,kxc.eq_1,kxs.eq_1,krc.eq_1,Z2.eq_1,Z3.eq_1,pa.eq_1,p3.eq_1,p2.eq_1,RT.eq_1,Vd.eq_1,Z6.eq_1,Z9.eq_1,YC.eq_1,kxt.eq_1,krt.eq_1,krs.eq_1,Ve.eq_1,Z4.eq_1,Z5.eq_1,kw.eq_1,kr.eq_1,ky.eq_1,kn.eq_1,ZV.eq_1,ZY.eq_1,Zq.eq_1,ZW.eq_1,ZZ.eq_1,ZX.eq_1,kq.eq_1,ks.eq_def,kc.eq_def,ki.eq_1,kb.eq_def,ke.eq_def,kl.eq_1,kR.eq_def,kx.eq_1,kz.eq_1,kf.eq_def,Ot.eq_1,Yp,TP,RL,RI,VK,VL,VU,TM,Ym,TN,VQ,TO,TJ,TL,VS,VV,RH,TQ,RJ,RK,Yo,Yn,VG,VH,exI,exU,exB,Yu,exP,exF,exM,alI,alU,alB,Yf,alP,alF,alM,cU8,z0,z1,tb,VI,b1,b2,b3,b4,b5,b6,TR,TS,Ys,Yr,Yq,VJ,VM,rg1,rg2,rg3,rg4,rg5,rg6,rg7,jM];exact Tg.lf _) (by refine Tg.pm.trans ?_;dsimp -zeta+instances only[↓RZ,ile,↓YA,nze,nce,HG,On,Sh.ty,Int.cast_ofNat_Int]);trivial)
 (j:X=SX cp Xd GL A n e c a m R:=by kernel_rfl)
 :X->aN cp f g m R:=λh=>by
 subst o
 exact xZ Pb Zs Zt k (nD Prod.fst d) (nD (λx=>x.2.1) d) (nD (λx=>x.2.2) d) i (lV l) hd (j▸h)
def aah(m:E)(R:Value->E->Prop)(A:Ph)(a:List SV){f:FuncId}{b:Go.Func}{X:Prop}{c:Code}{n:Nat}{e:List ResultVar}{g:List Value}(k:cp.funcs[f]? =some b)
 (d:(b.body,b.ntmps,b.results)=(some c,n,Array.mk e):=by cbv)
 (i:a.all SV.jP=true:=by kernel_rfl)(l:Nat.ble a.length n=true:=by kernel_rfl)(hd:qB c=true:=by kernel_rfl)
 (o:a.map SV.v=g:=by dsimp only[List.map,cI,cS,cP,SV.v,Ce.v])
 (w:Wi (SX cp Xd GL A n e c a m R) X->True:=by intro w;obtain - :=mkT w (by sym -abstractProof=>simp[gel,A0.eq_1,cI.eq_1,cS.eq_1,cP.eq_1,tg0,tg3,tg4,tg5,YN,YO,YP,YQ,YR,YS,YT,YU,YV,YW,YX,YY,YZ,Y0,Y1,Y2,Y3,Y4,Y5,Y6,Y7,Y8,Y9,Za,Zb,Zc,Zd,Ze,Wa,Wb,Wc,Wd,We,Wf,Wg,Wh,Wj,Wk,Wl,Wm,Wn,Wo,Wp,Wq,Wr,Ws,Wt,Wu,Wv,Ww,Wx,Wy,Wz,WA,WC,WD,WE,WG,WH,WI,WJ,WK,WM,WN,WO,WQ,WR,nbq,nbl,nbt,atl,o1,o2,o3,o5,o6,a2,a3,a4,t1,t2,t3,g1,g2,cN,fG,db,eG,Of,List.all_nil,ba,eX,List.elem_cons,Oe,Bool.false_and,Vy,Vx,Bool.true_or,Od,Mw,Bool.and_true,oA,Option.map_none,iH,jy,mK,List.flatMap_nil,List.isEmpty_cons,List.isEmpty_nil,List.any_cons,Qx,qT,No,uC.eq_1,uC.eq_2,vc.eq_1,vc.eq_4,vc.eq_6,vc.eq_7,vc.eq_8,uL.eq_def,YH.eq_def,V7.eq_def,rc.eq_1,rc.eq_2,Ly.eq_def,UF.eq_1,UF.eq_2,uD.eq_1,Dv.eq_1,Dv.eq_2,lB.eq_1,pY.eq_1,pY.eq_2,oQ.eq_def,nN.eq_1,nN.eq_2,Pv.eq_1,Pu.eq_1,Ov.eq_1,Ov.eq_2,HJ.eq_1,HJ.eq_2,QZ.eq_def,V5.eq_1,Dz.eq_def,lk.eq_1,lk.eq_2,oU.eq_1,DM.eq_1,DM.eq_2,pS.eq_def,wZ.eq_def,kY.eq_1,oC.eq_1,oC.eq_2,lM.eq_1,uj.eq_1,uj.eq_2,uj.eq_3,sG.eq_1,zS.eq_1,zS.eq_2,gd.eq_1,gd.eq_2,Lb.eq_1,sB.eq_1,sB.eq_2,Li.eq_def,wr.eq_1,wr.eq_2,wr.eq_4,wr.eq_6,wr.eq_8,wr.eq_9,wr.eq_10,wr.eq_11,xp.eq_1,xp.eq_2,Sz.eq_1,UG.eq_1,MA.eq_def,Au.eq_def,rd.eq_1,rd.eq_2,rd.eq_3,rd.eq_4,rd.eq_5,rd.eq_6,rd.eq_7,rd.eq_8,rd.eq_9,rd.eq_10,rd.eq_11,rd.eq_12,rd.eq_13,rd.eq_15,Ta.eq_def,VN,VO,VP,NC.eq_1,Hq.eq_1,Hq.eq_2,OG.eq_1,MT.eq_1,MT.eq_2,vo.eq_1,vo.eq_2,FH.eq_1,FH.eq_2,mD.eq_1,mD.eq_2,mD.eq_3,mD.eq_4,mD.eq_5,SV.cells.eq_def,Zy.eq_def,Vf.eq_def,UT.eq_def,rW.eq_1,rW.eq_2,rW.eq_3,rW.eq_6,rW.eq_7,rW.eq_8,rW.eq_9,rW.eq_10,rW.eq_11,rW.eq_12,VR,VT,V2.eq_1,Ic.eq_1,Ic.eq_2,Ic.eq_3,lJ.eq_def,SV.jP.eq_def,TI.uI.eq_1,TI.agg.eq_1,Sh.zero.eq_1,Sh.zero.eq_2,Sh.zero.eq_3,Sh.zero.eq_4,Sh.zero.eq_5,Sh.zero.eq_6,Sh.zero.eq_7,ev.eq_1,ev.eq_2,ev.eq_3,ev.eq_4,FK.eq_def,pL.eq_1,pL.eq_2,kW.eq_1,kW.eq_3,kW.eq_4,kW.eq_5,kW.eq_6,kW.eq_7,ug.eq_1,ug.eq_2,SV.nb.eq_def,iA.eq_1,iA.eq_2,AV.sv.eq_1,AV.sv.eq_2,SV.v.eq_1,SV.v.eq_2,SV.v.eq_3,SV.v.eq_4,SV.v.eq_5,SV.v.eq_6,SV.v.eq_7,SV.v.eq_8,SV.v.eq_9,AV.v.eq_1,AV.v.eq_2,Ce.v.eq_1,Ce.v.eq_2,Ce.v.eq_3,Ce.v.eq_4,Ce.v.eq_5,Ce.v.eq_6,Ce.v.eq_7,Ce.v.eq_8,Ce.v.eq_9,Ce.v.eq_10,Ce.v.eq_11,Ce.v.eq_12,Ce.v.eq_13,vm.eq_1,vm.eq_2,TV.eq_1,FL.eq_def,jm.eq_1,jm.eq_2,HG.eq_1,HG.eq_2,On.eq_1,On.eq_2,Sh.ty.eq_1,Sh.ty.eq_2,Sh.ty.eq_3,Sh.ty.eq_4,Sh.ty.eq_5,Sh.ty.eq_6,Sh.ty.eq_7,Sh.mk.eq_1,Sh.mk.eq_2,Sh.mk.eq_3,Sh.mk.eq_4,Sh.mk.eq_5,Sh.mk.eq_6,Sh.mk.eq_7,Ow.eq_1,SV.U0.eq_def,AV.U0.eq_1,AV.U0.eq_2,Gs.eq_1,Vk.eq_1,Vk.eq_2,TA.eq_1,TA.eq_2,Z8.eq_1,Z7.eq_1,kxc.eq_1,kxs.eq_1,krc.eq_1,Z2.eq_1,Z3.eq_1,pa.eq_1,p3.eq_1,p2.eq_1,RT.eq_1,Vd.eq_1,Z6.eq_1,Z9.eq_1,YC.eq_1,kxt.eq_1,krt.eq_1,krs.eq_1,Ve.eq_1,Z4.eq_1,Z5.eq_1,kw.eq_1,kr.eq_1,ky.eq_1,kn.eq_1,ZV.eq_1,ZY.eq_1,Zq.eq_1,ZW.eq_1,ZZ.eq_1,ZX.eq_1,kq.eq_1,ks.eq_def,kc.eq_def,ki.eq_1,kb.eq_def,ke.eq_def,kl.eq_1,kR.eq_def,kx.eq_1,kz.eq_1,kf.eq_def,Ot.eq_1,Yp,TP,RL,RI,VK,VL,VU,TM,Ym,TN,VQ,TO,TJ,TL,VS,VV,RH,TQ,RJ,RK,Yo,Yn,VG,VH,exI,exU,exB,Yu,exP,exF,exM,alI,alU,alB,Yf,alP,alF,alM,cU8,z0,z1,tb,VI,b1,b2,b3,b4,b5,b6,TR,TS,Ys,Yr,Yq,VJ,VM];simp[cN,fG,jM,LG.eq_1,LG.eq_2,rg1,rg2,rg3,rg4,rg5,rg6,rg7];exact Tg.lf _) (by refine Tg.pm2.trans ?_;dsimp -zeta+instances only[↓RZ,ile,↓YA,nze,nce,HG,On,Sh.ty,Int.cast_ofNat_Int]);trivial)
 (j:X=SX cp Xd GL A n e c a m R:=by kernel_rfl)
 :X->aN cp f g m R:=λh=>by
 subst o
 exact xZ Pb Zs Zt k (nD Prod.fst d) (nD (λx=>x.2.1) d) (nD (λx=>x.2.2) d) i (lV l) hd (j▸h)
end
section
open Tryz
variable{m:E}{R:Value->E->Prop}
variable{a b c d e f g h p q r u v w x y:O}{i j k l n o s t z A B C D F G H:Int}
def vr(a:O):=da m R A0 [a] func12
def zY(a:O):=da m R ⟨[],[(4,[(6,.P)])],[(4,[26,25,24])]⟩ [.agg [a,b],.agg [i,j,k,l,c,d,e]] func13
def AA(a:O):=da m R A0 [.agg [a,b],.agg [i,j,k,l,c,d,e]] func14
def yN(i:Int):=da m R A0 [.agg [i,j,k,l,a,b,c],.agg [n,o,s,t,d,e,f]] func15
def Aj(a:O):=da m R ⟨[(4,[(5,.I)])],[],[]⟩ [a,b] func16
def yM(i:Int):=da m R A0 [.agg [i,j,k,a,b,c],.agg [l,n,o,d,e,f]] func17
end
section
open Tryz
variable{m:E}{R:Value->E->Prop}
variable{a b c d e f g h p q r u v w x y:O}{i j k l n o s t z A B C D F G H:Int}
def yE(a:O):=da m R A0 [.agg [a,b],.agg [i,j,k,l,c,d,e]] func21
def yT(p:Nat×Nat):=da m R A0 [p] func29
def Bj(a:O):=da m R A0 [a] func30
def Cu(a:O):=da m R ⟨[(3,[(3,.I),(8,.I)])],[],[]⟩ [a] func31
def yG(i:Int):=da m R ⟨[(3,[(20,.I)])],[],[(3,[52,53])]⟩ [.agg [i,j,k,l,a,b,c]] func32
def vY(p:Nat×Nat):=da m R ⟨[],[(5,[(4,.T)])],[(5,[91])]⟩ [p] func33
def zp(a:O):=da m R ⟨[(8,[(5,.I)])],[(5,[])],[(5,[93,92]),(8,[93,92])]⟩ [.agg [a,b],.agg [i,j,k,l,c,d,e]] func34
def AO(i:Int):=da m R ⟨[(3,[(4,.I)])],[(2,[(3,.P)])],[(2,[58,57]),(3,[58,57])]⟩ [.agg [i,j,k,l,a,b,c]] func35
def wI(p:Nat×Nat):=da m R A0 [p] func36
def Ai(a:O):=da m R ⟨[(4,[(5,.I)])],[],[]⟩ [a,b] func37
def xl(a:O):=da m R ⟨[(4,[(5,.I)])],[],[]⟩ [a,b] func38
def zf(p:Nat×Nat):=da m R A0 [p,a] func39
def xO(p:Nat×Nat):=da m R A0 [p,i] func40
end
section
open Tryz
variable{m:E}{R:Value->E->Prop}
variable{a b c d e f g h p q r u v w x y:O}{i j k l n o s t z A B C D F G H:Int}
def EL(i:Int):=da m R A0 [i,j,k] func41
def xL(p:Nat×Nat):=da m R ⟨[(2,[(5,.I)])],[],[]⟩ [p,i] func42
def yD(a:O):=da m R ⟨[(5,[(20,.I)]),(13,[(66,.I)])],[(12,[])],[(5,[82,80]),(12,[85,82,80]),(13,[85,82,80])]⟩ [.agg [a,b]] func43
def yL(a:O):=da m R ⟨[(10,[(95,.I)]),(20,[(158,.I)])],[(3,[]),(16,[]),(24,[])],[(3,[191,190]),(10,[191,190]),(16,[197,191,190]),(20,[191,190]),(24,[191,190])]⟩ [.agg [a,b],.agg [i,j,k,l,c,d,e]] func44
def zm(a:O):=da m R ⟨[(4,[(3,.I)])],[],[(4,[30])]⟩ [.agg [a,b]] func51
def CC(p:Nat×Nat):=da m R A0 [p] func53
def zj(p:Nat×Nat):=da m R A0 [p,.agg [i,j,k,l,a,b,c]] func54
def AZ(p:Nat×Nat):=da m R A0 [p,.agg [a,b]] func55
def tH(a:O):=da m R A0 [a] func56
def Ab(a:O):=da m R ⟨[(3,[(10,.I)])],[],[]⟩ [a] func57
def mR(a:O):=da m R A0 [a] func58
end
section
open Tryz
variable{m:E}{R:Value->E->Prop}
variable{a b c d e f g h p q r u v w x y:O}{i j k l n o s t z A B C D F G H:Int}
def xh(p q:Nat×Nat):=da m R ⟨[(4,[(28,.I)]),(14,[(65,.I)])],[(13,[])],[(4,[212,211]),(13,[212,211]),(14,[212,211])]⟩ [p,q,.agg [i,j,k,l,a,b]] func59
def yJ(p q:Nat×Nat):=da m R ⟨[(3,[(24,.I)])],[],[(3,[353])]⟩ [p,q,.agg [i,j,k,l,a,b]] func60
def yR(a:O):=da m R ⟨[(2,[(3,.I)])],[],[]⟩ [a] func61
def BG(a:O):=da m R ⟨[(4,[(3,.I)]),(10,[(5,.I)])],[(3,[])],[]⟩ [a] func62
def zl(a:O):=da m R A0 [.agg [a,b],.agg [i,j,k,l,c,d,e],n] func63
def CV(i:Int):=da m R ⟨[(3,[(4,.I)]),(6,[(5,.I)]),(14,[(7,.I)])],[],[(3,[101]),(6,[101]),(14,[101])]⟩ [.agg [i,j,k,l,a,b,c]] func64
def xE(i:Int):=da m R ⟨[(4,[(5,.I)])],[],[(4,[44])]⟩ [.agg [i,j,k,l,a,b,c]] func65
def nM(a:O):=da m R A0 [a] func66
def CJ(a:O):=da m R ⟨[(3,[(3,.S),(4,.I)])],[],[]⟩ [a] func67
def GU(i:Int):=da m R A0 [i] func68
def De(i:Int):=da m R ⟨[(3,[(6,.I)])],[],[(3,[42])]⟩ [.agg [i,j,k,a,b,c],d] func69
def Fc(a:O):=da m R ⟨[(4,[(5,.S),(6,.I)])],[(3,[(30,.T)])],[(3,[70,69]),(4,[70,69])]⟩ [.agg [a,b],.agg [i,j,k,l,c,d]] func70
def uv(p:Nat×Nat):=da m R ⟨[],[(3,[])],[(3,[226,225])]⟩ [p,.agg [i,j,k,a,b,c],.agg [l,n,o,s,d,e],f] func71
def tP(p:Nat×Nat):=da m R A0 [p,.agg [i,j,k,a,b,c],.agg [l,n,o,s,d,e]] func72
def Ah(i:Int):=da m R A0 [.agg [i,j,a],.agg [k,l,b]] func73
def Ae(a:O):=da m R ⟨[(5,[(18,.I)])],[],[(5,[43,42])]⟩ [.agg [a,b]] func74
def pO(a:O):=da m R ⟨[(6,[(88,.I)])],[(5,[])],[(5,[147,146,145,144]),(6,[147,146,145,144])]⟩ [.agg [a,b],.agg [c,d,i,j,e],k,.agg [l,n,o,s,f,g]] func75
def HU(i:Int):=da m R A0 [i] func76
end
section
open Tryz
variable{m:E}{R:Value->E->Prop}
variable{a b c d e f g h p q r u v w x y:O}{i j k l n o s t z A B C D F G H:Int}
def xg(a:O):=da m R ⟨[(3,[(26,.I)]),(8,[(37,.I)]),(21,[(12,.S),(73,.I)]),(28,[(12,.S),(13,.I)]),(33,[(12,.S),(127,.I)])],[(17,[])],[(8,[165]),(33,[175])]⟩ [a] func77
def pw(s:O)(f:Fn×Array Value×Array Value):=da m R A0 [s,.c (.fv f)] func78
def we(i:Int):=da m R A0 [i] func79
def yH(a:O):=da m R ⟨[(7,[(63,.I)])],[],[(7,[97,95,94])]⟩ [.agg [a,b],.agg [i,j,k,c,d,e]] func80
def xe(i:Int):=da m R ⟨[(2,[(17,.I)])],[(9,[])],[(2,[82]),(9,[82])]⟩ [.agg [i,j,k,a,b,c],d,e,f] func81
def Cw(a:O):=da m R A0 [.agg [a,b],i,j] func83
def BN(a:O):=da m R ⟨[(4,[(3,.I)])],[],[(4,[65])]⟩ [.agg [a,b]] func84
def xR(a:O):=da m R ⟨[(3,[(4,.I)])],[],[(3,[37,36])]⟩ [.agg [a,b]] func85
def BK(a:O):=da m R ⟨[(5,[(6,.I)])],[],[(5,[62,61])]⟩ [.agg [a,b],.agg [c,d,i,j,e]] func86
def zk(a:O):=da m R A0 [.agg [a,b],i] func87
def AY(p:Nat×Nat):=da m R A0 [p] func90
def AH(p:Nat×Nat):=da m R ⟨[(3,[(6,.I)])],[],[(3,[57,56,55])]⟩ [p,.agg [a,b]] func91
def zh(p:Nat×Nat):=da m R A0 [p,.agg [a,b],i] func92
def sW(p:Nat×Nat):=da m R A0 [p,a] func93
def np(a:O):=da m R A0 [a] func94
end
section
open Tryz
variable{m:E}{R:Value->E->Prop}
variable{a b c d e f g h p q r u v w x y:O}{i j k l n o s t z A B C D F G H:Int}
def sM(p:Nat×Nat):=da m R ⟨[(15,[(4,.S),(5,.S),(31,.I)])],[],[(15,[62])]⟩ [p,.agg [i,j,k,l,a,b]] func95
def wc(i:Int):=da m R A0 [i] func96
def uh(p:Nat×Nat):=da m R A0 [p,i] func97
def vj(p:Nat×Nat):=da m R A0 [i,p] func98
def Ec(a:O):=da m R A0 [a] func99
def sO(p q:Nat×Nat):=da m R A0 [p,q,.agg [i,j,k,l,a,b]] func100
def ry(p q:Nat×Nat):=da m R ⟨[(14,[(10,.S),(74,.I)])],[],[(14,[125,121])]⟩ [p,q,.agg [i,j,k,l,a,b]] func101
def tx(p q:Nat×Nat):=da m R A0 [p,q,.agg [i,j,k,l,a,b]] func102
def zX(p:Nat×Nat):=da m R A0 [p,i,j,k] func103
def rY(p q:Nat×Nat):=da m R A0 [p,q,.agg [i,j,k,l,a,b]] func104
def vg(p:Nat×Nat):=da m R A0 [p,i,a] func105
def xf(p:Nat×Nat):=da m R ⟨[(3,[(13,.I)])],[],[]⟩ [p,a] func106
def Ac(p:Nat×Nat):=da m R ⟨[(1,[(4,.S)])],[],[]⟩ [p,i] func107
def vX(p q:Nat×Nat):=da m R ⟨[(5,[(39,.I)])],[],[(5,[58])]⟩ [p,q,.agg [i,j,k,l,a,b]] func108
def wa(i:Int):=da m R A0 [i] func109
def tJ(a:O):=da m R ⟨[(2,[(8,.I)])],[],[]⟩ [a,i] func110
def FZ(a:O):=da m R ⟨[(6,[(6,.S),(28,.I)])],[],[]⟩ [a,i] func111
def vW(p:Nat×Nat):=da m R ⟨[(9,[(63,.I)])],[(7,[(9,.I)])],[(7,[111]),(9,[114,111])]⟩ [p,i,a,.agg [j,k,l,n,b,c]] func112
end
section
open Tryz
variable{m:E}{R:Value->E->Prop}
variable{a b c d e f g h p q r u v w x y:O}{i j k l n o s t z A B C D F G H:Int}
def vh(a:Nat×Nat)(w:Int)(eC:Bool):=da m R ⟨[(13,[(69,.I)])],[(5,[])],[]⟩ [a,w,.c (.t eC)] func113
def sN(p:Nat×Nat):=da m R A0 [p,i] func114
def BD(a:O):=da m R ⟨[(6,[(5,.I)])],[],[(6,[59])]⟩ [a,.agg [i,j,b]] func115
def G8(a:O):=da m R ⟨[(3,[(4,.I)]),(6,[(5,.I)])],[],[]⟩ [a] func116
def Bb(a:O):=da m R ⟨[(4,[(4,.I),(5,.T)]),(7,[(4,.I),(5,.T),(6,.I)])],[],[]⟩ [a] func117
def BL(a:O):=da m R ⟨[(2,[(5,.I)])],[],[(2,[53])]⟩ [a,.agg [i,j,k,b,c,d]] func118
def Bd(i:Int):=da m R A0 [i] func119
def Df(i:Int):=da m R ⟨[(3,[(4,.I)]),(7,[(6,.I)])],[],[(3,[61]),(7,[65,61])]⟩ [.agg [i,j,k,l,a,b,c]] func120
def sD(i:Int):=da m R A0 [i] func121
def EQ(a:O):=da m R A0 [.agg [a,b],.agg [i,j,k,l,c,d],n] func122
def wK(a:O):=da m R ⟨[(2,[(3,.I)])],[],[]⟩ [a] func123
def Ki(i:Int):=da m R A0 [i] func124
def yS(i:Int):=da m R ⟨[(2,[(5,.I)])],[],[(2,[26,25])]⟩ [.agg [i,j,k,a,b,c],.agg [l,n,o,s,d,e]] func125
def sU(p:Nat×Nat):=da m R A0 [p,.agg [i,j,k,a,b,c],.agg [l,n,o,s,d,e]] func126
def sS(p:Nat×Nat):=da m R ⟨[(2,[(7,.I)])],[],[(2,[51,50])]⟩ [p,.agg [i,j,k,a,b,c],.agg [l,n,o,s,d,e]] func127
def Ey(a:O):=da m R ⟨[(2,[(3,.I)])],[],[]⟩ [a] func128
def sT(p:Nat×Nat):=da m R A0 [p,i] func129
def GW(a:O):=da m R A0 [a,i] func130
end
section
open Tryz
variable{m:E}{R:Value->E->Prop}
variable{a b c d e f g h p q r u v w x y:O}{i j k l n o s t z A B C D F G H:Int}
def ur(p:Nat×Nat):=da m R A0 [p,i] func131
def tO(p:Nat×Nat):=da m R A0 [p,.agg [i,j,k,a,b,c],.agg [l,n,o,s,d,e]] func132
def J2(a:O):=da m R ⟨[(2,[(5,.I)])],[],[]⟩ [a,i] func133
def uP(a:O):=da m R ⟨[(5,[(5,.S),(6,.I)])],[],[]⟩ [a,i] func134
def ux(p:Nat×Nat):=da m R A0 [p,i,j] func135
def Kf(i:Int):=da m R A0 [i,j,k] func136
def sg(p:Nat×Nat):=da m R ⟨[],[(5,[(8,.I)])],[(5,[75,74])]⟩ [p,.agg [i,j,k,a,b,c],.agg [l,n,o,s,d,e],t] func137
def CI(a:O):=da m R ⟨[(3,[(3,.I),(4,.I)])],[],[]⟩ [a] func138
def vx(p:Nat×Nat):=da m R ⟨[],[(10,[(6,.I),(7,.S)])],[(10,[128,127])]⟩ [p,.agg [i,j,k,a,b,c],.agg [l,n,o,s,d,e]] func139
def vy(p:Nat×Nat):=da m R A0 [p,.agg [i,j,k,a,b,c],l] func140
def vz(p:Nat×Nat):=da m R ⟨[(1,[(4,.I)])],[],[]⟩ [p,a] func141
def pt(p:Nat×Nat):=da m R A0 [p,i] func142
def AU(a:O):=da m R ⟨[(2,[(5,.S)])],[],[]⟩ [a,b] func143
def sV(p:Nat×Nat):=da m R ⟨[(4,[(8,.I)])],[],[(4,[111,110])]⟩ [p,.agg [i,j,k,a,b,c],.agg [l,n,o,s,d,e]] func144
def uw(p:Nat×Nat):=da m R A0 [p,i,j] func145
def CR(a:O):=da m R ⟨[(3,[(5,.I),(6,.I)])],[],[]⟩ [a,i] func146
def Af(a:O):=da m R ⟨[(4,[(39,.I)]),(9,[(64,.I)])],[],[(9,[108])]⟩ [a,b] func147
def oO(p q:Nat×Nat):=da m R A0 [i,p,q] func148
end
section
open Tryz
variable{m:E}{R:Value->E->Prop}
variable{a b c d e f g h p q r u v w x y:O}{i j k l n o s t z A B C D F G H:Int}
def oP(p:Nat×Nat):=da m R A0 [i,p] func149
def qI(b c:O)(d e f g:Int)(h i:O)(a:Fn×Array Value×Array Value):=da m R A0 [.agg [b,c],.agg [d,e,f,g,h,i],.c (.fv a)] func150
def rZ(a:O):=da m R A0 [.agg [a,b],.agg [i,j,k,l,c,d]] func151
def Aa(a:O):=da m R ⟨[(6,[(48,.I)])],[(5,[])],[(5,[69]),(6,[69])]⟩ [a,.agg [i,j,b]] func152
def Ge(a:O):=da m R A0 [a,i] func153
def qL(s:O)(f:Fn×Array Value×Array Value):=da m R ⟨[(2,[(8,.I)])],[],[]⟩ [s,.c (.fv f)] func154
def zq(a:O):=da m R ⟨[(4,[(3,.I)])],[],[]⟩ [a] func155
def Cz(a:O):=da m R ⟨[(2,[(5,.I)])],[],[]⟩ [a,b] func156
def BJ(a:O):=da m R ⟨[(2,[(5,.I)])],[],[]⟩ [a,b] func157
def zn(a:O):=da m R ⟨[(4,[(9,.I)])],[(10,[])],[(4,[241,238,237]),(10,[241,238,237])]⟩ [.agg [a,b],.agg [c,d,i,j,e],k] func158
def EJ(a:O):=da m R A0 [.agg [a,b],i,j,c,d] func159
def EI(a:O):=da m R ⟨[(3,[(4,.I)])],[],[(3,[75,74])]⟩ [.agg [a,b]] func162
def wu(p:Nat×Nat):=da m R ⟨[],[(4,[]),(6,[]),(9,[]),(11,[])],[(4,[37]),(6,[37]),(9,[37]),(11,[37])]⟩ [p] func163
def BA(a:O):=da m R ⟨[(3,[(4,.I)])],[],[(3,[45,44])]⟩ [.agg [a,b]] func164
def AN(a:O):=da m R ⟨[(3,[(4,.I)]),(8,[(6,.S),(7,.I)])],[],[(3,[62,61]),(8,[65,62,61])]⟩ [.agg [a,b]] func165
def AG(p:Nat×Nat):=da m R A0 [p,.agg [i,j,k,l,a,b]] func166
end
end Go.Proofs.YtkoifinbblcbiaaGreat
