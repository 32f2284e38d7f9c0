/- Part of a proof. -/
import Derived.KernelRfl
import Derived.Laws.Append
import Derived.Laws.Cells
import Derived.Laws.Entries
import Derived.Laws.IdiomCopy
import Derived.Orders
import Derived.OrdersHeld
import Derived.Still
import Derived.Tactics
import Derived.Test.YtkoifinbblcbiaaGreatProg
set_option linter.all false
set_option maxHeartbeats 8000000
set_option maxRecDepth 100000
namespace Go.Vc
def ad:=@Nat.le_refl
def ae:=@if_neg
def ai:=@List.mem_cons_of_mem
def aj:=@beq_eq_false_iff_ne
def an:=@if_pos
def ar:=@decide_eq_true_eq
def av:=@List.getElem?_append_left
def aH:=@beq_iff_eq
def aJ:=@List.getElem?_append_right
def aO:=@Nat.lt_of_lt_of_le
def aV:=@List.mem_cons
def aW:=@Nat.lt_or_ge
def aY:=@List.length_cons
def bd:=@List.length_append
def bg:=@List.mem_cons_self
def bq:=@Nat.eq_of_beq_eq_true
def bt:=@Bool.or_eq_false_iff
def bI:=@Nat.le_trans
def bJ:=@List.mem_append_left
def bL:=@Bool.and_eq_true
def bM:=@decide_eq_false_iff_not
def bQ:=@Bool.or_eq_true
def bT:=@Nat.zero_add
def bZ:=@Int.le_refl
def cw:=@List.getElem?_set_ne
def cD:=@List.mem_or_eq_of_mem_set
def cK:=@List.getElem?_map
def cL:=@List.map_cons
def cT:=@List.getElem?_eq_none
def cX:=@List.cons_append
def dh:=@Nat.mul_le_mul_right
def dj:=@Nat.add_assoc
def dm:=@List.take_append_drop
def dx:=@List.getElem?_set_self
def dA:=@List.mem_of_mem_take
def dH:=@List.getElem?_take_of_lt
def dN:=@Nat.zero_le
def dQ:=@Classical.byContradiction
def dR:=@Classical.em
def dY:=@List.append_nil
def dZ:=@List.length_map
def eg:=@List.length_set
def eF:=@List.mem_append_right
def eG:=@List.length_nil
def eH:=@List.nil_append
def eV:=@Nat.mul_one
def eY:=@Nat.not_lt_zero
def fu:=@List.dropLast_concat_getLast
def fw:=@List.map_append
def fx:=@List.take_length
def fE:=@List.append_assoc
def fF:=@List.map_nil
def fN:=@Classical.choose_spec
def fS:=@List.getD_eq_getElem?_getD
def gD:=@List.getLast?_eq_some_getLast
def gE:=@List.set_cons_zero
def gK:=@List.length_take
def gQ:=@Nat.add_mul
def gY:=@List.ext_getElem?
def ij:=@List.getElem?_cons_succ
def iA:=@List.mem_of_getElem?
def iB:=@List.set_cons_succ
def iN:=@bne_eq_false_iff_eq
def iQ:=@Bool.not_eq_true'
def jf:=@Nat.min_eq_left
def js:=@Bool.false_eq_true
def jE:=@List.flatten_cons
def jF:=@List.getElem?_set
def jG:=@Nat.add_zero
def jH:=@Option.map_eq_some_iff
def jI:=@cond_true
def jM:=@Option.some.inj
def jS:=@Array.getElem?_setIfInBounds_ne
def jZ:=@List.not_mem_nil
def j7:=@Nat.eq_zero_or_pos
def kH:=@Ne.symm
def kJ:=@gt_iff_lt
def lG:=@Int.le_add_one
def lH:=@List.getElem?_take
def lI:=@List.mem_singleton
def lJ:=@Array.getElem?_modify
def lK:=@List.getElem?_toArray
def lL:=@Nat.le_of_ble_eq_true
def mz:=@List.flatMap_cons
def mL:=@cond_false
def mQ:=@Array.getElem?_push
def mR:=@List.length_reverse
def ns:=@List.map_toArray
def ny:=@List.take_append_of_le_length
def nG:=@List.take_of_length_le
def nH:=@Nat.lt_of_le_of_lt
def nW:=@Option.map_some
def nX:=@congrArg
def oA:=@ge_iff_le
def oO:=@List.sizeOf_lt_of_mem
def pb:=@Nat.le_succ_of_le
def p7:=@Int.tdiv_eq_ediv_of_nonneg
def qb:=@Nat.succ_mul
def qj:=@List.drop_eq_getElem_cons
def qM:=@List.flatten_append
def qN:=@List.length_take_le
def qO:=@List.replicate_succ
def rK:=@List.set_eq_of_length_le
def rL:=@if_false
def se:=@List.getElem?_drop
def sD:=@List.getElem?_cons_zero
def tX:=@Int.toNat_natCast
def tY:=@List.findIdx_lt_length_of_exists
def tZ:=@List.map_set
def ua:=@Nat.le_of_eq
def ub:=@decide_eq_true
def vD:=@List.prefix_refl
def vE:=@Option.getD_some
def vF:=@bne_iff_ne
def vG:=@not_or
def wS:=@List.mem_of_mem_drop
def wT:=@Nat.le_succ
def zA:=@Array.getD_eq_getD_getElem?
def Ca:=@Array.ext_getElem?
def Cb:=@or_false
def DW:=@List.size_toArray
def DX:=@Option.some.injEq
def HK:=@Nat.add_sub_cancel_left
def HL:=@Nat.le_of_not_lt
def Jv:=@Array.getElem?_eq_none
def Jw:=@Int.lt_or_le
def Jx:=@List.drop_of_length_le
def JX:=@Bool.eq_iff_iff
def MO:=@Bool.not_false
def MP:=@List.set_append_left
def MQ:=@List.take_take
def MR:=@Nat.mul_le_mul
def MT:=@if_true
def NG:=@List.getElem?_range
def NH:=@List.replicate_zero
def NI:=@List.take_succ_cons
def NJ:=@Nat.testBit_two_pow
def Oy:=@Bool.not_true
def Oz:=@Bool.true_and
def OA:=@List.all_cons
def OB:=@List.map_take
def OC:=@Prod.mk.injEq
def PC:=@List.set_eq_take_append_cons_drop
def QM:=@List.any_nil
def QN:=@List.reverse_cons
def QO:=@Nat.le_of_lt
def QP:=@Nat.sub_self
def QQ:=@Nat.zero_mul
def Tn:=@List.range_succ
def Ts:=@Iff.rfl
def Tt:=@dif_pos
def UM:=@List.mapM_cons
def UO:=@Nat.eq_of_mul_eq_mul_right
def UP:=@Nat.testBit_or
def UW:=@Array.mapM_eq_mapM_toList
def UX:=@List.exists_mem_of_ne_nil
def VK:=@Array.getElem?_replicate
def VL:=@Bool.false_or
def VM:=@Bool.or_false
def VN:=@List.eq_of_mem_replicate
def XN:=@List.getElem?_dropLast
def XO:=@List.map_map
def XQ:=@List.mem_map
def XR:=@List.set_set
def XS:=@Nat.sub_zero
def Ye:=@Array.getElem?_mapIdx
def Yf:=@Array.getElem?_toList
def Yg:=@List.set_append_right
def Yh:=@Nat.ble_eq_true_of_le
def Zy:=@Int.add_mul
def ZO:=@Array.length_toList
def ZP:=@Array.toList_zipIdx
def aaj:=@Array.foldl_toList
def aak:=@Bool.not_eq_false'
theorem dit{p A B:Prop}{i:Decidable p}(f:p->A)(g:¬p->B):(decide p=true->A)/\(decide p=false->B):=⟨λh=>f (of_decide_eq_true h),λh=>g (of_decide_eq_false h)⟩
theorem V{p:Prop}(h:p:=by omega):p:=h
theorem aL{p:Prop}(h:p:=by simp):p:=h
theorem bh{p:Prop}(h:p:=by decide):p:=h
theorem bF{p:Prop}(h:p:=by simp;omega):p:=h
end Go.Vc
section
namespace Go.Vc
variable{n:Nat}{a:Act}
abbrev E:=Array Obj
def af(m:E)(b o:Nat):Option Value:=
 match m[b]? with
 |some (.cells c _ _)=>c[o]?
 |_=>none
def vQ(m:E)(b o:Nat):Bool:=
 match m[b]? with
 |some (.cells _ _ (c,a))=>c<=o&&o<a
 |_=>false
def ru(m:E)(b o:Nat)(v:Value):E:=
 m.modify b λ
  | .cells c e f=>.cells (c.setIfInBounds o v) e f
  |x=>x
def zR(w:World)(b o:Nat):w.cell? ⟨b,o,none⟩=af w.heap b o:=by
 simp only[World.cell?,af];cases h:w.heap[b]? with
 |none=>rfl
 |some x=>cases x<;>simp
def Re(w:World)(b o:Nat):w.frozen? ⟨b,o,none⟩=vQ w.heap b o:=by
 simp only[World.frozen?,vQ];cases h:w.heap[b]? with
 |none=>rfl
 |some x=>cases x<;>simp
def Pe(w:World)(b o:Nat)(v:Value):(w.setCell ⟨b,o,none⟩ v).heap=ru w.heap b o v:=by
 simp only[World.setCell,ru];congr 1
structure px(w w':World):Prop where
 os:w'.os=w.os
 tape:w'.tape=w.tape
 output:w'.output=w.output
def px.az(w:World):px w w:=⟨rfl,rfl,rfl⟩
def px.trans{a b c:World}(h:px a b)(k:px b c):px a c:=⟨k.os.trans h.os,k.tape.trans h.tape,k.output.trans h.output⟩
def aN(P:Program)(f:FuncId)(b:List Value)(m:E)(K:Value->E->Prop):Prop:=
 ∀w:World,w.heap=m->Calls P f b.toArray w λe a=>∃v,e=.returned v/\px w a/\K v a.heap
def aN.mono{P:Program}{f:FuncId}{b:List Value}{m:E}{K a:Value->E->Prop}(h:aN P f b m K)
 (e:∀v c,K v c->a v c):aN P f b m a:=
 λw i=>(h w i).mono λ_ _⟨v,d,g,c⟩=>⟨v,d,g,e _ _ c⟩
inductive O where
 |nil
 |mk (b o len cap:Nat)
 |zU (b o sp:Nat)
def O.v:O->Value
 | .nil=>.slice none 0 0
 | .mk b o l c=>.slice (some ⟨b,o,none⟩) l c
 | .zU b o a=>.slice (some ⟨b,o,some a⟩) 0 0
def O.len:O->Nat
 | .nil=>0
 | .mk _ _ l _=>l
 | .zU _ _ _=>0
def O.cap:O->Nat
 | .nil=>0
 | .mk _ _ _ c=>c
 | .zU _ _ _=>0
def O.D:O->Nat
 | .nil=>0
 | .mk b _ _ _=>b
 | .zU b _ _=>b
def O.off:O->Nat
 | .nil=>0
 | .mk _ o _ _=>o
 | .zU _ o _=>o
@[simp] theorem O.So (b o sp:Nat):(O.zU b o sp).len=0:=rfl
@[simp] theorem O.Vg (b o sp:Nat):(O.zU b o sp).cap=0:=rfl
@[simp] theorem O.O6:O.nil.len=0:=rfl
@[simp] theorem O.Vh:O.nil.cap=0:=rfl
@[simp] theorem O.ZE:O.nil.D=0:=rfl
@[simp] theorem O.ZK:O.nil.off=0:=rfl
@[simp] theorem O.gG (b o l c:Nat):(O.mk b o l c).len=l:=rfl
@[simp] theorem O.ON (b o l c:Nat):(O.mk b o l c).cap=c:=rfl
@[simp] theorem O.jC (b o l c:Nat):(O.mk b o l c).D=b:=rfl
@[simp] theorem O.mZ (b o l c:Nat):(O.mk b o l c).off=o:=rfl
def O.Gt:O->Bool
 | .nil=>true
 | .mk _ _ _ _=>false
 | .zU _ _ _=>false
@[simp] theorem O.Ya:O.nil.Gt=true:=rfl
@[simp] theorem O.XZ (b o sp:Nat):(O.zU b o sp).Gt=false:=rfl
@[simp] theorem O.YQ (b o l c:Nat):(O.mk b o l c).Gt=false:=rfl
def O.cz:O->Option Addr
 | .nil=>none
 | .mk b o _ _=>some ⟨b,o,none⟩
 | .zU b o a=>some ⟨b,o,some a⟩
def O.XK(s:O):s.v=.slice s.cz s.len s.cap:=by cases s<;>rfl
inductive Ce where
 |i (n:Int)
 |u (k:IntKind) (n:Int)
 |t (x:Bool)
 |s (x:O)
 |p (b o:Nat)
 |pn
 |fn (f:Fn) (first captured:Array Value)
 |fv (q:Fn×Array Value×Array Value)
 |nf
 |str (x:ByteArray)
 |mp (b:Nat)
 |mn
 |bp (k b o:Nat)
def Ce.v:Ce->Value
 | .i n=>.int .i64 n
 | .u k n=>.int k n
 | .t x=>.bool x
 | .s x=>x.v
 | .p b o=>.pointer (some ⟨b,o,none⟩)
 | .pn=>.pointer none
 | .fn f a c=>.func f a c
 | .fv q=>.func q.1 q.2.1 q.2.2
 | .nf=>.nilFunc
 | .str x=>.string x
 | .mp b=>.map (some b)
 | .mn=>.map none
 | .bp _ b o=>.pointer (some ⟨b,o,none⟩)
inductive AV where
 |c (x:Ce)
 |agg (l:List Ce)
def AV.v:AV->Value
 | .c x=>x.v
 | .agg l=>.agg (l.map Ce.v).toArray
inductive SV where
 |c (x:Ce)
 |tt
 |ff
 |agg (l:List Ce)
 |XJ (l:List AV)
 |un
 |fU
 |box (b e:Nat) (l:List Ce)
 |zO (b e:Nat) (l:List Ce)
def SV.v:SV->Value
 | .c x=>x.v
 | .tt=>.bool true
 | .ff=>.bool false
 | .agg l=>.agg (l.map Ce.v).toArray
 | .XJ l=>.tuple (l.map AV.v).toArray
 | .un=>undef
 | .fU=>undef
 | .box _ _ _=>undef
 | .zO _ _ _=>undef
def SV.Is:SV->Value->Prop
 | .fU,_=>True
 | .box _ _ _,_=>True
 | .zO _ _ _,_=>True
 |s,v=>v=s.v
def AV.sv:AV->SV
 | .c x=>.c x
 | .agg l=>.agg l
def AV.aah(x:AV):x.sv.v=x.v:=by cases x<;>rfl
abbrev Fr:=List (Nat×SV)
def il:Fr->Nat->SV
 |[],_=>.fU
 |(u,x)::r,t=>bif Nat.beq u t then x else il r t
def SV.nb:SV->SV
 | .box _ _ _=>.fU
 | .zO _ _ _=>.fU
 |x=>x
def ud(a:Fr)(d:Option Nat)(x:SV):Fr:=
 match d with
 |some d=>(d,x.nb)::a
 |none=>a
def SV.Ur{x:SV}{v:Value}(h:x.Is v):x.nb.Is v:=by
 cases x<;>first|exact h|trivial
def Ce.lM(x:Ce):x.v.cells=#[x.v]:=by
 cases x with
 |s y=>cases y<;>rfl
 |_=>rfl
def kN:Value->Option Ce
 | .int .i64 n=>some (.i n)
 | .int k n=>some (.u k n)
 | .bool x=>some (.t x)
 | .slice none 0 0=>some (.s .nil)
 | .pointer none=>some .pn
 | .nilFunc=>some .nf
 | .string x=>some (.str x)
 |_=>none
def NY{x:Value}{c:Ce}(h:kN x=some c):c.v=x:=by
 unfold kN at h;split at h<;>simp at h<;>subst h<;>rfl
def pF:List Value->Option (List Ce)
 |[]=>some []
 |v::b=>match kN v,pF b with
  |some c,some a=>some (c::a)
  |_,_=>none
def Lf:∀{b:List Value}{a:List Ce},pF b=some a->a.map Ce.v=b
 |[],_,h=>by simp[pF]at h;subst h;rfl
 |v::b,a,h=>by
  simp only[pF]at h;split at h
  .rename_i e f c d;simp at h;subst h;simp[NY c,Lf d]
  .simp at h
def FW:Value->SV
 | .bool true=>.tt
 | .bool false=>.ff
 | .agg a=>match pF a.toList with
  |some l=>.agg l
  |none=>.fU
 | .tuple a=>bif a.toList.isEmpty then .un else .fU
 |v=>match kN v with
  |some c=>.c c
  |none=>.fU
def Q2(x:Value):(FW x).Is x:=by
 unfold FW;split
 .rfl
 .rfl
 .rename_i a;split
  .rename_i l b;show Value.agg a=.agg (l.map Ce.v).toArray;rw[Lf b]
  .trivial
 .rename_i a;cases h:a.toList.isEmpty
  .trivial
  .show Value.tuple a=undef;have:a=#[]:=by simpa using h
   rw[this];rfl
 .split
  .rename_i c a;exact(NY a).symm
  .trivial
def ev(a:Fr):Operand->SV
 | .tmp t=>(il a t).nb
 | .const v=>FW v
 | .global g=>.c (.p g 0)
 | .func f=>.c (.fn (.func f) #[] #[])
structure j8(n:Nat)(fr:Fr)(a:Act):Prop where
 size:a.tmps.size=n
 defers:a.defers=[]
 aF:∀t,(il fr t).Is (a.tmps.getD t undef)
def j8.ev{b:Fr}(h:j8 n b a)(x:Operand):(ev b x).Is (a.eval x):=by
 cases x with
 |tmp t=>exact SV.Ur (h.aF t)
 |const v=>exact Q2 v
 |global g=>rfl
 |func f=>rfl
def j8.put{n:Nat}{b:Fr}{a:Act}(h:j8 n b a){d:Option Nat}{x:SV}{v:Value}(g:x.Is v)(hd:∀t,d=some t->t<n):
 j8 n (ud b d x) (a.put d v):=by
 cases d with
 |none=>exact h
 |some d=>
  refine⟨by simpa[Act.put]using h.size,h.defers,λt=>?_⟩
  have f:d<a.tmps.size:=by rw[h.size];exact hd d rfl
  simp only[ud,il,Act.put]
  by_cases e:d=t
  .subst e
   simp only[Nat.beq_refl,jI]
   simpa[f]using SV.Ur g
  .have:Nat.beq d t=false:=by
    cases c:Nat.beq d t
    .rfl
    .exact absurd (bq c) e
   simp only[this,mL]
   have:=h.aF t
   simpa[jS e]using this
def j8.cons{b:Fr}(h:j8 n b a)(t:Nat){x:SV}(c:∀v,x.Is v):j8 n ((t,x)::b) a:=by
 refine⟨h.size,h.defers,λu=>?_⟩;simp only[il];cases d:Nat.beq t u
 .exact h.aF u
 .exact c _
def j8.fU{b:Fr}(h:j8 n b a)(t:Nat):j8 n ((t,.fU)::b) a:=by
 refine⟨h.size,h.defers,λu=>?_⟩;simp only[il];cases c:Nat.beq t u
 .exact h.aF u
 .trivial
end Go.Vc
end
section
namespace Go.Vc
variable{P:Program}{t b e:Nat}
inductive Sh where
 |I
 |U (k:IntKind)
 |T
 |S
 |P
 |F
 |M
 deriving DecidableEq
abbrev Sh.ty:Sh->Type
 | .I=>Int
 | .U _=>Int
 | .T=>Bool
 | .S=>O
 | .P=>Nat×Nat
 | .F=>Fn×Array Value×Array Value
 | .M=>Nat
abbrev Sh.mk:(s:Sh)->s.ty->Ce
 | .I,n=>.i n
 | .U k,n=>.u k n
 | .T,x=>.t x
 | .S,x=>.s x
 | .P,q=>.p q.1 q.2
 | .F,v=>.fv v
 | .M,b=>.mp b
def Sh.zero:Sh->Ce
 | .I=>.i 0
 | .U k=>.u k 0
 | .T=>.t false
 | .S=>.s .nil
 | .P=>.pn
 | .F=>.nf
 | .M=>.mn
inductive TK where
 |cell
 |slice (elem:Nat)
 |struct (offs:List (Nat×Nat))
 |tuple (ts:List Nat)
 |map (key elem:Nat)
structure TI where
 Im:TK
 sh:List Sh
 bytes:Nat
abbrev TT:=List (Nat×TI)
def fK:TT->Nat->Option TI
 |[],_=>none
 |(u,x)::r,t=>bif Nat.beq u t then some x else fK r t
def Pg:Sh->Value->Bool
 | .I,.int .i64 0=>true
 | .U k,.int a 0=>decide (k=a)
 | .T,.bool false=>true
 | .S,.slice none 0 0=>true
 | .P,.pointer none=>true
 | .F,.nilFunc=>true
 | .M,.map none=>true
 |_,_=>false
def Ph{s:Sh}{v:Value}(h:Pg s v=true):v=s.zero.v:=by
 unfold Pg at h;split at h<;>first|rfl|(simp at h;subst h;rfl)|simp at h
def FA:List Value->List Sh->Bool
 |[],[]=>true
 |v::b,s::a=>Pg s v&&FA b a
 |_,_=>false
def BZ:∀{b:List Value}{a:List Sh},FA b a=true->b=a.map λs=>s.zero.v
 |[],[],_=>rfl
 |v::b,s::a,h=>by
  simp only[FA,bL]at h;simp[Ph h.1,BZ h.2]
 |[],_::_,h=>by simp[FA]at h
 |_::_,[],h=>by simp[FA]at h
def Od:List Field->List (Nat×Nat)->Bool
 |[],[]=>true
 |f::a,(o,t)::r=>Nat.beq f.offset o&&Nat.beq f.type t&&Od a r
 |_,_=>false
def LV:∀{a:List Field}{b:List (Nat×Nat)},Od a b=true->a.map (λf=>(f.offset,f.type))=b
 |[],[],_=>rfl
 |f::a,(o,t)::r,h=>by
  simp only[Od,bL]at h;simp[bq h.1.1,bq h.1.2,LV h.2]
 |[],_::_,h=>by simp[Od]at h
 |_::_,[],h=>by simp[Od]at h
def Ar:TypeDesc->List Sh->Bool
 | .bool,[.T]=>true
 | .int .i64,[.I]=>true
 | .int k,[.U k']=>decide (k=k')
 | .pointer _,[.P]=>true
 | .func ..,[.F]=>true
 |_,_=>false
def Ci(i:TypeInfo)(a:TI)(b:Bool):Bool:=
 Nat.beq i.size a.sh.length&&Nat.beq i.bytes a.bytes&&
 (match i.zero with
  |some (.agg c)=>b&&FA c.toList a.sh
  |some z=>!b&&FA [z] a.sh
  |none=>false)
def Y1(t:Nat):Nat:=t+1000000
def Vj(P:Program)(t:Nat):Bool:=
 match P.underlying t with
 |some (.struct a)=>a.toList.all (λf=>f.name != "_")&&!P.stoodInHeld t&&!P.eqGuardType P.depth t
 |_=>false
def yC(P:Program)(t:Nat)(a:TI):Bool:=
 match a.Im with
 | .tuple _=>if t<1000000 then true else Vj P (t -1000000)
 | .slice e=>match P.info? t,P.underlying t with
  |some i,some (.slice b)=>Nat.beq e b&&Ci i a false
  |_,_=>false
 | .struct d=>match P.info? t,P.underlying t with
  |some i,some (.struct c)=>Od c.toList d&&Ci i a true
  |_,_=>false
 | .map k e=>match P.info? t,P.underlying t with
  |some i,some (.map c b)=>Nat.beq k c&&Nat.beq e b&&Ci i a false
  |_,_=>false
 | .cell=>match P.info? t,P.underlying t with
  |some i,some d=>Ar d a.sh&&Ci i a false
  |_,_=>false
def uw(P:Program)(T:TT):Prop:=T.all (λx=>yC P x.1 x.2)=true
def QC:∀{T:TT}{t:Nat}{b:TI},fK T t=some b->(t,b)∈T
 |[],_,_,h=>by simp[fK]at h
 |(u,x)::r,t,b,h=>by
  simp only[fK]at h;cases a:Nat.beq u t
  .rw[a]at h;exact ai _ (QC h)
  .rw[a]at h;have:=bq a;simp at h;subst h;subst this;exact bg
def uw.yC{T:TT}(h:uw P T){a:TI}(b:fK T t=some a):yC P t a=true:=
 List.all_eq_true.1 h _ (QC b)
def uw.cmp{T:TT}(h:uw P T){l:List Nat}{c:List Sh}(a:fK T (Y1 t)=some ⟨.tuple l,c,b⟩):Vj P t=true:=by
 have:=h.yC a;simp only[Go.Vc.yC]at this;rw[ae (by unfold Y1;omega),show Y1 t -1000000=t by unfold Y1;omega]at this;exact this
structure KT(P:Program)(t:Nat)(ti:TI)(agg:Bool):Prop where
 aao:∃i,P.info? t=some i/\i.size=ti.sh.length/\i.bytes=ti.bytes/\
  ∃z,i.zero=some z/\z.cells.toList=(ti.sh.map λs=>s.zero.v)/\(agg=false->∀cs,z≠.agg cs)
def sM{g:TI}{i:TypeInfo}{c:Bool}(j:P.info? t=some i)(h:Ci i g c=true):KT P t g c:=by
 simp only[Ci,bL]at h;refine⟨i,j,bq h.1.1,bq h.1.2,?_⟩;have a:=h.2;split at a
 .rename_i d b;simp only[bL]at a;exact⟨_,b,by simpa[Value.cells]using BZ a.2,λf=>by rw[f]at a;simp at a⟩
 .rename_i z f b;simp only[bL]at a;refine⟨_,b,?_,λ_ d e=>f d (by rw[e])⟩;have:=BZ a.2;rw[<-this];cases z<;>first|rfl|exact(f _ rfl).elim
 .simp at a
def kj{a:List Sh}(h:yC P t ⟨.slice e,a,b⟩=true):P.underlying t=some (.slice e)/\KT P t ⟨.slice e,a,b⟩ false:=by
 simp only[yC]at h;split at h
 .rename_i i f c d;simp only[bL]at h;have:=bq h.1;subst this;exact⟨d,sM c h.2⟩
 .simp at h
def Ct{k:Nat}{a:List Sh}(h:yC P t ⟨.map k e,a,b⟩=true):P.underlying t=some (.map k e)/\KT P t ⟨.map k e,a,b⟩ false:=by
 simp only[yC]at h;split at h
 .rename_i j l i f g;simp only[bL]at h;have c:=bq h.1.1;have d:=bq h.1.2;subst c;subst d;exact⟨g,sM f h.2⟩
 .simp at h
def nk{c:List (Nat×Nat)}{d:List Sh}(h:yC P t ⟨.struct c,d,b⟩=true):
 (∃a,P.underlying t=some (.struct a)/\a.toList.map (λf=>(f.offset,f.type))=c)/\KT P t ⟨.struct c,d,b⟩ true:=by
 simp only[yC]at h
 split at h
 .rename_i i a e f
  simp only[bL]at h
  exact⟨⟨a,f,LV h.1⟩,sM e h.2⟩
 .simp at h
def nV{a:List Sh}(h:yC P t ⟨.cell,a,b⟩=true):
 (∃d,P.underlying t=some d/\Ar d a=true)/\KT P t ⟨.cell,a,b⟩ false:=by
 simp only[yC]at h
 split at h
 .rename_i i d c e
  simp only[bL]at h
  exact⟨⟨d,e,h.1⟩,sM c h.2⟩
 .simp at h
def TI.agg(a:TI):Bool:=match a.Im with| .struct _=>true|_=>false
def TI.uH(a:TI):Bool:=match a.Im with| .tuple _=>true|_=>false
def kD{T:TT}(f:uw P T){d:TI}(g:fK T t=some d)(j:d.uH=false)(w:World):
 (sizeOf t).run P w=.ok d.sh.length w:=by
 have h:=f.yC g
 obtain⟨Im,k,b⟩:=d
 have:∃i,P.info? t=some i/\i.size=k.length:=by
  cases Im with
  |cell=>obtain⟨_,⟨i,a,c,_⟩⟩:=nV h;exact⟨i,a,c⟩
  |slice e=>obtain⟨_,⟨i,a,c,_⟩⟩:=kj h;exact⟨i,a,c⟩
  |map l e=>obtain⟨_,⟨i,a,c,_⟩⟩:=Ct h;exact⟨i,a,c⟩
  |struct o=>obtain⟨_,⟨i,a,c,_⟩⟩:=nk h;exact⟨i,a,c⟩
  |tuple l=>simp[TI.uH]at j
 obtain⟨i,a,c⟩:=this
 simp[sizeOf,typeInfo,a,c]
def GK{T:TT}(g:uw P T){f:TI}(j:fK T t=some f)(k:f.uH=false):
 ∃i,i.bytes=f.bytes/\i.size=f.sh.length/\(∀w,(typeInfo t).run P w=.ok i w)/\P.info? t=some i:=by
 have h:=g.yC j
 obtain⟨Im,l,b⟩:=f
 have:∃i,P.info? t=some i/\i.size=l.length/\i.bytes=b:=by
  cases Im with
  |cell=>obtain⟨_,⟨i,a,c,d,_⟩⟩:=nV h;exact⟨i,a,c,d⟩
  |slice e=>obtain⟨_,⟨i,a,c,d,_⟩⟩:=kj h;exact⟨i,a,c,d⟩
  |map m e=>obtain⟨_,⟨i,a,c,d,_⟩⟩:=Ct h;exact⟨i,a,c,d⟩
  |struct o=>obtain⟨_,⟨i,a,c,d,_⟩⟩:=nk h;exact⟨i,a,c,d⟩
  |tuple m=>simp[TI.uH]at k
 obtain⟨i,a,c,d⟩:=this
 exact⟨i,d,c,λw=>by simp[typeInfo,a],a⟩
def wm{T:TT}(m:uw P T){k:TI}(n:fK T t=some k)(o:k.uH=false):
 ∃z,z.cells.toList=k.sh.map (λs=>s.zero.v)/\(∀w,(zeroValue t).run P w=.ok z w)/\(k.agg=false->∀a,z≠.agg a):=by
 have h:=m.yC n
 obtain⟨Im,l,b⟩:=k
 have:∃i,P.info? t=some i/\∃z,i.zero=some z/\z.cells.toList=(l.map λs=>s.zero.v)/\((TI.mk Im l b).agg=false->∀a,z≠.agg a):=by
  cases Im with
  |cell=>obtain⟨_,⟨i,a,g,j,z,c,d,f⟩⟩:=nV h;exact⟨i,a,z,c,d,λ_=>f rfl⟩
  |slice e=>obtain⟨_,⟨i,a,g,j,z,c,d,f⟩⟩:=kj h;exact⟨i,a,z,c,d,λ_=>f rfl⟩
  |map p e=>obtain⟨_,⟨i,a,g,j,z,c,d,f⟩⟩:=Ct h;exact⟨i,a,z,c,d,λ_=>f rfl⟩
  |struct p=>obtain⟨_,⟨i,a,g,j,z,c,d,f⟩⟩:=nk h;exact⟨i,a,z,c,d,λh=>by simp[TI.agg]at h⟩
  |tuple d=>simp[TI.uH]at o
 obtain⟨i,a,z,g,j,c⟩:=this
 exact⟨z,j,λw=>by simp[zeroValue,typeInfo,a,g],c⟩
def IE{T:TT}(d:uw P T){a:TI}(f:fK T t=some a)(g:a.uH=false)(w:World):
 (isAgg t).run P w=.ok a.agg w:=by
 have h:=d.yC f
 obtain⟨Im,j,b⟩:=a
 cases Im with
 |cell=>
  obtain⟨⟨i,hd,c⟩,_⟩:=nV h
  unfold Ar at c
  split at c<;>first|(simp at c;done)|simp[isAgg,run_underlying hd,TI.agg]
 |slice e=>obtain⟨hd,_⟩:=kj h;simp[isAgg,run_underlying hd,TI.agg]
 |map k e=>obtain⟨hd,_⟩:=Ct h;simp[isAgg,run_underlying hd,TI.agg]
 |struct o=>obtain⟨⟨c,hd,_⟩,_⟩:=nk h;simp[isAgg,run_underlying hd,TI.agg]
 |tuple c=>simp[TI.uH]at g
end Go.Vc
end
section
namespace Go.Vc
def lz:SV->Option Bool
 | .tt=>some true
 | .ff=>some false
 | .c (.t x)=>some x
 |_=>none
def SV.jJ:SV->Bool
 | .fU=>false
 | .box _ _ _=>false
 | .zO _ _ _=>false
 |_=>true
def cU(n:Int):Int:=IntKind.i64.wrap n
def Iu{α:Type}:List α->Nat->Option α
 |[],_=>none
 |x::_,0=>some x
 |_::r,n+1=>Iu r n
def pL{α:Type}:∀(l:List α)(n:Nat),Iu l n=l[n]?
 |[],_=>by simp[Iu]
 |x::_,0=>by simp[Iu]
 |_::r,n+1=>by simp[Iu,pL r n]
def Wg(m:E)(b o:Nat):Nat->List Sh->(List Ce->Prop)->Prop
 |_,[],k=>k []
 |j,s::r,k=>∃x:s.ty,af m b (o+j)=some (s.mk x).v/\Wg m b o (j+1) r λl=>k (s.mk x::l)
def VI(a b:Int):Int:=cU ((a%18446744073709551616).toNat^^^(b%18446744073709551616).toNat:Nat)
def rR(c:BinOp)(a b:Int)(k:SV->Prop):Prop:=
 match c with
 | .add=>k (.c (.i (cU (a+b))))
 | .sub=>k (.c (.i (cU (a -b))))
 | .mul=>k (.c (.i (cU (a*b))))
 | .quo=>b≠0/\k (.c (.i (cU (a.tdiv b))))
 | .rem=>b≠0/\k (.c (.i (a.tmod b)))
 | .xor=>k (.c (.i (VI a b)))
 | .eql=>k (.c (.t (a==b)))
 | .neq=>k (.c (.t (a !=b)))
 | .lss=>k (.c (.t (decide (a<b))))
 | .leq=>k (.c (.t (decide (a<=b))))
 | .gtr=>k (.c (.t (decide (a>b))))
 | .geq=>k (.c (.t (decide (a>=b))))
 |_=>False
def Vb(c:BinOp)(a b:Bool)(k:SV->Prop):Prop:=
 match c with
 | .eql=>k (.c (.t (a==b)))
 | .neq=>k (.c (.t (!(a==b))))
 |_=>False
def Vt(a:BinOp)(s:O)(k:SV->Prop):Prop:=
 match a with
 | .eql=>k (.c (.t s.Gt))
 | .neq=>k (.c (.t (!s.Gt)))
 |_=>False
def ZN(a:UnOp)(x:SV)(k:SV->Prop):Prop:=
 match a,x with
 | .not,.tt=>k .ff
 | .not,.ff=>k .tt
 | .not,.c (.t b)=>k (.c (.t (!b)))
 | .neg,.c (.i n)=>k (.c (.i (cU (0 -n))))
 |_,_=>False
def O.cut(x:O)(a d e:Nat):O:=
 match x with
 | .nil=>.nil
 | .mk b o _ c=>.mk b (if c=a then o else o+a*e) (d -a) (c -a)
 | .zU b o c=>.zU b o c
def SV.cells:SV->Option (List Ce)
 | .c x=>some [x]
 | .tt=>some [.t true]
 | .ff=>some [.t false]
 | .agg l=>some l
 |_=>none
def mj(l:List Ce)(b:Nat)(a:List Ce):List Ce:=
 match b,l with
 |0,l=>match a,l with
  |[],l=>l
  |n::a,_::l=>n::mj l 0 a
  |_::_,[]=>[]
 |b+1,x::l=>x::mj l b a
 |_+1,[]=>[]
termination_by structural l
def FT(T:TT)(c:Fr)(e:List (Nat×Nat)):List Ce->List (Nat×Operand)->(List Ce->Prop)->Prop
 |a,[],k=>k a
 |a,(i,x)::r,k=>
  match Iu e i,(ev c x).cells with
  |some (d,t),some b=>
   match fK T t with
   |some f=>bif !f.uH&&Nat.beq b.length f.sh.length&&Nat.ble (d+b.length) a.length then FT T c e (mj a d b) r k else False
   |none=>False
  |_,_=>False
def vn(T:TT):List (Nat×Nat)->Bool
 |[]=>true
 |(_,t)::r=>(match fK T t with|some a=>!a.uH|none=>false)&&vn T r
def Nm(a:Fr)(x:Option Operand)(d:Int)(k:Int->Prop):Prop:=
 match x with
 |none=>k d
 |some x=>match ev a x with
  | .c (.i n)=>k n
  |_=>False
def Xx(T:TT)(t:Nat)(s:O)(n:Int)(k:SV->Prop):Prop:=
 match fK T t with
 |some ⟨.slice e,_,_⟩=>match fK T e with
  |some a=>bif a.uH then False else 0<=n/\n<(s.len:Int)/\k (.c (.p s.D (s.off+n.toNat*a.sh.length)))
  |none=>False
 |_=>False
def Qg(T:TT)(m:E)(t b o:Nat)(k:SV->Prop):Prop:=
 match fK T t with
 |some ⟨.struct _,a,_⟩=>Wg m b o 0 a λl=>k (.agg l)
 |some ⟨.cell,[s],_⟩=>∃x:s.ty,af m b o=some (s.mk x).v/\k (.c (s.mk x))
 |some ⟨.slice _,[_],_⟩=>∃x:O,af m b o=some x.v/\k (.c (.s x))
 |_=>False
def RE(T:TT)(a:Fr)(t:Nat)(s:O)(d c:Option Operand)(k:SV->Prop):Prop:=
 match fK T t with
 |some ⟨.slice e,_,_⟩=>match fK T e with
  |some b=>bif b.uH then False else
   Nm a d 0 λl=>Nm a c (s.len:Int) λh=>0<=l/\l<=h/\h<=(s.cap:Int)/\k (.c (.s (s.cut l.toNat h.toNat b.sh.length)))
  |none=>False
 |_=>False
def OV(T:TT)(t f:Nat)(l:List Ce)(k:SV->Prop):Prop:=
 match fK T t with
 |some ⟨.struct c,_,_⟩=>match Iu c f with
  |some (b,u)=>match fK T u with
   |some a=>bif a.uH then False else bif a.agg then k (.agg ((l.drop b).take a.sh.length))else(match Iu l b with|some x=>k (.c x)|none=>False)
   |none=>False
  |none=>False
 |_=>False
def FZ(T:TT)(t f o:Nat)(mk:Nat->SV)(k:SV->Prop):Prop:=
 match fK T t with
 |some ⟨.struct c,_,_⟩=>match Iu c f with
  |some (b,u)=>match fK T u with
   |some a=>bif a.uH||Nat.beq a.sh.length 0 then False else k (mk (o+b))
   |none=>False
  |none=>False
 |_=>False
def MZ(a b:Nat)(k:Prop):Prop:=a=b/\k
def aC(b:Nat)(k:Prop):MZ b b k=k:=by simp[MZ]
def HB:List Ce->Nat->Nat->Option (List Ce)
 |_,_,0=>some []
 |l,o,n+1=>match Iu l o,HB l (o+1) n with
  |some c,some r=>some (c::r)
  |_,_=>none
def NW(T:TT)(t:Nat)(a:List Ce)(o:Nat)(k:SV->Prop):Prop:=
 match fK T t with
 |some ⟨.struct _,b,_⟩=>match HB a o b.length with
  |some l=>k (.agg l)
  |none=>False
 |some ⟨.cell,[_],_⟩=>match Iu a o with
  |some c=>k (.c c)
  |none=>False
 |some ⟨.slice _,[_],_⟩=>match Iu a o with
  |some c=>k (.c c)
  |none=>False
 |some ⟨.map _ _,[_],_⟩=>match Iu a o with
  |some c=>k (.c c)
  |none=>False
 |_=>False
def TP(T:TT)(c:Fr)(d:Builtin)(e:List Nat)(f:List Operand)(k:SV->Prop):Prop:=
 match d,e,f with
 | .len,[t],[x]=>match fK T t,ev c x with
  |some ⟨.slice _,_,_⟩,.c (.s s)=>k (.c (.i (s.len:Int)))
  |_,_=>False
 | .max,_,[x,y]=>match ev c x,ev c y with
  | .c (.i a),.c (.i b)=>k (.c (.i (if b>a then b else a)))
  |_,_=>False
 | .min,_,[x,y]=>match ev c x,ev c y with
  | .c (.i a),.c (.i b)=>k (.c (.i (if b<a then b else a)))
  |_,_=>False
 |_,_,_=>False
def XY(T:TT):Nat->List (Nat×Nat)->List Ce->List Ce->Option Bool
 |_,[],[],[]=>some true
 |i,(o,u)::c,.i a::l,.i b::r=>bif Nat.beq o i then match fK T u,XY T (i+1) c l r with
  |some ⟨.cell,[.I],_⟩,some z=>some (a==b&&z)
  |_,_=>none else none
 |_,_,_,_=>none
def eqA(T:TT)(t:Nat)(l r:List Ce)(k:SV->Prop):Prop:=
 match fK T (Y1 t),fK T t with
 |some ⟨.tuple _,_,_⟩,some ⟨.struct a,_,_⟩=>match XY T 0 a l r with
  |some z=>k (.c (.t z))
  |none=>False
 |_,_=>False
def rd(T:TT)(a:Fr)(m:E)(k:SV->Prop):Op->Prop
 | .move x| .assign x=>k (ev a x)
 | .pick d c b=>match ev a d with
  | .tt=>k (ev a c)
  | .ff=>k (ev a b)
  | .c (.t x)=>match lz (ev a c),lz (ev a b)with
   |some y,some z=>k (.c (.t (bif x then y else z)))
   |_,_=>False
  |_=>False
 | .nilCheck x=>match ev a x with
  | .c (.p b o)=>k (.c (.p b o))
  | .c (.bp q b o)=>k (.c (.bp q b o))
  | .c (.fn (.func f) c d)=>k (.c (.fn (.func f) c d))
  | .c (.fv q)=>∃g,q.1=.func g/\k (.c (.fv q))
  |_=>False
 | .binOp d t x y _=>match ev a x,ev a y with
  | .c (.i c),.c (.i b)=>rR d c b k
  | .c (.s s),.c (.s .nil)=>match fK T t with
   |some ⟨.slice _,_,_⟩=>Vt d s k
   |_=>False
  | .agg l,.agg r=>match d with
   | .eql=>eqA T t l r k
   |_=>False
  |sx,e=>match fK T t,lz sx,lz e with
   |some ⟨.cell,[.T],_⟩,some c,some b=>Vb d c b k
   |_,_,_=>False
 | .unOp d _ x=>ZN d (ev a x) k
 | .convert s t x=>match fK T s,fK T t,ev a x with
  |some ⟨.cell,[_],_⟩,some ⟨.cell,[.I],_⟩,.c (.u _ n)=>k (.c (.i (cU n)))
  |_,_,_=>False
 | .fieldAddr t x f=>match ev a x with
  | .c (.p b o)=>FZ T t f o (λo=>.c (.p b o)) k
  | .c (.bp q b o)=>FZ T t f o (λo=>.c (.bp q b o)) k
  |_=>False
 | .field t x f=>match ev a x with
  | .agg l=>OV T t f l k
  |_=>False
 | .indexAddr t x i=>match ev a x,ev a i with
  | .c (.s s),.c (.i n)=>Xx T t s n k
  |_,_=>False
 | .load t x=>match ev a x with
  | .c (.p b o)=>Qg T m t b o k
  | .c (.bp q b o)=>match il a q with
   | .box c _ d=>MZ c b (NW T t d o k)
   | .zO c _ d=>MZ c b (NW T t d o k)
   |_=>Qg T m t b o k
  |_=>False
 | .extract x i=>match ev a x with
  | .XJ l=>match Iu l i with
   |some y=>k y.sv
   |none=>False
  |_=>False
 | .slice t x c b none=>match ev a x with
  | .c (.s s)=>RE T a t s c b k
  |_=>False
 | .build t c=>match fK T t with
  |some ⟨.struct b,d,_⟩=>bif vn T b then FT T a b (d.map Sh.zero) c.toList λl=>k (.agg l)else False
  |_=>False
 | .call ⟨.builtin c,b,d⟩=>TP T a c d.toList b.toList k
 |_=>False
def lO(a:Fr)(q b e:Nat)(l:List Ce):Prop:=il a q=.box b e l\/il a q=.zO b e l
structure Bx(n:Nat)(fr:Fr)(m:E):Prop where
 D:∀q b e l,lO fr q b e l->m[b]? =some (.cells (l.map Ce.v).toArray e)
 OP:∀q q' b e l b' e' l',q≠q'->lO fr q b e l->lO fr q' b' e' l'->b≠b'
 key:∀q b e l,lO fr q b e l->n<=q
def Tq(T:TT)(c:Fr):Op->List (Nat×Nat)
 | .load t x=>match ev c x,fK T t with
  | .c (.p b o),some a=>(List.range a.sh.length).map λj=>(b,o+j)
  | .c (.bp _ b o),some a=>(List.range a.sh.length).map λj=>(b,o+j)
  |_,_=>[]
 |_=>[]
end Go.Vc
end
section
namespace Go.Vc
variable{s:SV}{b:Bool}
def SV.Is.eq{v:Value}(h:s.Is v)(a:s.jJ=true):v=s.v:=by
 cases s<;>first|exact h|simp[SV.jJ]at a
def nN(s:SV):s.Is s.v:=by cases s<;>first|rfl|trivial
def j8.eq{n:Nat}{b:Fr}{a:Act}(h:j8 n b a){x:Operand}{s:SV}(c:Vc.ev b x=s)(d:s.jJ=true):a.eval x=s.v:=by
 have:=h.ev x;rw[c]at this;exact this.eq d
def wW(h:lz s=some b):s.jJ=true/\s.v=.bool b:=by
 unfold lz at h;split at h<;>simp_all [SV.jJ,SV.v,Ce.v]
def j8.ZG{n:Nat}{c:Fr}{a:Act}(h:j8 n c a){x:Operand}(d:lz (Vc.ev c x)=some b):a.eval x=.bool b:=by
 rw[h.eq rfl (wW d).1,(wW d).2]
def vP(b o n:Nat):(⟨b,o,none⟩:Addr).add n=⟨b,o+n,none⟩:=by
 unfold Addr.add;split
 .rename_i h;subst h;rfl
 .rfl
def Cn:∀(l:List Ce)(a:Nat)(b:List Ce)(i:Nat),a+b.length<=l.length->
 (mj l a b)[i]? =if a<=i/\i<a+b.length then b[i -a]? else l[i]?
 |[],0,[],i,_=>by simp[mj]
 |[],0,_::_,_,h=>by simp at h
 |[],_+1,_,_,h=>by simp at h
 |x::l,0,[],i,_=>by simp[mj]
 |x::l,0,n::b,i,h=>by
  simp only[mj];cases i with
  |zero=>simp
  |succ i=>
   have:=Cn l 0 b i (by simp at h;omega);simp only[ij,this];simp
 |x::l,a+1,b,i,h=>by
  simp only[mj];cases i with
  |zero=>simp
  |succ i=>
   have:=Cn l a b i (by simp at h;omega);simp only[ij,this];have e:(i+1 -(a+1))=i -a:=V;simp only[e];congr 1;simp;omega
def N3(c:List Value):∀(k a:Nat)(b:Array Value)(i:Nat),
 ((c.zipIdx k).foldl (λ(d:Array Value)(p:Value×Nat)=>d.setIfInBounds (a+p.2) p.1) b)[i]? =
  if a+k<=i/\i<a+k+c.length/\i<b.size then c[i -(a+k)]? else b[i]? :=by
 induction c with
 |nil=>intro k a b i;simp;intro h;omega
 |cons v c g=>
  intro k a b i
  simp only[List.zipIdx_cons,List.foldl_cons,g,Array.size_setIfInBounds,aY]
  by_cases d:i=a+k
  .subst d
   by_cases e:a+k<b.size
   .simp[e];try omega
   .simp[e];try omega
  .have:¬(a+k=i):=λf=>d f.symm
   rw[jS this]
   by_cases e:a+k<=i/\i<a+k+(c.length+1)/\i<b.size
   .rw[an e,an V]
    have:i -(a+k)=(i -(a+(k+1)))+1:=V
    rw[this,ij]
   .rw[ae e,ae V]
def pE{l:List Ce}(h:s.cells=some l):s.jJ=true/\s.v.cells=(l.map Ce.v).toArray:=by
 cases s with
 |c x=>simp[SV.cells]at h;subst h;exact⟨rfl,by simp[SV.v,Ce.lM]⟩
 |tt=>simp[SV.cells]at h;subst h;exact⟨rfl,rfl⟩
 |ff=>simp[SV.cells]at h;subst h;exact⟨rfl,rfl⟩
 |agg a=>simp[SV.cells]at h;subst h;exact⟨rfl,rfl⟩
 |XJ _=>simp[SV.cells]at h
 |un=>simp[SV.cells]at h
 |fU=>simp[SV.cells]at h
 |box _ _ _=>simp[SV.cells]at h
 |zO _ _ _=>simp[SV.cells]at h
end Go.Vc
end
section
namespace Go.Vc
variable{x y:Operand}{c:TypeId}{h b f o:Nat}{g:List Ce}
variable{e:Program}{T:TT}
def oR(e:Program)(T:TT)(b:Fr)(m:E)(a:Act)(o:Oper)(k:SV->Prop):Prop:=
 ∃x v,k x/\x.Is v/\∀w:World,(∀q∈Tq T b o.op,af w.heap q.1 q.2=af m q.1 q.2)->(execOp a.eval o).run e w=.ok (.value v) w
section
variable{n:Nat}{i:Fr}{a:Act}{j:E}{k:SV->Prop}{q:Option Tmp}{v:TypeId}{u:String}{p:Array Edge}{r:Option (Nat×Bool)}
def Ui(b:j8 n i a)(h:k (ev i x)):oR e T i j a ⟨q,.move x,v,u,p,r⟩ k:=
 ⟨_,_,h,b.ev x,λw _=>by simp[execOp]⟩
def SY(b:j8 n i a)(h:k (ev i x)):oR e T i j a ⟨q,.assign x,v,u,p,r⟩ k:=
 ⟨_,_,h,b.ev x,λw _=>by simp[execOp]⟩
def Ri(c:j8 n i a){f:Operand}(h:rd T i j k (.pick f x y)):oR e T i j a ⟨q,.pick f x y,v,u,p,r⟩ k:=by
 simp only[rd]at h;split at h
 .rename_i d;exact⟨_,_,h,c.ev x,λw _=>by simp[execOp,c.eq d rfl,SV.v,asBool]⟩
 .rename_i d;exact⟨_,_,h,c.ev y,λw _=>by simp[execOp,c.eq d rfl,SV.v,asBool]⟩
 .rename_i b d;split at h
  .rename_i m o g l;refine⟨_,_,h,nN _,λw _=>?_⟩;simp[execOp,c.eq d rfl,SV.v,Ce.v,asBool,c.ZG g,c.ZG l];try (cases b<;>rfl)
  .exact h.elim
 .exact h.elim
def Lt(d:j8 n i a)(h:rd T i j k (.nilCheck x)):oR e T i j a ⟨q,.nilCheck x,v,u,p,r⟩ k:=by
 simp only[rd]at h;split at h
 .rename_i b o c;exact⟨_,_,h,nN _,λw _=>by simp[execOp,d.eq c rfl,SV.v,Ce.v]⟩
 .rename_i m b o c;exact⟨_,_,h,nN _,λw _=>by simp[execOp,d.eq c rfl,SV.v,Ce.v]⟩
 .rename_i f g l c;exact⟨_,_,h,nN _,λw _=>by simp[execOp,d.eq c rfl,SV.v,Ce.v]⟩
 .rename_i m c;obtain⟨s,g,l⟩:=h;exact⟨_,_,l,nN _,λw _=>by simp[execOp,d.eq c rfl,SV.v,Ce.v,g]⟩
 .exact h.elim
def Vd{a:BinOp}{x y:Int}(h:rR a x y k):∃s v,k s/\s.Is v/\∀w:World,(binOp a c (.int .i64 x) (.int .i64 y)).run e w=.ok v w:=by
 cases a<;>simp only[rR]at h
 case quo=>exact⟨_,_,h.2,nN _,λw=>by simp[binOp,Op.intDiv,h.1,SV.v,Ce.v,cU]⟩
 case rem=>exact⟨_,_,h.2,nN _,λw=>by simp[binOp,Op.intDiv,h.1,SV.v,Ce.v]⟩
 case xor=>exact⟨_,_,h,nN _,λw=>by simp[binOp,Op.intBits,SV.v,Ce.v,cU,VI,IntKind.bits];rfl⟩
 all_goals exact⟨_,_,h,nN _,λw=>by simp[binOp,Op.intArith,Op.intCmp,SV.v,Ce.v,cU]⟩
def P1(a:BinOp)(c:TypeId)(d f:Operand)(b:IntKind)(x:Int)(y:Value)(w:World):(eqGuard a c d f (.int b x) y).run e w=.ok () w:=by
 cases a<;>simp[eqGuard]
def OT(a:BinOp)(c:TypeId)(b d:Operand)(x:Bool)(y:Value)(w:World):(eqGuard a c b d (.bool x) y).run e w=.ok () w:=by
 cases a<;>simp[eqGuard]
def Q7(hd:e.underlying c=some .bool)(x y:Bool)(w:World):(Op.equal c (.bool x) (.bool y)).run e w=.ok (x==y) w:=by
 have:Op.equal c (.bool x) (.bool y)=Op.equalIn (9999+1) c (.bool x) (.bool y):=rfl;rw[this];generalize 9999=h;simp[Op.equalIn,run_underlying hd]
def J0{a:TypeId}(hd:e.underlying c=some (.slice a))(s:O)(w:World):(Op.equal c s.v (.slice none 0 0)).run e w=.ok s.Gt w:=by
 have:Op.equal c s.v (.slice none 0 0)=Op.equalIn (9999+1) c s.v (.slice none 0 0):=rfl;rw[this];generalize 9999=h;cases s<;>simp[Op.equalIn,run_underlying hd,O.v]
def P2(hd:e.underlying c=some (.int .i64))(x y:Int)(w:World):(Op.equalIn (h+1) c (.int .i64 x) (.int .i64 y)).run e w=.ok (x==y) w:=by
 simp[Op.equalIn,run_underlying hd]
def Qk(d:uw e T){u:Nat}(f:fK T u=some ⟨.cell,[.I],b⟩){a:Array Value}{c:Nat}{v:Value}(h:a[c]? =some v)(w:World):(part u a c).run e w=.ok v w:=by
 simp[part,IE d f rfl,TI.agg,h]
def Ue(n:uw e T){X Y:Array Value}(A:World):∀(j:List Field)(i:Nat)(l:List (Nat×Nat))(g r:List Ce)(z:Bool),j.map (λf=>(f.offset,f.type))=l->(∀f∈j,f.name≠ "_")->
 (∀k d,g[k]? =some d->X[i+k]? =some d.v)->(∀k d,r[k]? =some d->Y[i+k]? =some d.v)->XY T i l g r=some z->
 (forIn (m:=Sem) j ((none,()):Option Bool×PUnit) λf _=>do
  if f.name≠ "_" then
   if !(<-Op.equalIn (h+1) f.type (<-part f.type X f.offset) (<-part f.type Y f.offset))then pure (.done (some false,()))else pure (.yield (none,()))
  else pure (.yield (none,()))).run e A=.ok (if z=true then(none,())else(some false,())) A:=by
 intro j
 induction j with
 |nil=>
  intro i l g r z u v p q c
  subst u
  cases g<;>cases r<;>simp[XY]at c
  subst c
  simp
 |cons f j K=>
  intro i l g r z u v p q c
  subst u
  simp only[cL]at c
  unfold XY at c
  split at c
  .simp at*
  .rename_i i _ _ _ _ o N l a g b r C
   obtain⟨⟨rfl,rfl⟩,rfl⟩:=by simpa using C
   cases s:Nat.beq f.offset i
   .rw[s]at c;simp at c
   .rw[s]at c;simp only[jI]at c
    have x:=bq s
    split at c
    .rename_i M L w J
     simp only[DX]at c
     obtain⟨⟨B,D,y⟩,_⟩:=nV (n.yC w)
     have F:B=.int .i64:=by unfold Ar at y;split at y<;>simp_all
     subst F
     have H:X[f.offset]? =some (.int .i64 a):=by have:=p 0 (.i a) rfl;rw[x];exact this
     have I:Y[f.offset]? =some (.int .i64 b):=by have:=q 0 (.i b) rfl;rw[x];exact this
     have G:=K (i+1) _ g r L rfl (λt E=>v t (ai _ E)) (λk d t=>by have:=p (k+1) d (by simpa using t);rw[<-this];congr 1;omega) (λk d t=>by have:=q (k+1) d (by simpa using t);rw[<-this];congr 1;omega) J
     rw[List.forIn_cons,Sem.run_bind,an (v f bg)]
     simp only[Sem.run_bind,Qk n w H,Qk n w I,Result.andThen_ok,P2 D]
     cases t:(a==b)
     .rw[t]at c;subst c;simp
     .rw[t]at c;simp only[Oz]at c;subst c
      simp only[Oy,js,rL,Sem.run_pure,Result.andThen_ok]
      exact G
    .simp at c
  .simp at c
def OU(j:uw e T){a:Array Field}(p:e.underlying c=some (.struct a))(o:e.stoodInHeld c=false)(n:∀f∈a.toList,f.name≠ "_"){r:List Ce}{z:Bool}
 (l:XY T 0 (a.toList.map λf=>(f.offset,f.type)) g r=some z)(w:World):(Op.equal c (.agg (g.map Ce.v).toArray) (.agg (r.map Ce.v).toArray)).run e w=.ok z w:=by
 have:Op.equal c (.agg (g.map Ce.v).toArray) (.agg (r.map Ce.v).toArray)=Op.equalIn (9998+1+1) c (.agg (g.map Ce.v).toArray) (.agg (r.map Ce.v).toArray):=rfl
 rw[this]
 generalize 9998=h
 rw[Op.equalIn]
 simp only[Sem.run_bind,run_underlying p,Result.andThen_ok]
 have m:=Ue j (h:=h) (X:=(g.map Ce.v).toArray) (Y:=(r.map Ce.v).toArray) w a.toList 0 _ g r z rfl n (λk i b=>by simp[b]) (λk i b=>by simp[b]) l
 have b:(program:Sem Program).run e w=.ok e w:=rfl
 rw[b,Result.andThen_ok,ae (by simp[o]),Sem.run_bind,<-Array.forIn_toList,m]
 cases z<;>rfl
def SL(h:Vj e c=true):∃a,e.underlying c=some (.struct a)/\(∀f∈a.toList,f.name≠ "_")/\e.stoodInHeld c=false/\e.eqGuardType e.depth c=false:=by
 unfold Vj at h;split at h
 .rename_i a b;simp only[bL,List.all_eq_true,vF,iQ]at h;exact⟨a,b,h.1.1,h.1.2,h.2⟩
 .cases h
def PZ(h:e.eqGuardType e.depth c=false)(f g:Operand)(a b:Array Value)(w:World):(eqGuard .eql c f g (.agg a) (.agg b)).run e w=.ok () w:=by
 have d:(program:Sem Program).run e w=.ok e w:=rfl;simp only[eqGuard,Sem.run_bind];simp[d,h]
def MY(a:BinOp)(c:TypeId)(b d:Operand)(s:O)(y:Value)(w:World):(eqGuard a c b d s.v y).run e w=.ok () w:=by
 cases s<;>cases a<;>simp[eqGuard,O.v]
def P6(m:uw e T)(d:j8 n i a){z:BinOp}{D:TypeId}(b:rd T i j k (.binOp z c x y D)):oR e T i j a ⟨q,.binOp z c x y D,v,u,p,r⟩ k:=by
 simp only[rd]at b;split at b
 .rename_i L M f l;obtain⟨s,E,A,w,C⟩:=Vd (e:=e) (c:=c) b;refine⟨s,E,A,w,λB _=>?_⟩;simp only[execOp,d.eq f rfl,d.eq l rfl,SV.v,Ce.v,Sem.run_bind];simp[P1,C]
 .rename_i s f l;split at b
  .rename_i I J H A;have w:=(kj (m.yC A)).1;have F:a.eval x=s.v:=d.eq f rfl;have G:a.eval y=.slice none 0 0:=d.eq l rfl;cases z<;>simp only[Vt]at b
   all_goals
    first
    |exact b.elim
    |exact⟨_,_,b,nN _,λB _=>by
     have C:∀o:BinOp,o=.eql\/o=.neq->binOp o c s.v (.slice none 0 0)=(if o=.eql then(do pure (.bool (<-Op.equal c s.v (.slice none 0 0))))else(do pure (.bool (!(<-Op.equal c s.v (.slice none 0 0)))))):=by
      intro o E;rcases E with rfl|rfl<;>cases s<;>rfl
     simp only[execOp,F,G,Sem.run_bind,MY,Result.andThen_ok];rw[C _ aL];simp[J0 w,SV.v,Ce.v]⟩
  .exact b.elim
 .rename_i g N f l;split at b
  .unfold eqA at b;split at b
   .rename_i G A;split at b
    .rename_i R C;obtain⟨O,w,J,K,H⟩:=SL (m.cmp G);obtain⟨⟨Q,s,I⟩,_⟩:=nk (m.yC A);rw[w]at s;obtain rfl:=(TypeDesc.struct.inj (jM s));rw[<-I]at C;refine⟨_,_,b,nN _,λB _=>?_⟩;have E:a.eval x=.agg (g.map Ce.v).toArray:=d.eq f rfl;have F:a.eval y=.agg (N.map Ce.v).toArray:=d.eq l rfl;simp only[execOp,E,F,Sem.run_bind,PZ H,Result.andThen_ok,binOp,OU m w K J C];rfl
    .exact b.elim
   .exact b.elim
  .exact b.elim
 .split at b
  .rename_i L M w f l;obtain⟨⟨h,hd,A⟩,_⟩:=nV (m.yC w);have s:h=.bool:=by
    cases h<;>simp_all [Ar]
   subst s;cases z<;>simp only[Vb]at b
   all_goals
    first
    |exact b.elim
    |exact⟨_,_,b,nN _,λB _=>by
     simp only[execOp,d.ZG f,d.ZG l,Sem.run_bind,OT,Result.andThen,binOp,Q7 hd];rfl⟩
  .exact b.elim
def Nd(d:uw e T)(l:j8 n i a){s:TypeId}(b:rd T i j k (.convert s c x)):oR e T i j a ⟨q,.convert s c x,v,u,p,r⟩ k:=by
 simp only[rd]at b;split at b
 .rename_i B b1 b2 z A t w y;obtain⟨⟨h,hd,_⟩,_⟩:=nV (d.yC t);obtain⟨⟨g,m,f⟩,_⟩:=nV (d.yC w);have o:g=.int .i64:=by unfold Ar at f;split at f<;>simp_all
  subst o;exact⟨_,_,b,nN _,λC _=>by
   simp only[execOp,l.eq y rfl,SV.v,Ce.v,Sem.run_bind];simp[convert,run_underlying hd,run_underlying m,Conv.intToInt,cU]⟩
 .exact b.elim
def Rj(b:j8 n i a){f:UnOp}(h:rd T i j k (.unOp f c x)):oR e T i j a ⟨q,.unOp f c x,v,u,p,r⟩ k:=by
 simp only[rd]at h;generalize d:ev i x=sx at h;unfold ZN at h;split at h
 .exact⟨_,_,h,nN _,λw _=>by simp[execOp,b.eq d rfl,SV.v,Op.unary]⟩
 .exact⟨_,_,h,nN _,λw _=>by simp[execOp,b.eq d rfl,SV.v,Op.unary]⟩
 .exact⟨_,_,h,nN _,λw _=>by simp[execOp,b.eq d rfl,SV.v,Ce.v,Op.unary]⟩
 .exact⟨_,_,h,nN _,λw _=>by simp[execOp,b.eq d rfl,SV.v,Ce.v,Op.unary,Op.intArith,cU]⟩
 .exact h.elim
def DE(l:uw e T)(L:j8 n i a){mk:Nat->SV}(E:∀o,(mk o).v=.pointer (some ⟨b,o,none⟩))(J:a.eval x=.pointer (some ⟨b,o,none⟩))(h:FZ T c f o mk k):
 oR e T i j a ⟨q,.fieldAddr c x f,v,u,p,r⟩ k:=by
 unfold FZ at h
 split at h
 .rename_i N O K H
  split at h
  .rename_i M P s
   split at h
   .rename_i g I
    cases d:(g.uH||Nat.beq g.sh.length 0)
    .rw[d]at h
     simp only[bt]at d
     obtain⟨⟨z,C,D⟩,_⟩:=nk (l.yC H)
     rw[pL,<-D,cK]at s
     obtain⟨y,A,m⟩:=Option.map_eq_some_iff.1 s
     simp only[OC]at m
     obtain⟨rfl,rfl⟩:=m
     have G:=λw=>kD l I d.1 w
     have F:g.sh.length≠0:=λt=>by rw[t]at d;simp at d
     refine⟨_,_,h,nN _,λw _=>?_⟩
     have B:z[f]? =some y:=by simpa using A
     rw[E]
     simp[execOp,Instr.fieldAt,J,run_underlying C,B,Instr.sureAddr,fieldPlace,G,F,vP]
    .rw[d]at h;exact h.elim
   .exact h.elim
  .exact h.elim
 .exact h.elim
def J1(l:uw e T)(d:j8 n i a)(h:rd T i j k (.fieldAddr c x f)):oR e T i j a ⟨q,.fieldAddr c x f,v,u,p,r⟩ k:=by
 simp only[rd]at h;split at h
 .rename_i b o g;exact DE l d (λo=>rfl) (d.eq g rfl) h
 .rename_i m b o g;exact DE l d (λo=>rfl) (d.eq g rfl) h
 .exact h.elim
def P8(l:uw e T)(m:j8 n i a)(h:rd T i j k (.field c x f)):oR e T i j a ⟨q,.field c x f,v,u,p,r⟩ k:=by
 simp only[rd]at h;split at h
 .rename_i g C;unfold OV at h;split at h
  .rename_i N O L K;split at h
   .rename_i M P A;split at h
    .rename_i E B;cases b:E.uH
     .rw[b]at h;obtain⟨⟨G,z,I⟩,_⟩:=nk (l.yC K);rw[pL,<-I,cK]at A;obtain⟨F,H,s⟩:=Option.map_eq_some_iff.1 A;simp only[OC]at s;obtain⟨rfl,rfl⟩:=s;have J:=λw=>kD l B b w;have o:=λw=>IE l B b w;have t:G[f]? =some F:=by simpa using H
      cases d:E.agg
      .simp only[d,mL]at h;split at h
       .rename_i y D;refine⟨_,_,h,nN _,λw _=>?_⟩;rw[pL]at D;simp[execOp,Instr.field,m.eq C rfl,SV.v,run_underlying z,t,asAgg,part,o,d,D]
       .exact h.elim
      .simp only[d,mL,jI]at h;refine⟨_,_,h,nN _,λw _=>?_⟩;simp[execOp,Instr.field,m.eq C rfl,SV.v,run_underlying z,t,asAgg,part,o,d,J,List.map_drop,OB]
     .rw[b]at h;exact h.elim
    .exact h.elim
   .exact h.elim
  .exact h.elim
 .exact h.elim
def J2(l:uw e T)(g:j8 n i a)(h:rd T i j k (.indexAddr c x y)):oR e T i j a ⟨q,.indexAddr c x y,v,u,p,r⟩ k:=by
 simp only[rd]at h;split at h
 .rename_i E J C D;unfold Xx at h;split at h
  .rename_i I L G A;split at h
   .rename_i F t;cases f:F.uH
    .rw[f]at h;obtain⟨m,d,s⟩:=h;have B:=(kj (l.yC A)).1;have z:=λw=>kD l t f w;cases E with
     |nil=>simp[O.len]at d;omega
     |zU _ _ _=>simp[O.len]at d;omega
     |mk b o K H=>
      refine⟨_,_,s,nN _,λw _=>?_⟩;simp only[O.len]at d;simp[execOp,Instr.indexAt,g.eq C rfl,g.eq D rfl,SV.v,Ce.v,O.v,asIntOf,run_underlying B,m,d,z,vP,O.D,O.off]
    .rw[f]at h;exact h.elim
   .exact h.elim
  .exact h.elim
 .exact h.elim
def Qe:∀(d:List Sh)(b o a:Nat)(k:List Ce->Prop),Wg j b o a d k->∃g,k g/\g.length=d.length/\∀i,i<d.length->af j b (o+a+i)=(g[i]?).map Ce.v
 |[],_,_,_,_,h=>⟨[],h,rfl,λi c=>by simp at c⟩
 |s::r,b,o,a,k,h=>by
  obtain⟨x,n,h⟩:=h;obtain⟨g,l,m,f⟩:=Qe r b o (a+1) _ h;refine⟨s.mk x::g,l,by simp[m],λi c=>?_⟩;cases i with
  |zero=>simpa using n
  |succ i=>
   have:=f i (by simpa using c);have e:o+(a+1)+i=o+a+(i+1):=V;rw[e]at this;simpa using this
def mV(B:uw e T)(S:j8 n i a)(I:a.eval x=.pointer (some ⟨b,o,none⟩)){f:TI}(H:fK T c=some f)(G:f.uH=false)
 (K:∀d,d<f.sh.length->(b,o+d)∈Tq T i (.load c x))(E:g.length=f.sh.length)(L:∀z,z<f.sh.length->af j b (o+z)=(g[z]?).map Ce.v)
 {s:SV}(U:s.jJ=true)(O:(f.agg=true/\s.v=.agg (g.map Ce.v).toArray)\/(f.agg=false/\∃m,g=[m]/\s.v=m.v))(N:k s):
 oR e T i j a ⟨q,.load c x,v,u,p,r⟩ k:=by
 refine⟨s,s.v,N,nN _,λl R=>?_⟩
 have Q:=kD B H G l
 have C:=IE B H G l
 have D:∀d,d<f.sh.length->af l.heap b (o+d)=(g[d]?).map Ce.v:=λd h=>by rw[R (b,o+d) (K d h),L d h]
 rcases O with⟨t,y⟩|⟨t,m,y,J⟩
 .have F:=run_loadCells_list (P:=e) (w:=l) ⟨b,o,none⟩ (g.map Ce.v) (λd V h=>by
   rw[vP,zR];have M:d<f.sh.length:=by
    rcases aW d f.sh.length with A|A
    .exact A
    .rw[cT bF]at h;simp at h
   rw[D d M,<-cK,h])
  simp only[dZ]at F
  simp only[execOp,Instr.loadAt,I,Instr.sureAddr,loadVar,Sem.run_bind,Sem.run_pure,C,t,Result.andThen_ok,Q,MT]
  simp[<-E,F,y]
 .subst y
  have A:=D 0 (by rw[<-E];simp)
  simp at A
  simp only[execOp,Instr.loadAt,I,Instr.sureAddr,loadVar,Sem.run_bind,Sem.run_pure,C,t,Result.andThen_ok]
  simp[zR,A,J]
def JE(C:uw e T)(B:j8 n i a)(D:a.eval x=.pointer (some ⟨b,o,none⟩))
 (A:∀d f,fK T c=some d->f<d.sh.length->(b,o+f)∈Tq T i (.load c x))(h:Qg T j c b o k):oR e T i j a ⟨q,.load c x,v,u,p,r⟩ k:=by
 unfold Qg at h
 split at h
 .rename_i H I F d
  obtain⟨g,w,G,E⟩:=Qe _ _ _ _ _ h
  exact mV C B D d rfl (λf t=>A _ f d t) G (λz m=>by simpa using E z m) (s:=.agg g) rfl (Or.inl ⟨rfl,rfl⟩) w
 .rename_i G F d
  obtain⟨y,E,w⟩:=h
  exact mV C B D d rfl (λf t=>A _ f d t) (g:=[G.mk y]) rfl (λz m=>by
   have:z=0:=by simpa using m
   subst this;exact E) (s:=.c (G.mk y)) rfl (Or.inr ⟨rfl,_,rfl,rfl⟩) w
 .rename_i G H F d
  obtain⟨y,E,w⟩:=h
  exact mV C B D d rfl (λf t=>A _ f d t) (g:=[.s y]) rfl (λz m=>by
   have:z=0:=by simpa using m
   subst this;exact E) (s:=.c (.s y)) rfl (Or.inr ⟨rfl,_,rfl,rfl⟩) w
 .exact h.elim
def MI:∀{a:List Ce}{b o:Nat}{g:List Ce},HB a o b=some g->g.length=b/\∀i,i<b->a[o+i]? =g[i]?
 |a,0,o,g,h=>by simp[HB]at h;subst h;simp
 |a,b+1,o,g,h=>by
  simp only[HB]at h;split at h
  .rename_i j r c f;simp at h;subst h;obtain⟨d,e⟩:=MI f;refine⟨by simp[d],λi k=>?_⟩;cases i with
   |zero=>rw[pL]at c;simpa using c
   |succ i=>
    have:=e i V;rw[show o+(i+1)=o+1+i by omega];simpa using this
  .simp at h
def JD(C:uw e T)(B:j8 n i a){H:Nat}{G:List Ce}(E:a.eval x=.pointer (some ⟨b,o,none⟩))
 (A:∀d m,fK T c=some d->m<d.sh.length->(b,o+m)∈Tq T i (.load c x))(I:j[b]? =some (.cells (G.map Ce.v).toArray H))(h:NW T c G o k):
 oR e T i j a ⟨q,.load c x,v,u,p,r⟩ k:=by
 have D:∀f,af j b f=(G[f]?).map Ce.v:=λf=>by simp[af,I]
 unfold NW at h
 split at h
 .rename_i K L F d
  split at h
  .rename_i g J
   obtain⟨t,w⟩:=MI J
   exact mV C B E d rfl (λm z=>A _ m d z) t (λf y=>by rw[D,w f y]) (s:=.agg g) rfl (Or.inl ⟨rfl,rfl⟩) h
  .exact h.elim
 .rename_i J F d
  split at h
  .rename_i t w
   rw[pL]at w
   exact mV C B E d rfl (λm z=>A _ m d z) (g:=[t]) rfl (λf y=>by
    have:f=0:=by simpa using y
    subst this;rw[D];simp[w]) (s:=.c t) rfl (Or.inr ⟨rfl,_,rfl,rfl⟩) h
  .exact h.elim
 .rename_i H J F d
  split at h
  .rename_i t w
   rw[pL]at w
   exact mV C B E d rfl (λm z=>A _ m d z) (g:=[t]) rfl (λf y=>by
    have:f=0:=by simpa using y
    subst this;rw[D];simp[w]) (s:=.c t) rfl (Or.inr ⟨rfl,_,rfl,rfl⟩) h
  .exact h.elim
 .rename_i L K J F d
  split at h
  .rename_i t w
   rw[pL]at w
   exact mV C B E d rfl (λm z=>A _ m d z) (g:=[t]) rfl (λf y=>by
    have:f=0:=by simpa using y
    subst this;rw[D];simp[w]) (s:=.c t) rfl (Or.inr ⟨rfl,_,rfl,rfl⟩) h
  .exact h.elim
 .exact h.elim
def Rh(l:uw e T)(d:j8 n i a)(B:Bx n i j)(h:rd T i j k (.load c x)):oR e T i j a ⟨q,.load c x,v,u,p,r⟩ k:=by
 simp only[rd]at h;split at h
 .rename_i b o f;exact JE l d (d.eq f rfl) (λm g A z=>by simp only[Tq,f,A];exact List.mem_map.2 ⟨g,List.mem_range.2 z,rfl⟩) h
 .rename_i C b o f;have w:∀m g,fK T c=some m->g<m.sh.length->(b,o+g)∈Tq T i (.load c x):=λm g A z=>by simp only[Tq,f,A];exact List.mem_map.2 ⟨g,List.mem_range.2 z,rfl⟩
  split at h
  .rename_i D t s y;obtain⟨rfl,h⟩:=h;exact JD l d (d.eq f rfl) w (B.D C _ t s (Or.inl y)) h
  .rename_i D t s y;obtain⟨rfl,h⟩:=h;exact JD l d (d.eq f rfl) w (B.D C _ t s (Or.inr y)) h
  .exact JE l d (d.eq f rfl) w h
 .exact h.elim
end
end Go.Vc
end
section
namespace Go.Vc
variable{x:Operand}{t:TypeId}
variable{P:Program}{T:TT}
section
variable{n:Nat}{b:Fr}{a:Act}{m:E}{k:SV->Prop}{d:Option Tmp}{g:TypeId}{f:String}{c:Array Edge}{e:Option (Nat×Bool)}
def Nf(l:j8 n b a){j:Nat}(h:rd T b m k (.extract x j)):oR P T b m a ⟨d,.extract x j,g,f,c,e⟩ k:=by
 simp only[rd]at h;split at h
 .rename_i p o;split at h
  .rename_i y i;refine⟨_,_,h,nN _,λw _=>?_⟩;rw[pL]at i;rw[AV.aah];have:a.eval x=.tuple (p.map AV.v).toArray:=l.eq o rfl;simp[execOp,Instr.extract,this,i]
  .exact h.elim
 .exact h.elim
def Oe(c:j8 n b a){x:Option Operand}{d:Int}{k:Int->Prop}(h:Nm b x d k):
 (x=none/\k d)\/∃y i,x=some y/\a.eval y=.int .i64 i/\k i:=by
 unfold Nm at h
 split at h
 .exact Or.inl ⟨rfl,h⟩
 .rename_i y
  split at h
  .rename_i i e
   exact Or.inr ⟨y,i,rfl,c.eq e rfl,h⟩
  .exact h.elim
def pP(k:IntKind)(i:Int)(y:Nat)(c:BoundsCode)(a:0<=i)(b:i<=y)(w:World):(Instr.sliceBound (.int k i) y c).run P w=.ok i.toNat w:=by
 simp[Instr.sliceBound,asIntOf,a,b]
def Yy(b o l c a d e:Nat):(O.cut (.mk b o l c) a d e).v=.slice (if c=a then some ⟨b,o,none⟩else(some (⟨b,o,none⟩:Addr)).map (·.add (a*e))) (d -a) (c -a):=by
 show Value.slice _ _ _=_;simp only[vP,nW];split<;>rfl
def P9(J:uw P T)(r:j8 n b a){A y:Option Operand}(i:rd T b m k (.slice t x A y none)):oR P T b m a ⟨d,.slice t x A y none,g,f,c,e⟩ k:=by
 simp only[rd]at i;split at i
 .rename_i s G;unfold RE at i;split at i
  .rename_i v N M L;split at i
   .rename_i B K;cases D:B.uH
    .rw[D]at i;have F:=(kj (J.yC L)).1;have E:=λw=>kD J K D w;have z:∀(l h:Int),0<=l->l<=h->h<=(s.cap:Int)->
      (∀w:World,(Instr.sliceBounds true s.len s.cap (A.map a.eval) (y.map a.eval) none).run P w=.ok (l.toNat,h.toNat,s.cap) w)->
      ∀w:World,(execOp a.eval ⟨d,.slice t x A y none,g,f,c,e⟩).run P w=.ok (.value (Ce.s (s.cut l.toNat h.toNat B.sh.length)).v) w:=by
      intro l h o p j q w
      cases s with
      |nil=>
       simp only[O.cap,O.len]at q j
       have:h=0:=V
       have:l=0:=V
       subst this;subst h
       simp[execOp,Instr.sliceAt,r.eq G rfl,SV.v,Ce.v,O.v,run_underlying F,Instr.slice,q,E,O.cut]
      |zU u C H=>
       simp only[O.cap,O.len]at q j
       have:h=0:=V
       have:l=0:=V
       subst this;subst h
       simp[execOp,Instr.sliceAt,r.eq G rfl,SV.v,Ce.v,O.v,run_underlying F,Instr.slice,q,E,O.cut]
      |mk u I H C=>
       simp only[O.cap,O.len]at q
       have v:(Ce.s ((O.mk u I H C).cut l.toNat h.toNat B.sh.length)).v=_:=Yy u I H C l.toNat h.toNat B.sh.length
       rw[v]
       have:a.eval x=.slice (some ⟨u,I,none⟩) H C:=r.eq G rfl
       simp[execOp,Instr.sliceAt,this,run_underlying F,Instr.slice,q,E]
     simp only[mL]at i;rcases Oe r i with⟨rfl,C⟩|⟨Q,l,rfl,H,C⟩<;>rcases Oe r C with⟨rfl,o,p,j,u⟩|⟨R,h,rfl,I,o,p,j,u⟩
     .exact⟨_,_,u,nN _,λw _=>z _ _ o p j (λw=>by simp[Instr.sliceBounds]) w⟩
     .exact⟨_,_,u,nN _,λw _=>z _ _ o p j (λw=>by simp[Instr.sliceBounds,I,pP _ _ _ _ (by omega:0<=h) j]) w⟩
     .exact⟨_,_,u,nN _,λw _=>z _ _ o p j (λw=>by simp[Instr.sliceBounds,H,pP _ _ _ _ o p]) w⟩
     .exact⟨_,_,u,nN _,λw _=>z _ _ o p j (λw=>by
       have v:l<=(h.toNat:Int):=V;simp[Instr.sliceBounds,I,H,pP _ _ _ _ (by omega:0<=h) j,pP _ _ _ _ o v]) w⟩
    .rw[D]at i;exact i.elim
   .exact i.elim
  .exact i.elim
 .exact i.elim
def Lb(w:uw P T)(q:j8 n b a)(p:List (Nat×Nat))(iP:Nat->Option (Nat×Nat))
 (r:∀i d t f,Iu p i=some (d,t)->fK T t=some f->f.uH=false->iP i=some (d,f.sh.length)):
 ∀(s:List (Nat×Operand))(c:List Ce)(k:List Ce->Prop),FT T b p c s k->
  ∃l,k l/\Instr.fill iP (c.map Ce.v).toArray (s.map λe=>(e.1,a.eval e.2))=some (l.map Ce.v).toArray
 |[],c,k,h=>⟨c,h,rfl⟩
 |(i,x)::H,c,k,h=>by
  simp only[FT]at h;split at h
  .rename_i d t e E D;split at h
   .rename_i f F;cases g:(!f.uH&&Nat.beq e.length f.sh.length&&Nat.ble (d+e.length) c.length)
    .rw[g]at h;exact h.elim
    .rw[g]at h;simp only[bL,iQ]at g;obtain⟨⟨y,m⟩,o⟩:=g;have m:=bq m;have o:=lL o;obtain⟨l,A,C⟩:=Lb w q p iP r H (mj c d e) k h;refine⟨l,A,?_⟩;obtain⟨B,z⟩:=pE D;have G:a.eval x=(ev b x).v:=q.eq rfl B;simp only[cL,Instr.fill,r i d t f E F y,G,z,DW,dZ,m];rw[ae bF,<-C];congr 1;apply Ca;intro j;have u:=N3 (e.map Ce.v) 0 d (c.map Ce.v).toArray j;rw[<-aaj,ZP];have v:=Cn c d e j o;rw[show((List.map Ce.v (mj c d e)).toArray)[j]? =((mj c d e)[j]?).map Ce.v by simp,v];rw[u];simp;split<;>split<;>first|rfl|(exfalso;omega)|(congr 1;omega)
   .exact h.elim
  .exact h.elim
def Y0(T:TT)(t:Nat):Nat:=match fK T t with|some a=>a.sh.length|none=>0
def JK(c:uw P T)(w:World):∀(a:List Field),(∀f∈a,∃b,fK T f.type=some b/\b.uH=false)->
 (a.mapM (λf=>do pure (f.offset,<-sizeOf f.type):Field->Sem (Nat×Nat))).run P w=.ok (a.map λf=>(f.offset,Y0 T f.type)) w
 |[],_=>aL
 |f::a,h=>by
  obtain⟨b,d,j⟩:=h f aL;have e:=JK c w a (λg i=>h g (by simp[i]));simp only[UM,Sem.run_bind,kD c d j,Result.andThen_ok,Sem.run_pure]at e⊢;rw[e];simp[Y0,d]
def JM:∀{d:List (Nat×Nat)},vn T d=true->∀p∈d,∃a,fK T p.2=some a/\a.uH=false
 |[],_,_,h=>by simp at h
 |(o,t)::r,h,p,c=>by
  simp only[vn,bL]at h;rcases List.mem_cons.1 c with rfl|c
  .have b:=h.1;split at b
   .rename_i a e;exact⟨a,e,by simpa using b⟩
   .simp at b
  .exact JM h.2 p c
def P7(l:uw P T)(z:j8 n b a){o:Array (Nat×Operand)}(i:rd T b m k (.build t o)):oR P T b m a ⟨d,.build t o,g,f,c,e⟩ k:=by
 simp only[rd]at i;split at i
 .rename_i y K M v;cases q:vn T y
  .rw[q]at i;exact i.elim
  rw[q]at i;obtain⟨⟨j,D,s⟩,_⟩:=nk (l.yC v);obtain⟨L,I,J,Q⟩:=wm l v rfl;have A:∀h∈j.toList,∃r,fK T h.type=some r/\r.uH=false:=λh B=>
   JM q (h.offset,h.type) (by rw[<-s];exact List.mem_map.2 ⟨h,B,rfl⟩)
  have G:∀w:World,(j.mapM (λh=>do pure (h.offset,<-sizeOf h.type):Field->Sem (Nat×Nat))).run P w=.ok (j.toList.map λh=>(h.offset,Y0 T h.type)).toArray w:=by
   intro w;rw[UW,Sem.run_map,JK l w j.toList A];rfl
  obtain⟨R,E,F⟩:=Lb l z y (λx=>((j.toList.map λh=>(h.offset,Y0 T h.type)).toArray)[x]?) (λx S t r u H O=>by
   rw[pL,<-s,cK]at u;obtain⟨N,C,p⟩:=Option.map_eq_some_iff.1 u;simp only[OC]at p;obtain⟨rfl,rfl⟩:=p;simp only[lK,cK,C,nW,Y0,H]) _ _ _ i
  refine⟨_,_,E,nN _,λw _=>?_⟩;have u:L.cells=((K.map Sh.zero).map Ce.v).toArray:=by
   apply Array.toList_inj.1;simp[I]
  have C:(o.map λp=>(p.1,a.eval p.2)).toList=o.toList.map λp=>(p.1,a.eval p.2):=aL;simp only[execOp,Instr.build,Sem.run_bind,J,Result.andThen_ok,run_underlying D,G,u,C,F];simp[SV.v]
 .exact i.elim
def Cj(d:j8 n b a):∀{c:List Operand},c.all (λx=>(ev b x).jJ)=true->c.map a.eval=c.map λx=>(ev b x).v
 |[],_=>rfl
 |x::c,h=>by
  simp only[OA,bL]at h;simp only[cL,d.eq rfl h.1,Cj d h.2]
def Nc(v:uw P T)(l:j8 n b a){s:Builtin}{i:Array Operand}{r:Array TypeId}(h:rd T b m k (.call ⟨.builtin s,i,r⟩)):
 oR P T b m a ⟨d,.call ⟨.builtin s,i,r⟩,g,f,c,e⟩ k:=by
 simp only[rd]at h
 unfold TP at h
 split at h
 .rename_i t x z p
  split at h
  .rename_i D E C q y o
   refine⟨_,_,h,nN _,λw _=>?_⟩
   have A:=(kj (v.yC y)).1
   have u:r=#[t]:=Array.toList_inj.1 (by simpa using z)
   have j:i=#[x]:=Array.toList_inj.1 (by simpa using p)
   subst u;subst j
   have B:a.eval x=q.v:=l.eq o rfl
   cases q<;>simp[execOp,resolve,invoke,builtin,Builtin.len_,run_underlying A,B,O.v,goInt,SV.v,Ce.v,O.len]
  .exact h.elim
 .rename_i x y p
  split at h
  .rename_i u z o q
   refine⟨_,_,h,nN _,λw _=>?_⟩
   have j:i=#[x,y]:=Array.toList_inj.1 (by simpa using p)
   subst j
   simp[execOp,resolve,invoke,builtin,Builtin.max_,Builtin.max2,l.eq o rfl,l.eq q rfl,SV.v,Ce.v]
  .exact h.elim
 .rename_i x y p
  split at h
  .rename_i u z o q
   refine⟨_,_,h,nN _,λw _=>?_⟩
   have j:i=#[x,y]:=Array.toList_inj.1 (by simpa using p)
   subst j
   simp[execOp,resolve,invoke,builtin,Builtin.min_,Builtin.min2,l.eq o rfl,l.eq q rfl,SV.v,Ce.v]
  .exact h.elim
 .exact h.elim
def LZ(j:uw P T)(i:j8 n b a)(s:Bx n b m)(o:Oper)(h:rd T b m k o.op):oR P T b m a o k:=by
 obtain⟨d,l,g,f,c,e⟩:=o;cases l with
 |move x=>exact Ui i h
 |assign x=>exact SY i h
 |pick p x y=>exact Ri i h
 |nilCheck x=>exact Lt i h
 |binOp l t x y q=>exact P6 j i h
 |unOp l t x=>exact Rj i h
 |convert q t x=>exact Nd j i h
 |fieldAddr t x q=>exact J1 j i h
 |field t x q=>exact P8 j i h
 |indexAddr t x y=>exact J2 j i h
 |load t x=>exact Rh j i s h
 |extract x r=>exact Nf i h
 |slice t x u r mx=>cases mx with
  |none=>exact P9 j i h
  |some y=>exact h.elim
 |build t r=>exact P7 j i h
 |call p=>
  obtain⟨r,u,w⟩:=p;cases r with
  |builtin v=>exact Nc j i h
  |value q=>exact h.elim
  |invoke v q=>exact h.elim
 |_=>exact h.elim
end
end Go.Vc
end
section
namespace Go.Vc
variable{m m':E}{b o e n q:Nat}{l:List Ce}
def ah(m:E)(b o:Nat):List Ce->E
 |[]=>m
 |c::r=>ah (ru m b o c.v) b (o+1) r
def fL(m:E)(b o n:Nat):Prop:=∀j,j<n->(af m b (o+j)).isSome=true/\vQ m b (o+j)=false
def fQ(m:E)(b o:Nat)(l:List Ce):Prop:=∀(i:Nat)(c:Ce),l[i]? =some c->af m b (o+i)=some c.v
def mK(a:List Ce)(n:Nat):List Ce:=(List.replicate n a).flatten
def bu(l:List Ce):Array Value:=(l.map Ce.v).toArray
def Rz(m:E)(b o:Nat)(v:Value):(ru m b o v).size=m.size:=by simp[ru]
def Mg(m:E)(b o:Nat)(v:Value){j:Nat}(h:j≠b):(ru m b o v)[j]? =m[j]? :=by
 simp only[ru,lJ];rw[ae (λe=>h e.symm)]
def ax:∀(l:List Ce)(m:E)(b o:Nat),(ah m b o l).size=m.size
 |[],_,_,_=>rfl
 |c::r,m,b,o=>by simp only[ah];rw[ax r,Rz]
def be:∀(l:List Ce)(m:E)(b o:Nat){j:Nat},j≠b->(ah m b o l)[j]? =m[j]?
 |[],_,_,_,_,_=>rfl
 |c::r,m,b,o,j,h=>by simp only[ah];rw[be r _ _ _ h,Mg m b o _ h]
def mg{v:Value}(h:af m b o=some v):b<m.size:=by
 rcases aW b m.size with a|a
 .exact a
 .simp[af,Jv a]at h
def aI(h:m'[b]? =m[b]?)(o:Nat):af m' b o=af m b o:=by simp only[af,h]
def cF(m:E)(b:Nat)(e:Nat)(l:List Ce):Prop:=m[b]? =some (.cells (bu l) e)
def UE(l:List Ce)(i:Nat):(bu l)[i]? =(l[i]?).map Ce.v:=by simp[bu]
def cF.cp(h:cF m b e l)(o:Nat):af m b o=(l[o]?).map Ce.v:=by
 have a:m[b]? =some (.cells (bu l) e (0,0)):=h;simp only[af,a,UE]
def cF.iD(h:cF m b e l):fQ m b 0 l:=λi c a=>by rw[h.cp,bT,a];rfl
def cF.lt(h:cF m b e l):b<m.size:=(Array.getElem?_eq_some_iff.1 h).1
def cF.vQ{m:E}{b e:Nat}{l:List Ce}(h:cF m b e l)(o:Nat):vQ m b o=false:=by
 have a:m[b]? =some (.cells (bu l) e (0,0)):=h;simp[Vc.vQ,a]
def cF.fL(h:cF m b e l)(c:o+n<=l.length):fL m b o n:=λj a=>by
 refine⟨?_,h.vQ _⟩;rw[h.cp];simp;omega
def cF.push(m:E)(l:List Ce)(e:Nat):cF (m.push (.cells (bu l) e)) m.size e l:=by simp[cF]
def cF.congr(a:cF m b e l)(h:m'[b]? =m[b]?):cF m' b e l:=by
 unfold cF at*;rw[h];exact a
def cF.ru{m:E}{b e:Nat}{l:List Ce}(h:cF m b e l)(o:Nat)(c:Ce):cF (ru m b o c.v) b e (l.set o c):=by
 have d:m[b]? =some (.cells (bu l) e (0,0)):=h;have f:=h.lt;simp only[cF,Vc.ru,lJ,MT,d,nW];congr 2;apply Ca;intro i;simp only[bu,Array.getElem?_setIfInBounds,lK,cK,jF,DW,dZ];by_cases e:o=i
 .subst e;by_cases a:o<l.length
  .simp[a]
  .simp[a]
 .simp[e]
def je(l:List Ce)(o:Nat):List Ce->List Ce
 |[]=>l
 |c::r=>je (l.set o c) (o+1) r
def kU:∀(r l:List Ce)(o:Nat),(je l o r).length=l.length
 |[],_,_=>rfl
 |c::r,l,o=>by simp only[je];rw[kU r];simp
def wo:∀(r l:List Ce)(o i:Nat),(je l o r)[i]? =if o<=i/\i<o+r.length/\i<l.length then r[i -o]? else l[i]?
 |[],l,o,i=>by simp[je];intro h;omega
 |c::r,l,o,i=>by
  simp only[je];rw[wo r,jF];simp only[eg,aY];by_cases b:o=i
  .subst b;by_cases a:o<l.length
   .simp[a];try omega
   .simp[a];try omega
  .by_cases a:o<=i/\i<o+(r.length+1)/\i<l.length
   .rw[an a,an V,show i -o=(i -(o+1))+1 by omega,ij]
   .rw[ae a,ae V];simp[b]
def cF.ah{m:E}{b e:Nat}:∀{r l:List Ce}{m:E}{o:Nat},cF m b e l->cF (ah m b o r) b e (je l o r)
 |[],_,_,_,h=>h
 |c::r,l,m,o,h=>by
  simp only[Vc.ah,je];exact cF.ah (m:=m) (h.ru o c)
def vk(t:Nat):List Nat->Bool
 |[]=>false
 |u::r=>Nat.beq u t||vk t r
def Iq{t:Nat}:∀{M:List Nat},vk t M=true->t∈M
 |[],h=>by simp[vk]at h
 |u::r,h=>by
  simp only[vk,bQ]at h;rcases h with h|h
  .rw[bq h];exact bg
  .exact ai _ (Iq h)
def MS(n:Nat):Fr->List Nat->List Nat
 |[],_=>[]
 |(q,x)::r,a=>bif Nat.ble n q&&!vk q a then
  match x with
  | .box b _ _=>b::MS n r (q::a)
  | .zO b _ _=>b::MS n r (q::a)
  |_=>MS n r (q::a)
  else MS n r a
def eI(l:List Nat)(m m':E):Prop:=∀b∈l,m'[b]? =m[b]?
def Ay(l:List Nat)(m m':E)(k:Prop):Prop:=
 match l with
 |[]=>k
 |_=>eI l m m'/\k
def mE{l:List Nat}{k:Prop}(h:Ay l m m' k):eI l m m'/\k:=by
 unfold Ay at h;split at h
 .exact⟨(λb a=>by cases a),h⟩
 .exact h
def HG{n:Nat}{q b e:Nat}{l:List Ce}(c:n<=q):∀{j:Fr}{a:List Nat},q∉a->lO j q b e l->b∈MS n j a
 |[],a,_,h=>by rcases h with h|h<;>simp[il]at h
 |(u,x)::r,a,g,h=>by
  simp only[MS];cases f:Nat.beq u q
  .have k:u≠q:=λe=>by subst e;simp at f
   have d:lO r q b e l:=by
    unfold lO at h⊢;simpa only[il,f,mL]using h
   have i:q∉u::a:=by
    simp only[aV,vG];exact⟨λe=>k e.symm,g⟩
   cases(Nat.ble n u&&!vk u a)
   .exact HG c g d
   .simp only[jI];split
    .exact ai _ (HG c i d)
    .exact ai _ (HG c i d)
    .exact HG c i d
  .have:=bq f;subst this;have i:vk u a=false:=by
    cases k:vk u a
    .rfl
    .exact absurd (Iq k) g
   have d:Nat.ble n u=true:=Yh c;simp only[i,d,MO,Bool.and_self,jI];unfold lO at h;simp only[il,f,jI]at h;rcases h with h|h<;>rw[h]<;>exact bg
def Bx.fU{c:Fr}(h:Bx n c m){x:SV}(i:∀b e l,x≠.box b e l/\x≠.zO b e l):Bx n ((q,x)::c) m:=by
 have d:∀{u b e l},lO ((q,x)::c) u b e l->lO c u b e l:=by
  intro u b e l a;unfold lO at a⊢;simp only[il]at a;cases g:Nat.beq q u
  .rw[g]at a;exact a
  .rw[g]at a;rcases a with a|a
   .exact absurd a (i b e l).1
   .exact absurd a (i b e l).2
 exact⟨λq b e l f=>h.D q b e l (d f),λq t b e l j k s r o p=>h.OP q t b e l j k s r (d o) (d p),λq b e l f=>h.key q b e l (d f)⟩
def SV.YT(x:SV)(b e:Nat)(l:List Ce):x.nb≠.box b e l/\x.nb≠.zO b e l:=by
 cases x<;>exact⟨by simp[SV.nb],by simp[SV.nb]⟩
def Bx.put{a:Fr}(h:Bx n a m)(d:Option Nat)(x:SV):Bx n (ud a d x) m:=by
 cases d with
 |none=>exact h
 |some d=>exact h.fU (SV.YT x)
def Bx.dv{a:Fr}(h:Bx n a m)(d:eI (MS n a []) m m'):Bx n a m':=
 ⟨λq b e l c=>by rw[d b (HG (h.key q b e l c) aL c)];exact h.D q b e l c,h.OP,h.key⟩
def Bx.push{a:Fr}(h:Bx n a m)(o:Obj):Bx n a (m.push o):=
 ⟨λq b e l d=>by
  have c:=h.D q b e l d;have f:=(Array.getElem?_eq_some_iff.1 c).1;rw[mQ,ae V];exact c,h.OP,h.key⟩
def Bx.new{d:Fr}(h:Bx n d m)(x:n<=q)(t:Nat)(l:List Ce):Bx n ((q,.box m.size t l)::d) (m.push (.cells (bu l) t)):=by
 have w:=h.push (.cells (bu l) t);have p:∀{u b e l},lO d u b e l->b<m.size:=λa=>(Array.getElem?_eq_some_iff.1 (h.D _ _ _ _ a)).1;have g:∀{u b e c},lO ((q,.box m.size t l)::d) u b e c->(u=q/\b=m.size/\e=t/\c=l)\/(u≠q/\lO d u b e c):=by
  intro u b e c a;unfold lO at a⊢;simp only[il]at a;cases f:Nat.beq q u
  .rw[f]at a;exact Or.inr ⟨λe=>by subst e;simp at f,a⟩
  .rw[f]at a;have:=bq f;subst this;rcases a with a|a
   .simp at a;exact Or.inl ⟨rfl,a.1.symm,a.2.1.symm,a.2.2.symm⟩
   .simp at a
 refine⟨λu b e c a=>?_,λu B b e z r s A o v k=>?_,λu b e c a=>?_⟩
 .rcases g a with⟨rfl,rfl,rfl,rfl⟩|⟨_,a⟩
  .simp[bu]
  .exact w.D u b e c a
 .rcases g v with⟨rfl,rfl,rfl,rfl⟩|⟨f,j⟩
  .rcases g k with⟨rfl,rfl,rfl,rfl⟩|⟨y,i⟩
   .exact absurd rfl o
   .have:=p i;omega
  .rcases g k with⟨rfl,rfl,rfl,rfl⟩|⟨y,i⟩
   .have:=p j;omega
   .exact h.OP u B b e z r s A o j i
 .rcases g a with⟨rfl,rfl,rfl,rfl⟩|⟨_,a⟩
  .exact x
  .exact h.key u b e c a
def Bx.ov{j:Fr}(h:Bx n j m){f:List Ce}(E:il j q=.box b e f)(o:Nat)(l:List Ce):Bx n ((q,.box b e (je f o l))::j) (ah m b o l):=by
 have k:lO j q b e f:=Or.inl E;have D:cF m b e f:=h.D q b e f k;have p:∀{u c d g},lO ((q,.box b e (je f o l))::j) u c d g->(u=q/\c=b/\d=e/\g=je f o l)\/(u≠q/\lO j u c d g):=by
  intro u c d g a;unfold lO at a⊢;simp only[il]at a;cases i:Nat.beq q u
  .rw[i]at a;exact Or.inr ⟨λe=>by subst e;simp at i,a⟩
  .rw[i]at a;have:=bq i;subst this;rcases a with a|a
   .simp at a;exact Or.inl ⟨rfl,a.1.symm,a.2.1.symm,a.2.2.symm⟩
   .simp at a
 refine⟨λu c d g a=>?_,λu s b1 t A b2 v B y C x=>?_,λu c d g a=>?_⟩
 .rcases p a with⟨rfl,rfl,rfl,rfl⟩|⟨i,a⟩
  .exact cF.ah (m:=m) D
  .rw[be l m b o (h.OP u q c d g b e f i a k)];exact h.D u c d g a
 .rcases p C with⟨rfl,rfl,rfl,rfl⟩|⟨i,w⟩
  .rcases p x with⟨rfl,rfl,rfl,rfl⟩|⟨z,r⟩
   .exact absurd rfl y
   .exactλe=>h.OP s u b2 v B _ _ _ z r k e.symm
  .rcases p x with⟨rfl,rfl,rfl,rfl⟩|⟨z,r⟩
   .exact h.OP u s b1 t A _ _ _ i w k
   .exact h.OP u s b1 t A b2 v B y w r
 .rcases p a with⟨rfl,rfl,rfl,rfl⟩|⟨_,a⟩
  .exact h.key u c d f k
  .exact h.key u c d g a
def FX(a:Fr):List Ce->Option Fr
 |[]=>some a
 | .bp q _ _::r=>match il a q with
  | .zO _ _ _=>none
  |_=>FX ((q,.fU)::a) r
 |_::r=>FX a r
def AV.Vi:AV->List Ce
 | .c x=>[x]
 | .agg l=>l
def SV.Vi:SV->List Ce
 | .c x=>[x]
 | .agg l=>l
 | .XJ l=>l.flatMap AV.Vi
 |_=>[]
def Uf(a:Fr)(l:List SV):Option Fr:=FX a (l.flatMap SV.Vi)
def qy{n:Nat}{f:Act}{m:E}:∀{l:List Ce}{a c:Fr},FX a l=some c->j8 n a f->Bx n a m->j8 n c f/\Bx n c m
 |[],a,c,h,e,d=>by simp[FX]at h;subst h;exact⟨e,d⟩
 |g::r,a,c,h,e,d=>by
  cases g with
  |bp q b o=>
   simp only[FX]at h;split at h
   .simp at h
   .exact qy h (e.fU q) (d.fU aL)
  |_=>exact qy (l:=r) (by simpa[FX]using h) e d
end Go.Vc
end
section
namespace Go.Vc
variable{P:Program}{T:TT}
def O9(m:E)(k:E->Prop):Prop:=k m
def jN(m:E)(f:Nat)(b:List Ce)(e:Nat)(s x:O)(k:O->E->Prop):Prop:=
 ∃a:List Ce,a.length=x.len*b.length/\fQ m x.D x.off a/\
  (s.len+x.len<=s.cap->fL m s.D (s.off+s.len*b.length) a.length/\
   k (match s with| .nil=>.nil| .mk d o l c=>.mk d o (l+x.len) c| .zU d o g=>.zU d o g) (ah m s.D (s.off+s.len*b.length) a))/\
  (s.cap<s.len+x.len->(s.len+x.len)*e<=140737488355328/\∃old:List Ce,old.length=s.len*b.length/\fQ m s.D s.off old/\
   ∀c,s.len+x.len<=c->k (.mk m.size 0 (s.len+x.len) c) (m.push (.cells (bu (old++a++mK b (c -(s.len+x.len)))) f)))
def Xr(m:E)(c:Nat)(s x:O)(k:SV->E->Prop):Prop:=
 ∃a:List Ce,a.length=Nat.min x.len s.len*c/\fQ m x.D x.off a/\fL m s.D s.off a.length/\
  O9 (ah m s.D s.off a) λb=>k (.c (.i (Nat.min x.len s.len:Nat))) b
def UU:List Sh->(List Ce->Prop)->Prop
 |[],k=>k []
 |s::r,k=>∃x:s.ty,UU r λl=>k (s.mk x::l)
def SU(T:TT):List Nat->(List AV->Prop)->Prop
 |[],k=>k []
 |t::r,k=>match fK T t with
  |some ⟨.struct _,b,_⟩=>UU b λl=>SU T r λa=>k (.agg l::a)
  |some ⟨.cell,[s],_⟩=>∃x:s.ty,SU T r λa=>k (.c (s.mk x)::a)
  |some ⟨.slice _,[_],_⟩=>∃x:O,SU T r λa=>k (.c (.s x)::a)
  |_=>False
def Qo(T:TT)(t:Nat)(v:Value)(k:SV->Prop):Prop:=
 match fK T t with
 |some ⟨.tuple [],_,_⟩=>k .fU
 |some ⟨.tuple a,_,_⟩=>SU T a λl=>v=.tuple (l.map AV.v).toArray/\k (.XJ l)
 |some ⟨.struct _,a,_⟩=>UU a λl=>v=.agg (l.map Ce.v).toArray/\k (.agg l)
 |some ⟨.cell,[s],_⟩=>∃x:s.ty,v=(s.mk x).v/\k (.c (s.mk x))
 |some ⟨.slice _,[_],_⟩=>∃x:O,v=x.v/\k (.c (.s x))
 |_=>False
def TS(P:Program)(T:TT)(G:List Nat)(n:Nat)(a:Fr)(m:E)(e:Nat)(h:Operand)(b:List Operand)(k:Fr->SV->E->Prop):Prop:=
 match Uf a (b.map (ev a))with
 |none=>False
 |some d=>match ev a h with
  | .c (.fn (.func g) first f)=>bif G.elem g&&b.all (λx=>(ev a x).jJ)then
   aN P g (first.toList++(b.map λx=>(ev a x).v)++f.toList) m λv c=>Ay (MS n d []) m c (Qo T e v λx=>k d x c)
   else False
  | .c (.fv q)=>bif b.all (λx=>(ev a x).jJ)then
   ∃g,q.1=.func g/\G.elem g=true/\aN P g (q.2.1.toList++(b.map λx=>(ev a x).v)++q.2.2.toList) m λv c=>Ay (MS n d []) m c (Qo T e v λx=>k d x c)
   else False
  |_=>False
def DJ(m:E)(b:Nat)(l:List (Int×Int)):Prop:=
 ∃a c,m[b]? =some (.map a c)/\a.toList.map (λe=>(e.key,e.val))=l.map λp=>(Value.int .i64 p.1,Value.int .i64 p.2)
def vm(l:List (Int×Int))(k:Int):Int:=
 match l with
 |[]=>0
 |(j,v)::r=>if k=j then v else vm r k
def J6(l:List (Int×Int))(k v:Int):List (Int×Int):=
 match l with
 |[]=>[(k,v)]
 |(j,u)::r=>if k=j then(j,v)::r else(j,u)::J6 r k v
def xp(T:TT)(d:Fr)(b:Nat):List Ce->List (Nat×Operand)->(List Ce->Prop)->Prop
 |a,[],k=>k a
 |a,(i,x)::r,k=>
  match(ev d x).cells with
  |some c=>bif Nat.beq c.length b&&Nat.ble (i*b+c.length) a.length then xp T d b (mj a (i*b) c) r k else False
  |none=>False
def Tb(n:Nat)(b:Fr)(d:Option Nat)(m:E)(t:Nat)(l:List Ce)(k:Fr->SV->E->Prop):Prop:=
 match d with
 |some a=>match il b (n+a)with
  | .zO _ _ _=>False
  |_=>O9 (m.push (.cells (bu l) t)) λc=>k ((n+a,.box m.size t l)::b) (.c (.bp (n+a) m.size 0)) c
 |none=>O9 (m.push (.cells (bu l) t)) λc=>k b (.c (.p m.size 0)) c
def Po(n:Nat)(c:Fr)(m:E)(x:SV)(l:List Ce)(k:Fr->SV->E->Prop):Prop:=
 match x with
 | .c (.p b o)=>fL m b o l.length/\O9 (ah m b o l) λa=>Ay (MS n c []) m a (k c .un a)
 | .c (.bp q b o)=>match il c q with
  | .box d f e=>bif Nat.ble (o+l.length) e.length then MZ d b (O9 (ah m b o l) λa=>k ((q,.box d f (je e o l))::c) .un a)else False
  | .zO _ _ _=>False
  |_=>fL m b o l.length/\O9 (ah m b o l) λa=>Ay (MS n c []) m a (k c .un a)
 |_=>False
def wr(P:Program)(T:TT)(G:List Nat)(n:Nat)(a:Fr)(m:E)(h:Option Nat)(o:Nat)(k:Fr->SV->E->Prop):Op->Prop
 | .alloc t=>match fK T t with
  |some f=>bif f.uH then False else Tb n a h m t (f.sh.map Sh.zero) k
  |none=>False
 | .box t x=>match(ev a x).cells with
  |some l=>match FX a l with
   |some d=>Tb n d h m t l k
   |none=>False
  |none=>False
 | .buildSlice t g i=>match fK T t with
  |some ⟨.slice e,_,_⟩=>match fK T e with
   |some c=>bif c.uH||!(Nat.ble (g*c.sh.length) 16777216)then False else
    xp T a c.sh.length (mK (c.sh.map Sh.zero) g) i.toList λl=>match FX a l with
     |some d=>O9 (m.push (.cells (bu l) e)) λb=>k d (.c (.s (.mk m.size 0 g g))) b
     |none=>False
   |none=>False
  |_=>False
 | .store t x y=>match(ev a y).cells,fK T t with
  |some l,some f=>bif f.uH||!(Nat.beq l.length f.sh.length)then False else match FX a l with
   |some d=>Po n d m (ev a x) l k
   |none=>False
  |_,_=>False
 | .makeSlice t x y=>match fK T t,ev a x,ev a y with
  |some ⟨.slice e,_,_⟩,.c (.i l),.c (.i f)=>match fK T e with
   |some c=>bif c.uH then False else 0<=l/\l<=f/\(c.bytes:Int)*f<=281474976710656/\f<=9223372036854775807/\
    O9 (m.push (.cells (bu (mK (c.sh.map Sh.zero) f.toNat)) e)) λb=>k a (.c (.s (.mk m.size 0 l.toNat f.toNat))) b
   |none=>False
  |_,_,_=>False
 | .makeFunc g first f=>bif first.toList.all (λx=>(ev a x).jJ)&&f.toList.all (λx=>(ev a x).jJ)then
  match Uf a (first.toList.map (ev a)++f.toList.map (ev a))with
  |some d=>k d (.c (.fn g (first.toList.map λx=>(ev a x).v).toArray (f.toList.map λx=>(ev a x).v).toArray)) m
  |none=>False
  else False
 | .makeMap _ none=>O9 (m.push (.map #[] 0)) λb=>k a (.c (.mp m.size)) b
 | .lookup t x y false=>match fK T t,ev a x,ev a y with
  |some ⟨.map f g,_,_⟩,.c (.mp d),.c (.i n)=>match fK T f,fK T g with
   |some ⟨.cell,[.I],_⟩,some ⟨.cell,[.I],_⟩=>∃l,DJ m d l/\k a (.c (.i (vm l n))) m
   |_,_=>False
  |_,_,_=>False
 | .mapUpdate t x y z=>match fK T t,ev a x,ev a y,ev a z with
  |some ⟨.map f _,_,_⟩,.c (.mp d),.c (.i g),.c (.i v)=>match fK T f with
   |some ⟨.cell,[.I],_⟩=>∃l,DJ m d l/\∀b,DJ b d (J6 l g v)->b.size=m.size->(∀j,j≠d->b[j]? =m[j]?)->Ay (MS n a []) m b (k a .un b)
   |_=>False
  |_,_,_,_=>False
 | .call ⟨.value f,d,_⟩=>TS P T G n a m o f d.toList k
 | .call ⟨.builtin .append,d,f⟩=>match d.toList,f.toList with
  |[x,y],[t,u]=>match fK T t,fK T u,ev a x,ev a y with
   |some ⟨.slice e,_,_⟩,some ⟨.slice _,_,_⟩,.c (.s s),.c (.s z)=>match fK T e with
    |some c=>bif c.uH||Nat.beq c.bytes 0 then False else jN m e (c.sh.map Sh.zero) c.bytes s z λr b=>Ay (MS n a []) m b (k a (.c (.s r)) b)
    |none=>False
   |_,_,_,_=>False
  |_,_=>False
 | .call ⟨.builtin .copy,d,f⟩=>match d.toList,f.toList with
  |[x,y],t::_=>match fK T t,ev a x,ev a y with
   |some ⟨.slice e,_,_⟩,.c (.s s),.c (.s z)=>match fK T e with
    |some c=>bif c.uH then False else Xr m c.sh.length s z λx b=>Ay (MS n a []) m b (k a x b)
    |none=>False
   |_,_,_=>False
  |_,_=>False
 |_=>False
def H9(P:Program)(g:Nat):Bool:=
 match P.funcs[g]? with
 |some a=>!(a.name== "runtime.NumGoroutine")&&a.body.isSome
 |none=>false
def U1(P:Program)(G:List Nat):Prop:=G.all (H9 P)=true
def QL(a:List Ce):∀(n i:Nat),i<n*a.length->(mK a n)[i]? =a[i%a.length]?
 |0,i,h=>by simp at h
 |n+1,i,h=>by
  have c:0<a.length:=by
   rcases j7 a.length with e|e
   .rw[e]at h;simp at h
   .exact e
  have e:mK a (n+1)=a++mK a n:=by simp[mK,qO]
  rw[e,List.getElem?_append];split
  .rename_i b;rw[Nat.mod_eq_of_lt b]
  .rename_i b;rw[QL a n (i -a.length) (by rw[gQ,Nat.one_mul]at h;omega)];congr 1;rw[Nat.mod_eq_sub_mod (by omega:i>=a.length)]
def rJ(a:List Ce)(n:Nat):(mK a n).length=n*a.length:=by
 simp[mK]
def Ju(a:List Ce)(z:Array Value)(d:z.toList=a.map Ce.v)(n:Nat):
 (Array.range (n*a.length)).map (λi=>z[i%z.size]!)=bu (mK a n):=by
 apply Ca
 intro i
 have j:z.size=a.length:=by rw[<-ZO,d];simp
 by_cases b:i<n*a.length
 .have f:=QL a n i b
  have h:0<a.length:=by
   rcases j7 a.length with e|e
   .rw[e]at b;simp at b
   .exact e
  have g:i%a.length<a.length:=Nat.mod_lt _ h
  have c:(bu (mK a n))[i]? =((mK a n)[i]?).map Ce.v:=by simp[bu]
  rw[c,f,<-cK,<-d]
  simp[b,j,g]
 .have c:(bu (mK a n))[i]? =none:=by simp[bu,rJ];omega
  rw[c]
  simp[b]
end Go.Vc
end
section
namespace Go.Vc
variable{c:SV}{l:List Ce}{t:TypeId}
variable{d:Program}{T:TT}{G:List Nat}
def Ce.Vu(c:Ce):c.v.oneCell'=true:=by
 cases c with
 |s y=>cases y<;>rfl
 |_=>rfl
def kX:∀(l:List Ce)(w:World)(b o:Nat),(w.setCells b o (l.map Ce.v)).heap=ah w.heap b o l
 |[],_,_,_=>rfl
 |c::r,w,b,o=>by
  simp only[cL,World.setCells,ah];rw[kX r,Pe]
def qX:∀(l:List Value)(w:World)(a o:Nat),px w (w.setCells a o l)
 |[],w,_,_=>px.az w
 |c::r,w,a,o=>by
  simp only[World.setCells];exact px.trans (b:=w.setCell ⟨a,o,none⟩ c) ⟨rfl,rfl,rfl⟩ (qX r _ a (o+1))
def EA(l:List Ce)(b o:Nat)(w:World)(h:fL w.heap b o l.length):
 (storeCells ⟨b,o,none⟩ (l.map Ce.v)).run d w=.ok () (w.setCells b o (l.map Ce.v)):=by
 have:=run_storeCells_cells (P:=d) b o (l.map Ce.v) 0 w
  (λj a=>by have:=(h j (by simpa using a)).1;rw[zR];simpa using this)
  (λj a=>by have:=(h j (by simpa using a)).2;rw[Re];simpa using this)
  (λv a=>by obtain⟨c,_,rfl⟩:=List.mem_map.1 a;exact c.Vu)
 simpa using this
def Qr(l:List Ce)(b o:Nat)(a:World)(h:fQ a.heap b o l):(loadCells ⟨b,o,none⟩ l.length).run d a=.ok (bu l) a:=by
 have:=run_loadCells_list (P:=d) (w:=a) ⟨b,o,none⟩ (l.map Ce.v) (λj v c=>by
  rw[vP,zR];rw[cK]at c;obtain⟨e,f,rfl⟩:=Option.map_eq_some_iff.1 c;exact h j e f)
 simpa[bu]using this
section
variable{n:Nat}{b:Fr}{a:Act}{m:E}{k:Fr->SV->E->Prop}{e:Option Tmp}{f:TypeId}{i:String}{g:Array Edge}{h:Option (Nat×Bool)}
def FE(d:Program)(n:Nat)(a:Act)(m:E)(o:Oper)(k:Fr->SV->E->Prop):Prop:=
 ∀(w:World),w.heap=m->∀(f:Act->World->Prop)(Q:Exit->Act->World->Prop),
  (∀e c v b,k e c b.heap->j8 n e a->Bx n e b.heap->c.Is v->px w b->f (a.put o.dst v) b)->o.wp d a w f Q
def jO{o:Oper}{e:Fr}{v:Value}{w b:World}(h:j8 n e a)(g:Bx n e b.heap)(p:c.Is v)(m:px w b)(i:k e c b.heap)(l:(execOp a.eval o).run d w=.ok (.value v) b)
 {f:Act->World->Prop}{Q:Exit->Act->World->Prop}(j:∀e c v b,k e c b.heap->j8 n e a->Bx n e b.heap->c.Is v->px w b->f (a.put o.dst v) b):o.wp d a w f Q:=by
 unfold Oper.wp
 rw[l]
 exact j e c v b i h g p m
def Oc{i:Option Nat}{t:Nat}(g:j8 n b a)(f:Bx n b m)(h:Tb n b i m t l k):
 ∃d c,j8 n d a/\Bx n d (m.push (.cells (bu l) t))/\c.Is (.pointer (some ⟨m.size,0,none⟩))/\k d c (m.push (.cells (bu l) t)):=by
 unfold Tb at h
 split at h
 .split at h
  .exact h.elim
  .rename_i e _ j
   exact⟨(n+e,.box m.size t l)::b,.c (.bp (n+e) m.size 0),g.cons _ (λ_=>trivial),f.new (Nat.le_add_right _ _) t l,rfl,h⟩
 .exact⟨b,.c (.p m.size 0),g,f.push _,rfl,h⟩
def QB(s:j8 n b a)(g:Bx n b m)(h:Po n b m c l k):
 ∃p d o,j8 n p a/\Bx n p (ah m d o l)/\(∀v,c.Is v->v=.pointer (some ⟨d,o,none⟩))/\fL m d o l.length/\k p .un (ah m d o l):=by
 unfold Po at h
 split at h
 .obtain⟨q,r⟩:=mE h.2
  exact⟨_,_,_,s,g.dv q,λv e=>e,h.1,r⟩
 .split at h
  .rename_i w d o _ i j f u
   cases t:Nat.ble (o+l.length) f.length
   .rw[t]at h;exact h.elim
   .rw[t]at h
    obtain⟨rfl,h⟩:=h
    have x:cF m i j f:=g.D w i j f (Or.inl u)
    exact⟨(w,.box i j (je f o l))::b,_,_,s.cons _ (λ_=>trivial),g.ov u o l,λv e=>e,x.fL (lL t),h⟩
  .exact h.elim
  .obtain⟨q,r⟩:=mE h.2
   exact⟨_,_,_,s,g.dv q,λv e=>e,h.1,r⟩
 .exact h.elim
def Q3(y:uw d T)(s:j8 n b a)(q:Bx n b m)(j:wr d T G n b m e f k (.alloc t)):FE d n a m ⟨e,.alloc t,f,i,g,h⟩ k:=by
 intro l D L Q B
 subst D;simp only[wr]at j;split at j
 .rename_i p C;cases o:p.uH
  .rw[o]at j;obtain⟨I,F,H,K⟩:=wm y C o;have z:I.cells=bu (p.sh.map Sh.zero):=by apply Array.toList_inj.1;simp[F,bu]
   obtain⟨J,c,u,r,E,A⟩:=Oc s q j;refine jO (w:=l) (c:=c) (v:=.pointer (some ⟨l.heap.size,0,none⟩)) (b:={l with heap:=l.heap.push (.cells (bu (p.sh.map Sh.zero)) t)}) u r E ⟨rfl,rfl,rfl⟩ A ?_ B;simp[execOp,Instr.alloc,H,newVar,newRow,z]
  .rw[o]at j;exact j.elim
 .exact j.elim
def TW(p:j8 n b a)(q:Bx n b m){c:Operand}(j:wr d T G n b m e f k (.box t c)):FE d n a m ⟨e,.box t c,f,i,g,h⟩ k:=by
 intro o F L Q E
 subst F;simp only[wr]at j;split at j
 .rename_i l D;split at j
  .rename_i K A;obtain⟨y,s⟩:=qy A p q;obtain⟨B,z⟩:=pE D;obtain⟨J,I,u,r,H,C⟩:=Oc y s j;refine jO (w:=o) (c:=I) (v:=.pointer (some ⟨o.heap.size,0,none⟩)) (b:={o with heap:=o.heap.push (.cells (bu l) t)}) u r H ⟨rfl,rfl,rfl⟩ C ?_ E;simp[execOp,Instr.box,newVar,newRow,p.eq rfl B,z,bu]
  .exact j.elim
 .exact j.elim
def MW(q:j8 n b a)(y:Bx n b m){o:Fn}{first l:Array Operand}(j:wr d T G n b m e f k (.makeFunc o first l)):FE d n a m ⟨e,.makeFunc o first l,f,i,g,h⟩ k:=by
 intro r D F Q C
 subst D;simp only[wr]at j;cases p:(first.toList.all (λc=>(ev b c).jJ)&&l.toList.all (λc=>(ev b c).jJ))
 .rw[p]at j;exact j.elim
 .rw[p]at j;simp only[bL]at p;obtain⟨u,x⟩:=p;have s:(first.toList.map λc=>(ev b c).v).toArray=first.map a.eval:=by
   apply Array.toList_inj.1;simp[Cj q u]
  have t:(l.toList.map λc=>(ev b c).v).toArray=l.map a.eval:=by
   apply Array.toList_inj.1;simp[Cj q x]
  simp only[jI]at j;split at j
  .rename_i E B;obtain⟨A,z⟩:=qy B q y;refine jO (w:=r) (b:=r) A z (v:=.func o (first.map a.eval) (l.map a.eval)) ?_ (px.az r) j ?_ C
   .show Value.func o (first.map a.eval) (l.map a.eval)=Value.func o _ _;rw[s,t]
   .simp[execOp,Instr.makeFunc]
  .exact j.elim
def JS(p:j8 n b a)(e:Nat):
 ∀(q:List (Nat×Operand))(d:List Ce)(k:List Ce->Prop),xp T b e d q k->
  ∃l,k l/\Instr.fill (λi=>some (i*e,e)) (d.map Ce.v).toArray (q.map λf=>(f.1,a.eval f.2))=some (l.map Ce.v).toArray
 |[],d,k,h=>⟨d,h,rfl⟩
 |(i,c)::z,d,k,h=>by
  simp only[xp]at h;split at h
  .rename_i f x;cases g:(Nat.beq f.length e&&Nat.ble (i*e+f.length) d.length)
   .rw[g]at h;exact h.elim
   .rw[g]at h;simp only[bL]at g;obtain⟨m,o⟩:=g;have m:=bq m;have o:=lL o;obtain⟨l,u,w⟩:=JS p e z (mj d (i*e) f) k h;refine⟨l,u,?_⟩;obtain⟨v,t⟩:=pE x;have y:a.eval c=(ev b c).v:=p.eq rfl v;simp only[cL,Instr.fill,y,t,DW,dZ,m];rw[ae bF,<-w];congr 1;apply Ca;intro j;have r:=N3 (f.map Ce.v) 0 (i*e) (d.map Ce.v).toArray j;rw[<-aaj,ZP];have s:=Cn d (i*e) f j o;rw[show((List.map Ce.v (mj d (i*e) f)).toArray)[j]? =((mj d (i*e) f)[j]?).map Ce.v by simp,s];rw[r];simp;split<;>split<;>first|rfl|(exfalso;omega)|(congr 1;omega)
  .exact h.elim
def JZ(B:uw d T)(D:j8 n b a)(N:Bx n b m){j:Nat}{z:Array (Nat×Operand)}(o:wr d T G n b m e f k (.buildSlice t j z)):FE d n a m ⟨e,.buildSlice t j z,f,i,g,h⟩ k:=by
 intro q U ad Z Q
 subst U;simp only[wr]at o;split at o
 .rename_i L sh aa S;split at o
  .rename_i p H;cases r:(p.uH||!(Nat.ble (j*p.sh.length) 16777216))
   .rw[r]at o;simp only[bt,aak]at r;have ab:=lL r.2;have I:=(kj (B.yC S)).1;obtain⟨K,W,X,ac⟩:=wm B H r.1;have F:=λq=>kD B H r.1 q;obtain⟨l,y,s⟩:=JS D _ _ _ _ o;cases C:FX b l with
    |none=>rw[C]at y;exact y.elim
    |some u=>
    rw[C]at y;obtain⟨P,O⟩:=qy C D N;refine jO (w:=q) (c:=.c (.s (.mk q.heap.size 0 j j))) (v:=.slice (some ⟨q.heap.size,0,none⟩) j j) (b:={q with heap:=q.heap.push (.cells (bu l) L)}) P (O.push _) rfl ⟨rfl,rfl,rfl⟩ y ?_ Q;have E:(z.map λu=>(u.1,a.eval u.2)).toList=z.toList.map λu=>(u.1,a.eval u.2):=aL;have Y:K.cells.toList=(p.sh.map Sh.zero).map Ce.v:=by simp[W]
    have J:(p.sh.map Sh.zero).length=p.sh.length:=aL;have jv:=Ju (p.sh.map Sh.zero) K.cells Y j;rw[J]at jv;by_cases A:j*p.sh.length=0
    .have R:mK (p.sh.map Sh.zero) j=[]:=by
      apply List.length_eq_zero_iff.1;rw[rJ,J,A]
     rw[R]at s;simp only[execOp,Instr.buildSlice,Sem.run_bind,run_underlying I,Result.andThen_ok,F,A];simp only[E];have M:(Array.map (λc=>(default:Value)) (Array.range 0))=#[]:=aL;simp at s⊢;rw[M,s];simp[newRow,bu]
    .simp only[execOp,Instr.buildSlice,Sem.run_bind,run_underlying I,Result.andThen_ok,F,A,rL];have:¬(j*p.sh.length>2^24):=V;simp only[this,rL,X,Sem.run_bind,Sem.run_pure,Result.andThen_ok,E];rw[jv];simp only[bu]at s⊢;simp[s,newRow]
   .rw[r]at o;exact o.elim
  .exact o.elim
 .exact o.elim
def Q4(C:uw d T)(q:j8 n b a)(v:Bx n b m){c y:Operand}(j:wr d T G n b m e f k (.store t c y)):FE d n a m ⟨e,.store t c y,f,i,g,h⟩ k:=by
 intro w R Y W K
 subst R;simp only[wr]at j;split at j
 .rename_i l s I Q;cases o:(s.uH||!(Nat.beq l.length s.sh.length))
  .rw[o]at j;simp only[mL]at j;simp only[bt,aak]at o;split at j
   .rename_i X E;obtain⟨B,z⟩:=qy E q v;obtain⟨u,p,r,A,x,S,L,F⟩:=QB B z j;have J:=bq o.2;obtain⟨H,D⟩:=pE I;have O:=λw=>kD C Q o.1 w;unfold Oper.wp;have M:(execOp a.eval ⟨e,.store t c y,f,i,g,h⟩).run d w=.ok .skip (w.setCells p r (l.map Ce.v)):=by
     have N:=EA (d:=d) l p r w L;have U:a.eval c=.pointer (some ⟨p,r,none⟩):=S _ (q.ev c);have V:(a.eval y).cells=(l.map Ce.v).toArray:=by rw[q.eq rfl H,D]
     simp only[execOp,Instr.storeAt,U,Instr.sureAddr,storeVar,Sem.run_bind,Sem.run_pure,Result.andThen_ok,O,V,DW,dZ,J];simp[N]
    rw[M];exact K u .un undef _ (by rw[kX];exact F) A (by rw[kX];exact x) rfl (qX _ _ _ _)
   .exact j.elim
  .rw[o]at j;exact j.elim
 .exact j.elim
end
end Go.Vc
end
section
namespace Go.Vc
variable{b y f:Operand}{t:TypeId}{e:Array TypeId}
variable{c:Program}{T:TT}{G:List Nat}
section
variable{n:Nat}{g:Fr}{a:Act}{m:E}{k:Fr->SV->E->Prop}{i:Option Tmp}{h:TypeId}{o:String}{j:Array Edge}{l:Option (Nat×Bool)}
def Pv{b:Int}(e: -9223372036854775808<=b)(f:b<=9223372036854775807):IntKind.i64.wrap b=b:=by
 have a:((2:Int)^IntKind.i64.bits)=18446744073709551616:=bh;have c:((2:Int)^(IntKind.i64.bits -1))=9223372036854775808:=bh;have d:IntKind.i64.signed=true:=rfl;simp only[IntKind.wrap,a,c,d,Oz,ar];split<;>omega
def aP{b:Int}(a: -9223372036854775808<=b)(c:b<=9223372036854775807):cU b=b:=Pv a c
def Lj(s:uw c T)(u:j8 n g a)(F:Bx n g m)(e:wr c T G n g m i h k (.makeSlice t b y)):FE c n a m ⟨i,.makeSlice t b y,h,o,j,l⟩ k:=by
 intro q U ah ad J
 subst U;simp only[wr]at e;split at e
 .rename_i D sh ae p d Q Y hy;split at e
  .rename_i f z;cases r:f.uH
   .rw[r]at e;obtain⟨h0,h1,h2,h3,I⟩:=e;have S:=(kj (s.yC Q)).1;obtain⟨C,hz,ab,ag⟩:=wm s z r;obtain⟨ti,H,af,R,_⟩:=GK s z r;have P:=λq=>kD s z r q;refine jO (w:=q) (c:=.c (.s (.mk q.heap.size 0 p.toNat d.toNat))) (v:=.slice (some ⟨q.heap.size,0,none⟩) p.toNat d.toNat) (b:={q with heap:=q.heap.push (.cells (bu (mK (f.sh.map Sh.zero) d.toNat)) D)}) u (F.push _) rfl ⟨rfl,rfl,rfl⟩ I ?_ J;have ac:C.cells.toList=(f.sh.map Sh.zero).map Ce.v:=by simp[hz]
    have B:(f.sh.map Sh.zero).length=f.sh.length:=aL;have jv:=Ju (f.sh.map Sh.zero) C.cells ac d.toNat;rw[B]at jv;have Z:a.eval b=.int .i64 p:=u.eq Y rfl;have aa:a.eval y=.int .i64 d:=u.eq hy rfl;have X:IntKind.i64.wrap p=p:=Pv V V;have W:IntKind.i64.wrap d=d:=Pv V V;have K:¬d<0:=V;have L:¬((f.bytes:Int)*d>2^48):=by
     have:(2:Int)^48=281474976710656:=bh;omega
    have M:¬p<0:=V;have N:¬p>d:=V;simp only[execOp,Instr.makeSlice,Sem.run_bind,run_underlying S,Result.andThen_ok,asInt,asIntOf,Z,aa,Sem.run_pure,R,X,W,H];simp only[K,L,M,N,decide_false,VM,js,rL];simp only[Sem.run_bind,Sem.run_pure,Result.andThen_ok,run_askRoom,P];by_cases A:d.toNat*f.sh.length=0
    .have O:mK (f.sh.map Sh.zero) d.toNat=[]:=by
      apply List.length_eq_zero_iff.1;rw[rJ,B,A]
     rw[O];have E:(Array.map (λb=>(default:Value)) (Array.range 0))=#[]:=aL;simp[A,newRow,bu];rw[E]
    .simp only[A,rL,Sem.run_bind,ab,Result.andThen_ok,Sem.run_pure];rw[jv];simp[newRow]
   .rw[r]at e;exact e.elim
  .exact e.elim
 .exact e.elim
def Lm:∀{c:List Sh}{k:List Ce->Prop},UU c k->∃l,k l
 |[],_,h=>⟨_,h⟩
 |_::_,_,⟨b,h⟩=>let⟨_,a⟩:=Lm h;⟨_,a⟩
def FY:∀{e:List Nat}{k:List AV->Prop},SU T e k->∃l,k l
 |[],_,h=>⟨_,h⟩
 |t::e,k,h=>by
  simp only[SU]at h;split at h
  .obtain⟨l,c⟩:=Lm h;obtain⟨d,a⟩:=FY c;exact⟨_,a⟩
  .obtain⟨b,c⟩:=h;obtain⟨d,a⟩:=FY c;exact⟨_,a⟩
  .obtain⟨b,c⟩:=h;obtain⟨d,a⟩:=FY c;exact⟨_,a⟩
  .exact h.elim
def Tf{t:Nat}{v:Value}{k:SV->Prop}(h:Qo T t v k):∃b:SV,b.Is v/\k b:=by
 unfold Qo at h;split at h
 .exact⟨.fU,trivial,h⟩
 .obtain⟨l,c,a⟩:=FY h;exact⟨.XJ l,c,a⟩
 .obtain⟨l,c,a⟩:=Lm h;exact⟨.agg l,c,a⟩
 .rename_i s _ _;obtain⟨b,c,a⟩:=h;exact⟨.c (s.mk b),c,a⟩
 .obtain⟨b,c,a⟩:=h;exact⟨.c (.s b),c,a⟩
 .exact h.elim
def Li(z:U1 c G)(A:j8 n g a){q:Fr}(B:j8 n q a)(y:Bx n q m){d:Array Operand}{p:Nat}{first s:Array Value}(E:a.eval f=.func (.func p) first s)
 (H:G.elem p=true)(J:d.toList.all (λb=>(ev g b).jJ)=true)
 (x:aN c p (first.toList++(d.toList.map λb=>(ev g b).v)++s.toList) m λv r=>Ay (MS n q []) m r (Qo T h v λb=>k q b r)):
 FE c n a m ⟨i,.call ⟨.value f,d,e⟩,h,o,j,l⟩ k:=by
 intro w O V R K
 subst O
 have r:H9 c p=true:=List.all_eq_true.1 z p (by simpa using H)
 have C:d.map a.eval=(d.toList.map λb=>(ev g b).v).toArray:=by
  apply Array.toList_inj.1;simp[<-Cj A J]
 unfold H9 at r
 split at r
 .rename_i u F
  simp only[bL,iQ]at r
  have D:u.body.isNone=false:=by cases U:u.body<;>simp_all
  have L:(execOp a.eval ⟨i,.call ⟨.value f,d,e⟩,h,o,j,l⟩).run c w=
   .ok (.enter p (first.toList++(d.toList.map λb=>(ev g b).v)++s.toList).toArray) w:=by
   simp only[execOp,resolve,E,C,Deferred.ofValue,Sem.run_bind,Sem.run_pure,Result.andThen_ok,invoke,callFunc,run_program,F,r.1,D,js,rL]
   simp
  unfold Oper.wp
  rw[L]
  show Calls c p _ w _
  refine(x w rfl).mono ?_
  rintro S Q ⟨v,rfl,M,t⟩
  obtain⟨N,t⟩:=mE t
  obtain⟨b,P,I⟩:=Tf t
  exact K q b v Q I B (y.dv N) P M
 .simp at r
def SR(v:U1 c G)(q:j8 n g a)(y:Bx n g m){r:Array Operand}(d:wr c T G n g m i h k (.call ⟨.value f,r,e⟩)):FE c n a m ⟨i,.call ⟨.value f,r,e⟩,h,o,j,l⟩ k:=by
 simp only[wr,TS]at d;split at d
 .exact d.elim
 rename_i D z;obtain⟨w,u⟩:=qy z q y;split at d
 .rename_i s first x t
  cases p:(G.elem s&&r.toList.all (λb=>(ev g b).jJ))
  .rw[p]at d;exact d.elim
  .rw[p]at d;simp only[bL]at p;exact Li v q w u (q.eq t rfl) p.1 p.2 d
 .rename_i x t;cases p:(r.toList.all (λb=>(ev g b).jJ))
  .rw[p]at d;exact d.elim
  .rw[p]at d;obtain⟨s,A,B,d⟩:=d;have C:a.eval f=.func (.func s) x.2.1 x.2.2:=by
    rw[<-A];exact q.eq t rfl
   exact Li v q w u C B p d
 .exact d.elim
def sG(a:c.underlying t=some (.int .i64))(e:Bool)(b:Int)(w:World):(Instr.checkKey e 10000 t (.int .i64 b)).run c w=.ok () w:=by
 have:Instr.checkKey e 10000 t (.int .i64 b)=Instr.checkKey e (9999+1) t (.int .i64 b):=rfl;rw[this];generalize 9999=d;simp[Instr.checkKey,run_underlying a]
def zV(b:Int):∀(a:List MapEntry)(l:List (Int×Int))(i:Nat),a.map (λe=>(e.key,e.val))=l.map (λp=>(Value.int .i64 p.1,Value.int .i64 p.2))->
 (Instr.findNow (.int .i64) (.int .i64 b) a i=some none/\vm l b=0/\(∀v,J6 l b v=l++[(b,v)]))\/
 ∃j u,Instr.findNow (.int .i64) (.int .i64 b) a i=some (some (i+j,.int .i64 u))/\vm l b=u/\j<a.length/\l[j]? =some (b,u)/\∀v,J6 l b v=l.set j (b,v)
 |[],[],i,_=>Or.inl ⟨rfl,rfl,λv=>rfl⟩
 |[],_::_,i,h=>by simp at h
 |_::_,[],i,h=>by simp at h
 |e::a,(j,u)::l,i,h=>by
  simp only[cL,List.cons.injEq,OC]at h;obtain⟨⟨r,s⟩,h⟩:=h;have k:Instr.sameNow (.int .i64) (.int .i64 b) e.key=some (b==j):=by rw[r];simp[Instr.sameNow]
  by_cases c:b=j
  .subst c;refine Or.inr ⟨0,u,?_,?_,aL,aL,?_⟩
   .simp[Instr.findNow,k,s]
   .simp[vm]
   .intro v;simp[J6]
  .have m:(b==j)=false:=by simpa using c
   rcases zV b a l (i+1) h with⟨d,f,g⟩|⟨q,t,d,f,g,o,p⟩
   .refine Or.inl ⟨?_,?_,?_⟩
    .simp[Instr.findNow,k,m,d]
    .simp[vm,c,f]
    .intro v;simp[J6,c,g]
   .refine Or.inr ⟨q+1,t,?_,?_,by simpa using g,by simpa using o,?_⟩
    .have n:i+1+q=i+(q+1):=V;simp[Instr.findNow,k,m,d,n]
    .simp[vm,c,f]
    .intro v;simp[J6,c,p]
def OQ(f:j8 n g a)(e:Bx n g m){r:Option Operand}(d:wr c T G n g m i h k (.makeMap t r)):FE c n a m ⟨i,.makeMap t r,h,o,j,l⟩ k:=by
 intro b q s Q p
 subst q;cases r with
 |some r=>exact d.elim
 |none=>
  refine jO (w:=b) (c:=.c (.mp b.heap.size)) (v:=.map (some b.heap.size)) (b:={b with heap:=b.heap.push (.map #[] 0)}) f (e.push _) rfl ⟨rfl,rfl,rfl⟩ d ?_ p;simp[execOp,Instr.makeMap]
def PW(s:uw c T)(r:j8 n g a)(L:Bx n g m){z:Bool}(d:wr c T G n g m i h k (.lookup t b y z)):FE c n a m ⟨i,.lookup t b y z,h,o,j,l⟩ k:=by
 intro e W ag ad S
 subst W;cases z with
 |true=>exact d.elim
 |false=>
  simp only[wr]at d;split at d
  .rename_i kt et sh ae B f V X Y;split at d
   .rename_i b1 b2 R P;obtain⟨u,⟨C,J,O,N⟩,Q⟩:=d;have F:=(Ct (s.yC V)).1;obtain⟨⟨K,hd,E⟩,_⟩:=nV (s.yC R);have M:K=.int .i64:=by
     unfold Ar at E;split at E<;>simp_all
    subst M;obtain⟨A,Z,ac,ab⟩:=wm s P rfl;have aa:A=.int .i64 0:=by
     have:A.cells.toList=[Value.int .i64 0]:=Z;have U:=ab rfl;cases A<;>first|(simp[Value.cells]at this;done)|(simp[Value.cells]at this;rw[this.1,this.2])|exact absurd rfl (U _)
    have H:a.eval b=.map (some B):=r.eq X rfl;have I:a.eval y=.int .i64 f:=r.eq Y rfl;have D:(getObj B).run c e=.ok (.map C J) e:=by simp[getObj,Sem.run,O]
    refine jO (w:=e) (c:=.c (.i (vm u f))) (v:=.int .i64 (vm u f)) (b:=e) r L rfl (px.az e) Q ?_ S;rcases zV f C.toList u 0 N with⟨p,q,_⟩|⟨af,ah,p,q,_⟩
    .simp[execOp,Instr.lookup,run_underlying F,H,I,D,sG hd,Instr.findKey,run_underlying hd,p,ac,aa,q]
    .simp[execOp,Instr.lookup,run_underlying F,H,I,D,sG hd,Instr.findKey,run_underlying hd,p,q]
   .exact d.elim
  .exact d.elim
def Lk(L:uw c T)(s:j8 n g a)(K:Bx n g m){z:Operand}(r:wr c T G n g m i h k (.mapUpdate t b y z)):FE c n a m ⟨i,.mapUpdate t b y z,h,o,j,l⟩ k:=by
 intro w hw ai ag Q
 subst hw;simp only[wr]at r;split at r
 .rename_i kt et sh ah e d v ht hx hy hz;split at r
  .rename_i b1 ae;obtain⟨Y,⟨p,q,E,x⟩,P⟩:=r;have U:=(Ct (L.yC ht)).1;obtain⟨⟨Z,hd,R⟩,_⟩:=nV (L.yC ae);have aa:Z=.int .i64:=by
    unfold Ar at R;split at R<;>simp_all
   subst aa;have V:a.eval b=.map (some e):=s.eq hx rfl;have W:a.eval y=.int .i64 d:=s.eq hy rfl;have X:a.eval z=.int .i64 v:=s.eq hz rfl;have N:(getObj e).run c w=.ok (.map p q) w:=by simp[getObj,Sem.run,E]
   have S:∀I,(setObj e I).run c w=.ok () {w with heap:=w.heap.setIfInBounds e I}:=λI=>by simp[setObj,Sem.run,E]
   have M:e<w.heap.size:=(Array.getElem?_eq_some_iff.1 E).1;unfold Oper.wp;rcases zV d p.toList Y 0 x with⟨C,h2,D⟩|⟨f,aj,C,h2,D,J,h5⟩
   .have H:(execOp a.eval ⟨i,.mapUpdate t b y z,h,o,j,l⟩).run c w=.ok .skip {w with heap:=w.heap.setIfInBounds e (.map (p.push {key:=.int .i64 d,val:=.int .i64 v,born:=q}) (q+1))}:=by
     simp[execOp,Instr.mapUpdate,run_underlying U,V,W,X,N,sG hd,Instr.findKey,run_underlying hd,C,S]
    rw[H];have u:=mE (P {w with heap:=w.heap.setIfInBounds e (.map (p.push {key:=.int .i64 d,val:=.int .i64 v,born:=q}) (q+1))}.heap ?_ aL ?_)
    .exact Q g .un undef _ u.2 s (K.dv u.1) rfl ⟨rfl,rfl,rfl⟩
    .refine⟨_,_,by simp[M];exact⟨rfl,rfl⟩,?_⟩;rw[D];simp[x]
    .intro f F;simp[jS (kH F)]
   .have ad:(p[f]?).map (·.key)=some (.int .i64 d):=by
     have:=nX (λA=>(A[f]?).map (·.1)) x;simpa[J]using this
    have af:(Instr.keyThatStays (.int .i64 d) (.int .i64 d)).run c w=.ok (.int .i64 d) w:=by
     simp[Instr.keyThatStays,Instr.sameBits]
    have H:(execOp a.eval ⟨i,.mapUpdate t b y z,h,o,j,l⟩).run c w=.ok .skip {w with heap:=w.heap.setIfInBounds e (.map (p.modify f λB=>{B with key:=.int .i64 d,val:=.int .i64 v}) q)}:=by
     simp only[execOp,Instr.mapUpdate,run_underlying U,V,W,X,N,sG hd,Instr.findKey,run_underlying hd,C,Sem.run_bind,Result.andThen_ok,Sem.run_pure,bT,ad,vE,af,S]
    rw[H];have u:=mE (P {w with heap:=w.heap.setIfInBounds e (.map (p.modify f λB=>{B with key:=.int .i64 d,val:=.int .i64 v}) q)}.heap ?_ aL ?_)
    .exact Q g .un undef _ u.2 s (K.dv u.1) rfl ⟨rfl,rfl,rfl⟩
    .refine⟨_,_,by simp[M];exact⟨rfl,rfl⟩,?_⟩;rw[h5];apply gY;intro A;have B:=nX (λ(q':List (Value×Value))=>q'[A]?) x;simp only[cK]at B;simp only[cK,jF,Yf,lJ]at B⊢;by_cases O:f=A
     .subst O;have ac:f<Y.length:=(List.getElem?_eq_some_iff.1 J).1;have ab:f<p.size:=by simpa using D
      simp[ac,ab]
     .simp only[O,rL];exact B
    .intro f F;simp[jS (kH F)]
  .exact r.elim
 .exact r.elim
def tB(l:List Ce)(z:O)(a f:Nat)(d:l.length=a*f)(w:World)(h:fQ w.heap z.D z.off l)(e:a<=z.len):
 (Builtin.firstCells f a z.v).run c w=.ok (bu l) w:=by
 cases z with
 |nil=>
  have b:a=0:=by simp at e;omega
  have:l=[]:=List.length_eq_zero_iff.1 (by rw[d,b];simp)
  subst this
  simp[Builtin.firstCells,O.v,bu]
 |zU g i j=>
  have b:a=0:=by simp at e;omega
  have:l=[]:=List.length_eq_zero_iff.1 (by rw[d,b];simp)
  subst this
  simp[Builtin.firstCells,O.v,bu,b,loadCells,loadCellsFrom]
 |mk b o i g=>
  simp only[Builtin.firstCells,O.v,<-d]
  exact Qr l b o w h
def Pw(a:List Ce)(z:Array Value)(b:z.toList=a.map Ce.v)(n:Nat):Builtin.zeroCells z n=bu (mK a n):=by
 have c:z.size=a.length:=by rw[<-ZO,b];simp
 rw[<-Ju a z b n,Builtin.zeroCells,c]
def QH(l r:List Ce):bu (l++r)=bu l++bu r:=by simp[bu]
def PV(H:uw c T)(C:j8 n g a)(L:Bx n g m){Z:Array Operand}(q:wr c T G n g m i h k (.call ⟨.builtin .append,Z,e⟩)):FE c n a m ⟨i,.call ⟨.builtin .append,Z,e⟩,h,o,j,l⟩ k:=by
 intro d hw aM aE N
 subst hw;simp only[wr]at q;split at q
 .rename_i b y t aD am az;split at q
  .rename_i B sh aF e2 aN aG s z ht aA hx hy;split at q
   .rename_i f ac;cases u:(f.uH||Nat.beq f.bytes 0)
    .rw[u]at q;simp only[bt]at u;obtain⟨A,Q,ar,ah,ai⟩:=q;have e1:Z=#[b,y]:=Array.toList_inj.1 (by simpa using am);have al:e=#[t,aD]:=Array.toList_inj.1 (by simpa using az);subst e1;subst al;have U:=(kj (H.yC ht)).1;have W:=(kj (H.yC aA)).1;obtain⟨zv,hz,ak,aK⟩:=wm H ac u.1;obtain⟨ti,hb,aJ,af,_⟩:=GK H ac u.1;have S:=λd=>kD H ac u.1 d;have X:a.eval b=s.v:=C.eq hx rfl;have Y:a.eval y=z.v:=C.eq hy rfl;have E:(Builtin.lenOf z.v).run c d=.ok z.len d:=by cases z<;>simp[Builtin.lenOf,O.v,O.len]
     have aj:(f.sh.map Sh.zero).length=f.sh.length:=aL;rw[aj]at Q;simp only[aj]at ah ai;have M:∀r:World,r.heap=d.heap->(Builtin.firstCells f.sh.length z.len z.v).run c r=.ok (bu A) r:=λr ag=>
      tB A z z.len f.sh.length Q r (by rw[ag];exact ar) (ad _)
     have ay:=s.XK;by_cases D:s.len+z.len<=s.cap
     .obtain⟨R,p⟩:=ah D;cases s with
      |nil=>
       simp only[O.O6,O.Vh]at D R p;have J:z.len=0:=V;have:A=[]:=List.length_eq_zero_iff.1 (by rw[Q,J];simp);subst this;obtain⟨ab,p⟩:=mE p;refine jO (w:=d) (c:=.c (.s .nil)) (v:=.slice none 0 0) (b:=d) C L rfl (px.az d) p ?_ N;have I:a.eval b=.slice none 0 0:=X;have F:=M d rfl;simp only[execOp,resolve,Sem.run_bind,Sem.run_pure,Result.andThen_ok,invoke,builtin,Builtin.append_,ns,cL,fF,I,Y];rw[J]at E F;simp[run_underlying U,run_underlying W,S,E,F]
      |zU K o0 sp=>
       simp only[O.So,O.Vg]at D R p;have J:z.len=0:=V;have:A=[]:=List.length_eq_zero_iff.1 (by rw[Q,J];simp);subst this;obtain⟨ab,p⟩:=mE p;refine jO (w:=d) (c:=.c (.s (.zU K o0 sp))) (v:=.slice (some ⟨K,o0,some sp⟩) 0 0) (b:=d) C L rfl (px.az d) p ?_ N;have I:a.eval b=.slice (some ⟨K,o0,some sp⟩) 0 0:=X;have F:=M d rfl;simp only[execOp,resolve,Sem.run_bind,Sem.run_pure,Result.andThen_ok,invoke,builtin,Builtin.append_,ns,cL,fF,I,Y];rw[J]at E F;simp[run_underlying U,run_underlying W,S,E,F,bu,storeCells]
      |mk F K J aa=>
       simp only[O.gG,O.ON,O.jC,O.mZ]at D R p;obtain⟨ab,p⟩:=mE p;refine jO (w:=d) (c:=.c (.s (.mk F K (J+z.len) aa))) (v:=.slice (some ⟨F,K,none⟩) (J+z.len) aa) (b:=d.setCells F (K+J*f.sh.length) (A.map Ce.v)) C (by rw[kX];exact L.dv ab) rfl (qX _ _ _ _) (by rw[kX];exact p) ?_ N;have an:=EA (d:=c) A F (K+J*f.sh.length) d R;have I:a.eval b=.slice (some ⟨F,K,none⟩) J aa:=X;simp only[execOp,resolve,Sem.run_bind,Sem.run_pure,Result.andThen_ok,invoke,builtin,Builtin.append_,ns,cL,fF,I,Y];simp[run_underlying U,run_underlying W,S,E,D,M d rfl,vP,bu,an]
     .obtain⟨ab,old,av,ax,p⟩:=ai V;have aH:=growslice_fits (need:=s.len+z.len) (old:=s.cap) (bytes:=f.bytes) V ab;have K:f.bytes≠0:=λB=>by rw[B]at u;simp at u
      have aI:¬(((s.len+z.len:Nat):Int)>IntKind.i64.max/\f.bytes=0):=λhh=>K hh.2;have aw:∀r:World,r.heap=d.heap->(Builtin.firstCells f.sh.length s.len s.v).run c r=.ok (bu old) r:=λr ag=>
       tB old s s.len f.sh.length av r (by rw[ag];exact ax) (ad _)
      let I:Question:=.appendCap (s.len+z.len) s.cap B;let nc:=I.cut (d.tape d.drawn I);let J:World:={d with drawn:=d.drawn+1};have ap:s.len+z.len<=nc:=Nat.le_add_right _ _;refine jO (w:=d) (c:=.c (.s (.mk d.heap.size 0 (s.len+z.len) nc))) (v:=.slice (some ⟨d.heap.size,0,none⟩) (s.len+z.len) nc)
       (b:={J with heap:=d.heap.push (.cells (bu (old++A++mK (f.sh.map Sh.zero) (nc -(s.len+z.len)))) B)}) C (L.push _) rfl ⟨rfl,rfl,rfl⟩ (mE (p nc ap)).2 ?_ N
      have aC:zv.cells.toList=(f.sh.map Sh.zero).map Ce.v:=by simp[hz]
      have aa:=Pw (f.sh.map Sh.zero) zv.cells aC (nc -(s.len+z.len));have an:I.forced=false:=rfl;have aq:¬(Builtin.nextslicecap (s.len+z.len) s.cap*f.bytes>2^48):=by
       have:(2:Nat)^48=281474976710656:=bh;omega
      simp only[execOp,resolve,Sem.run_bind,Sem.run_pure,Result.andThen_ok,invoke,builtin,Builtin.append_,ns,cL,fF,X,Y];have F:=aw J rfl;have R:=M J rfl;rw[ay]at F⊢;simp only[lK,sD,ij,Sem.run_bind,run_underlying U,run_underlying W,Result.andThen_ok,S,Sem.run_pure,E,js,rL,D,af,hb,false_or];simp only[K,and_false,rL,aq,Sem.run_bind,run_choose,an,js,Result.andThen_ok,af,run_askRoom,F,MO,MT,R,ak,aa,newRow,run_newObj,Sem.run_pure];simp[QH];rw[hb,ae V,ae (show¬(Question.appendCap (s.len+z.len) s.cap B).forced=true by simp[Question.forced])];have au:(Builtin.firstCells f.sh.length s.len (Value.slice s.cz s.len s.cap)).run c d.drew=.ok (bu old) d.drew:=F;have ao:(Builtin.firstCells f.sh.length z.len z.v).run c d.drew=.ok (bu A) d.drew:=R;simp only[af,Result.andThen_ok,au,ao,ak];have aB:Builtin.zeroCells zv.cells ((Question.appendCap (s.len+z.len) s.cap B).cut (d.tape d.drawn (Question.appendCap (s.len+z.len) s.cap B)) -(s.len+z.len))=bu (mK (f.sh.map Sh.zero) (nc -(s.len+z.len))):=aa;rw[aB];rfl
    .rw[u]at q;exact q.elim
   .exact q.elim
  .exact q.elim
 .exact q.elim
end
end Go.Vc
end
section
namespace Go.Vc
variable{b:Program}{T:TT}{G:List Nat}
section
variable{n:Nat}{c:Fr}{a:Act}{m:E}{k:Fr->SV->E->Prop}{d:Option Tmp}{e:TypeId}{h:String}{f:Array Edge}{g:Option (Nat×Bool)}
def SS(M:uw b T)(t:j8 n c a)(U:Bx n c m){r:Array Operand}{K:Array TypeId}(i:wr b T G n c m d e k (.call ⟨.builtin .copy,r,K⟩)):FE b n a m ⟨d,.call ⟨.builtin .copy,r,K⟩,e,h,f,g⟩ k:=by
 intro j hw ah ae W
 subst hw;simp only[wr]at i;split at i
 .rename_i q R ad ai V ab;split at i
  .rename_i ag sh af s z ht hx hy;split at i
   .rename_i J aa;cases u:J.uH
    .rw[u]at i;obtain⟨o,C,X,Y,y⟩:=i;obtain⟨Z,y⟩:=mE y;have S:r=#[q,R]:=Array.toList_inj.1 (by simpa using V);subst S;have E:K[0]? =some ad:=by rw[<-Yf,ab];rfl
     have F:=(kj (M.yC ht)).1;have D:=λj=>kD M aa u j;have H:a.eval q=s.v:=t.eq hx rfl;have I:a.eval R=z.v:=t.eq hy rfl;have A:(Builtin.lenOf z.v).run b j=.ok z.len j:=by cases z<;>simp[Builtin.lenOf,O.v,O.len]
     have l:(Builtin.firstCells J.sh.length (Nat.min z.len s.len) z.v).run b j=.ok (bu o) j:=
      tB o z _ J.sh.length C j X (Nat.min_le_left _ _)
     refine jO (w:=j) (c:=.c (.i (Nat.min z.len s.len:Nat))) (v:=.int .i64 (Nat.min z.len s.len:Nat)) (b:=j.setCells s.D s.off (o.map Ce.v)) t (by rw[kX];exact U.dv Z) rfl (qX _ _ _ _) (by rw[kX];exact y) ?_ W;cases s with
     |nil=>
      have B:Nat.min z.len O.nil.len=0:=aL;have:o=[]:=List.length_eq_zero_iff.1 (by rw[C,B];simp);subst this;have p:a.eval q=.slice none 0 0:=H;simp only[O.O6]at l⊢;simp only[execOp,resolve,Sem.run_bind,Sem.run_pure,Result.andThen_ok,invoke,builtin,Builtin.copy_,ns,cL,fF,p,I,E];simp only[lK,sD,ij,Sem.run_bind,run_underlying F,Result.andThen_ok,A,D,l,Sem.run_pure];rfl
     |zU L N Q=>
      have B:Nat.min z.len (O.zU L N Q).len=0:=aL;have:o=[]:=List.length_eq_zero_iff.1 (by rw[C,B];simp);subst this;have p:a.eval q=.slice (some ⟨L,N,some Q⟩) 0 0:=H;simp only[O.So]at l⊢;simp only[execOp,resolve,Sem.run_bind,Sem.run_pure,Result.andThen_ok,invoke,builtin,Builtin.copy_,ns,cL,fF,p,I,E];simp only[lK,sD,ij,Sem.run_bind,run_underlying F,Result.andThen_ok,A,D,l,Sem.run_pure,bu];rfl
     |mk B L ac N=>
      have Q:=EA (d:=b) o B L j Y;have p:a.eval q=.slice (some ⟨B,L,none⟩) ac N:=H;simp only[O.gG]at l⊢;simp only[execOp,resolve,Sem.run_bind,Sem.run_pure,Result.andThen_ok,invoke,builtin,Builtin.copy_,ns,cL,fF,p,I,E];simp only[lK,sD,ij,Sem.run_bind,run_underlying F,Result.andThen_ok,A,D,l,Sem.run_pure,bu,Q];rfl
    .rw[u]at i;exact i.elim
   .exact i.elim
  .exact i.elim
 .exact i.elim
def QJ(o:uw b T)(u:U1 b G)(l:j8 n c a)(j:Bx n c m)(p:Oper)(i:wr b T G n c m p.dst p.type k p.op):FE b n a m p k:=by
 obtain⟨d,v,e,h,f,g⟩:=p;cases v with
 |alloc t=>exact Q3 o l j i
 |box t x=>exact TW l j i
 |buildSlice t q r=>exact JZ o l j i
 |store t x y=>exact Q4 o l j i
 |makeSlice t x y=>exact Lj o l j i
 |makeFunc r first q=>exact MW l j i
 |makeMap t w=>exact OQ l j i
 |lookup t x y q=>exact PW o l j i
 |mapUpdate t x y z=>exact Lk o l j i
 |call r=>
  obtain⟨s,t,x⟩:=r;cases s with
  |builtin q=>
   cases q with
   |append=>exact PV o l j i
   |copy=>exact SS o l j i
   |_=>exact i.elim
  |value q=>exact SR u l j i
  |invoke w q=>exact i.elim
 |_=>exact i.elim
end
end Go.Vc
end
section
namespace Go.Vc
variable{b:Array Bool}{j:Nat}{L:List (Nat×(World->Prop))}{a:Act}{w:World}
section
variable{P:Program}{c:Array Oper}{Q:Exit->Act->World->Prop}{d:Region.Mode}{e:Nat->Nat->Bool}
def vC(P:Program)(d:Region.Mode)(c:Array Oper)(Q:Exit->Act->World->Prop)(e:Nat->Nat->Bool)(L:List (Nat×(World->Prop))):Nat->Array Bool->Act->World->Prop
 |0,b,a,w=>Region.ready d c b=[]/\Q .normal a w
 |h+1,b,a,w=>
  (Region.ready d c b=[]->Q .normal a w)/\
  ∀i∈Region.ready d c b,wpOp P c Q i (λg f=>(∀x∈L,e i x.1=false->x.2 w->x.2 f)/\vC P d c Q e L h (b.setIfInBounds i true) g f) a w
def MM{L:List (Nat×(World->Prop))}:∀(f:Nat)(b:Array Bool)(a:Act)(w:World),vC P d c Q e L f b a w->wpAny P d c Q f b a w
 |0,_,_,_,h=>h
 |f+1,_,_,_,h=>⟨h.1,λk j=>wpOp_mono (λg l i=>MM f _ g l i.2) (h.2 k j)⟩
def DV{L g:List (Nat×(World->Prop))}(j:∀x∈g,x∈L):∀(f:Nat)(b:Array Bool)(a:Act)(w:World),vC P d c Q e L f b a w->vC P d c Q e g f b a w
 |0,_,_,_,h=>h
 |f+1,_,_,_,h=>⟨h.1,λn l=>wpOp_mono (λk o i=>⟨λx m=>i.1 x (j x m),DV j f _ k o i.2⟩) (h.2 n l)⟩
def HM(e:Nat->Nat->Bool)(b:Array Bool):Prop:=∀i,b.getD i false=true->∀r,e i r=true->b.getD r false=true
def UY(d:Region.Mode)(c:Array Oper)(e:Nat->Nat->Bool):Prop:=
 ∀(i r:Nat)(o:Oper),c[i]? =some o->e i r=true->∃a∈o.after,Region.binds d a=true/\(a.on=r\/e a.on r=true)
def xt(k:UY d c e)(l:HM e b)(n:j∈Region.ready d c b){r:Nat}(p:e j r=true):b.getD r false=true:=by
 obtain⟨_,q,o,g⟩:=mem_ready.1 n;obtain⟨f,m,i,h⟩:=k j r q o p;have a:=g f m i;rcases h with rfl|h
 .exact a
 .exact l _ a r h
def HM.set(k:UY d c e)(a:HM e b)(l:j∈Region.ready d c b):HM e (b.setIfInBounds j true):=by
 intro i f r h;by_cases g:j=i
 .subst g;exact getD_set_true (xt k a l h)
 .rw[getD_set_ne false g]at f;exact getD_set_true (a i f r h)
def HJ{i:Nat}{l:Oper}{F:Value}{S:World->Prop}(I:UY d c e)(C:c[i]? =some l)(O:∀(j:Nat)(R:Oper) q p,c[j]? =some R->R.op≠.select q p)
 (V:∀f a w,Q (.panic f) (a.put l.dst F) w->Q (.panic f) a w):
 ∀(r:Nat)(b:Array Bool)(a:Act)(w:World),HM e b->
  (∀j m,c[j]? =some m->j≠i->b.getD j true=false->(∀f∈m.after,Region.binds d f=true->f.on≠i)->l.apart c m=true)->
  i∈Region.ready d c b->YieldsIf P c S l F a->S w->
  vC P d c Q e ((i,S)::L) r (b.setIfInBounds i true) (a.put l.dst F) w->vC P d c Q e L (r+1) b a w:=by
 intro r
 induction r with
 |zero=>
  intro b a w _ _ k y x H
  refine⟨λh=>(by rw[h]at k;cases k),λj n=>?_⟩
  by_cases g:j=i
  .subst g;exact y.wpOp C x ⟨λz _ _ h=>h,H⟩
  .have:=ready_mono n g
   rw[H.1]at this
   cases this
 |succ r ih=>
  intro b a w J K k y x H
  refine⟨λh=>(by rw[h]at k;cases k),λj n=>?_⟩
  by_cases g:j=i
  .subst g;exact y.wpOp C x ⟨λz _ _ h=>h,DV (λz E=>ai _ E) _ _ _ _ H⟩
  .have u:=H.2 j (ready_mono n g)
   obtain⟨N,m,D,W⟩:=mem_ready.1 n
   have s:b.getD i false=false:=by
    have G:=(mem_ready.1 k).1;rcases aW i b.size with A|A
    .simp[A]at G⊢;exact G
    .simp[Jv A]
   have ad:∀f∈m.after,Region.binds d f=true->f.on≠i:=λf Y B Z=>by
    have u:=W f Y B;rw[Z,s]at u;cases u
   have X:e j i=false:=by
    cases B:e j i
    .rfl
    .have:=xt I J n B;rw[s]at this;cases this
   have U:=wpOp_putIf D (K j m D g N ad) (λq p=>O i l q p C) (λq p=>O j m q p D) V y u
   have aa:∀o t,c[o]? =some t->o≠i->(b.setIfInBounds j true).getD o true=false->
    (∀f∈t.after,Region.binds d f=true->f.on≠i)->l.apart c t=true:=λo t hk ab s ac=>by
    refine K o t hk ab ?_ ac
    by_cases M:j=o
    .subst M;exact N
    .rw[getD_set_ne true M]at s;exact s
   refine wpOp_mono (λT w' v=>⟨λz E=>v.2.1 z (ai _ E),
    ih (b.setIfInBounds j true) T w' (J.set I n) aa (ready_mono k (kH g)) v.1 (v.2.1 (i,S) bg X x) ?_⟩) U
   rw[Array.setIfInBounds_comm _ _ g]
   exact v.2.2
def RK{f:Nat}(k:Region.ready d c b≠[])
 (j:∀i∈Region.ready d c b,wpOp P c Q i (λh g=>(∀x∈L,e i x.1=false->x.2 w->x.2 g)/\vC P d c Q e L f (b.setIfInBounds i true) h g) a w):
 vC P d c Q e L (f+1) b a w:=⟨λg=>absurd g k,j⟩
def QI(f:Region.ready d c b=[])(h:Q .normal a w):
 ∀g,vC P d c Q e L g b a w
 |0=>⟨f,h⟩
 |_+1=>⟨λ_=>h,by rw[f];simp⟩
end
end Go.Vc
end
section
namespace Go.Vc
variable{o:Oper}{a:Act}{m:E}
variable{b:Program}{T:TT}{G:List Nat}{n:Nat}
def LF:Op->Bool
 | .alloc _| .box ..| .buildSlice ..| .store ..| .makeSlice ..| .makeMap ..| .lookup ..| .mapUpdate ..| .makeFunc ..=>true
 | .call ⟨.builtin .append,_,_⟩| .call ⟨.builtin .copy,_,_⟩=>true
 | .call ⟨.builtin _,_,_⟩=>false
 | .call _=>true
 |_=>false
def sg(n:Nat):Option Nat->Bool
 |none=>true
 |some d=>Nat.blt d n
def Lv(a:List Oper)(j:Nat):Option Nat:=
 match Iu a j with
 |some o=>o.dst
 |none=>none
def gd(e:List Oper)(a:Fr)(g:Option (Nat×Bool))(PB b:Fr->Prop):Prop:=
 match g with
 |none=>PB a
 |some (j,c)=>match Lv e j with
  |none=>False
  |some d=>match il a d with
   | .tt=>bif c then PB a else b a
   | .ff=>bif c then b a else PB a
   | .un=>b a
   | .c (.t x)=>(x=true->bif c then PB ((d,.tt)::a)else b ((d,.tt)::a))/\(x=false->bif c then b ((d,.ff)::a)else PB ((d,.ff)::a))
   |_=>False
def sC(b:Program)(T:TT)(G:List Nat)(n:Nat)(c:List Oper):List Oper->Fr->E->(Fr->E->Prop)->Prop
 |[],a,m,k=>k a m
 |o::jP,a,m,k=>
  bif sg n o.dst then
   gd c a o.guard
    (λa=>bif LF o.op then wr b T G n a m o.dst o.type (λd x e=>sC b T G n c jP (ud d o.dst x) e k) o.op
     else rd T a m (λx=>sC b T G n c jP (ud a o.dst x) m k) o.op)
    (λa=>sC b T G n c jP (ud a o.dst .un) m k)
  else False
def zT:List Oper->List Nat
 |[]=>[]
 |o::r=>match o.dst with
  |some d=>d::zT r
  |none=>zT r
def mG(M:List Nat)(a b:Act):Prop:=∀t,t∉M->b.tmps.getD t undef=a.tmps.getD t undef
def mG.az(M:List Nat)(a:Act):mG M a a:=λ_ _=>rfl
def mG.trans{M:List Nat}{a b c:Act}(h:mG M a b)(k:mG M b c):mG M a c:=λt d=>(k t d).trans (h t d)
def mG.put{M:List Nat}{d:Option Nat}(hd:∀t,d=some t->t∈M)(v:Value)(a:Act):mG M a (a.put d v):=by
 cases d with
 |none=>exact mG.az M a
 |some d=>
  intro t c;have b:d≠t:=λe=>c (e▸hd d rfl);simp[Act.put,jS b]
def LO{d:Nat}(hd:o.dst=some d):∀(a:List Oper),o∈a->d∈zT a:=by
 intro a;induction a with
 |nil=>intro h;cases h
 |cons x r c=>
  intro h;rcases List.mem_cons.1 h with b|b
  .subst b;simp only[zT,hd];exact bg
  .have:=c b;unfold zT;cases x.dst with
   |none=>exact this
   |some e=>exact ai _ this
def Ed{d:Option Nat}(h:sg n d=true):∀t,d=some t->t<n:=by
 rintro t rfl;have:Nat.blt t n=true:=h;simpa[Nat.blt,Nat.succ_le_iff]using this
def Jt(k:Array Oper){d:Fr}(f:j8 n d a)(e:Bx n d m)(o:Oper){PB z:Fr->Prop}(h:gd k.toList d o.guard PB z):
 (Region.wanted o (yielded k a.tmps)=true/\∃b,PB b/\j8 n b a/\Bx n b m)\/
 (Region.wanted o (yielded k a.tmps)=false/\∃b,z b/\j8 n b a/\Bx n b m):=by
 unfold gd at h
 cases b:o.guard with
 |none=>
  rw[b]at h
  exact Or.inl ⟨by simp[Region.wanted,b],d,h,f,e⟩
 |some C=>
  obtain⟨r,v⟩:=C
  rw[b]at h
  simp only at h
  split at h
  .exact h.elim
  .rename_i g hd
   have y:(k[r]?).bind (·.dst)=some g:=by
    unfold Lv at hd;rw[pL]at hd;have B:k.toList[r]? =k[r]? :=aL;rw[B]at hd;split at hd
    .rename_i i c;rw[c];exact hd
    .simp at hd
   have i:=f.aF g
   have w:∀j:Bool,a.tmps.getD g undef=.bool j->yielded k a.tmps r=some j:=by
    intro j l;have:a.tmps[g]? =some (.bool j):=by
     cases q:a.tmps[g]? with
     |none=>rw[zA,q]at l;simp[undef]at l
     |some t=>rw[zA,q]at l;simp at l;rw[l]
    simp[yielded,y,this]
   split at h
   .rename_i p
    rw[p]at i
    have c:=w true i
    cases v
    .exact Or.inr ⟨by simp[Region.wanted,b,c],d,h,f,e⟩
    .exact Or.inl ⟨by simp[Region.wanted,b,c],d,h,f,e⟩
   .rename_i p
    rw[p]at i
    have c:=w false i
    cases v
    .exact Or.inl ⟨by simp[Region.wanted,b,c],d,h,f,e⟩
    .exact Or.inr ⟨by simp[Region.wanted,b,c],d,h,f,e⟩
   .rename_i p
    rw[p]at i
    have c:yielded k a.tmps r=none:=by
     have s:a.tmps.getD g undef=undef:=i;rw[zA]at s;unfold yielded;rw[y];cases q:a.tmps[g]? with
     |none=>simp[q]
     |some t=>rw[q]at s;simp at s;subst s;simp[q,undef]
    exact Or.inr ⟨by simp[Region.wanted,b,c],d,h,f,e⟩
   .rename_i x p
    rw[p]at i
    have c:=w x i
    have u:∀j:Bool,x=j->j8 n ((g,if j then SV.tt else SV.ff)::d) a:=by
     rintro j rfl;refine⟨f.size,f.defers,λA=>?_⟩;simp only[il];cases l:Nat.beq g A
     .exact f.aF A
     .have:=bq l;subst this;cases x<;>exact i
    obtain⟨s,t⟩:=h
    cases x
    .have t:=t rfl
     cases v
     .exact Or.inl ⟨by simp[Region.wanted,b,c],_,t,u false rfl,e.fU aL⟩
     .exact Or.inr ⟨by simp[Region.wanted,b,c],_,t,u false rfl,e.fU aL⟩
    .have s:=s rfl
     cases v
     .exact Or.inr ⟨by simp[Region.wanted,b,c],_,s,u true rfl,e.fU aL⟩
     .exact Or.inl ⟨by simp[Region.wanted,b,c],_,s,u true rfl,e.fU aL⟩
   .exact h.elim
def YZ(g:uw b T){c:Fr}(f:j8 n c a)(e:Bx n c m){k:SV->Prop}(h:rd T c m k o.op){w:World}(p:w.heap=m)
 {d:Act->World->Prop}{Q:Exit->Act->World->Prop}(j:∀x v,k x->x.Is v->d (a.put o.dst v) w):o.wp b a w d Q:=by
 obtain⟨x,v,i,q,l⟩:=LZ (P:=b) g f e o h
 unfold Oper.wp
 rw[l w (λr _=>by rw[p])]
 exact j x v i q
def uZ(l:uw b T)(s:U1 b G)(c:Array Oper){Q:Exit->Act->World->Prop}{K:World}{H:Act}:
 ∀(jP:List Oper)(d:Fr)(m:E)(k:Fr->E->Prop)(a:Act)(w:World),(∀o∈jP,o∈c.toList)->sC b T G n c.toList jP d m k->j8 n d a->Bx n d m->w.heap=m->px K w->
  mG (zT c.toList) H a->
  (∀g e f,k g f.heap->j8 n g e->Bx n g f.heap->px K f->mG (zT c.toList) H e->Q .normal e f)->wpList b c Q jP a w
 |[],d,m,k,a,w,_,h,y,v,e,r,p,q=>by
  subst e;exact q d a w h y v r p
 |o::jP,d,m,k,a,w,I,h,y,v,e,r,p,q=>by
  simp only[sC]at h;cases hd:sg n o.dst
  .rw[hd]at h;exact h.elim
  .rw[hd]at h;simp only[jI]at h;have z:=Ed hd;have A:∀u,o.dst=some u->u∈zT c.toList:=λu N=>LO N _ (I o bg);have B:=λS P=>I S (ai _ P);unfold wpList;rcases Jt c y v o h with⟨D,g,t,j,i⟩|⟨D,g,O,j,i⟩
   .rw[an D];refine .inl ?_;cases J:LF o.op
    .simp only[J,mL]at t;refine YZ l j i t e λV U F C=>?_;exact uZ l s c jP _ m k _ w B F (j.put C z) (i.put _ _) e r (p.trans (mG.put A _ _)) q
    .simp only[J,jI]at t;refine QJ l s j i o t w e _ _ λW V U f F M L C R=>?_;exact uZ l s c jP _ _ k _ f B F (M.put C z) (L.put _ _) rfl (r.trans R) (p.trans (mG.put A _ _)) q
   .rw[ae (by rw[D];simp)];exact uZ l s c jP _ m k _ w B O (j.put (x:=.un) rfl z) (i.put _ _) e r (p.trans (mG.put A _ _)) q
end Go.Vc
end
section
namespace Go.Vc
variable{P:Program}{T:TT}{G:List Nat}{n:Nat}
def uf:List Nat->Nat->Nat
 |[],_=>0
 |x::_,0=>x
 |_::r,n+1=>uf r n
def lC:List Edge->Nat
 |[]=>0
 |e::r=>bif Region.binds .any e then 2^e.on|||lC r else lC r
def nZ(a:List Nat):List Edge->Nat
 |[]=>0
 |e::r=>bif Region.binds .any e then(2^e.on|||uf a e.on)|||nZ a r else nZ a r
def ln(a:List Nat):List Oper->List Nat->List Nat->Bool
 |[],[],[]=>true
 |o::d,p::e,b::c=>Nat.beq p (lC o.after.toList)&&Nat.beq b (nZ a o.after.toList)&&ln a d e c
 |_,_,_=>false
def Sr:Op->List Operand
 | .alloc _| .ready _| .waits _=>[]
 | .move x| .assign x| .box _ x| .load _ x| .nilCheck x| .unOp _ _ x| .convert _ _ x| .sliceToArrayPointer _ x| .makeInterface _ x
 | .makeChan _ x| .fieldAddr _ x _| .field _ x _| .range _ x| .next x _| .entry x| .typeAssert x _ _ _| .extract x _| .panic x| .recv _ x _=>[x]
 | .pick c a b=>[c,a,b]
 | .build _ b| .buildSlice _ _ b=>b.toList.map (·.2)
 | .store _ a v| .binOp _ _ a v _| .makeSlice _ a v| .indexAddr _ a v| .index _ a v| .lookup _ a v _| .mapEntry _ a v| .send a v=>[a,v]
 | .makeFunc _ first a=>first.toList++a.toList
 | .makeMap _ r=>r.toList
 | .slice _ x l h m=>[x]++l.toList++h.toList++m.toList
 | .mapUpdate _ m k v| .entryStore _ m k v| .insert _ m k v=>[m,k,v]
 | .call ⟨.value f,a,_⟩| .go ⟨.value f,a,_⟩| .defer ⟨.value f,a,_⟩=>f::a.toList
 | .call ⟨.invoke f _,a,_⟩| .go ⟨.invoke f _,a,_⟩| .defer ⟨.invoke f _,a,_⟩=>f::a.toList
 | .call ⟨.builtin _,a,_⟩| .go ⟨.builtin _,a,_⟩| .defer ⟨.builtin _,a,_⟩=>a.toList
 | .select a _=>(a.flatMap λc=>#[c.chan]++c.send.toArray).toList
def Ut(a:Op):a.operands.toList=Sr a:=by
 cases a<;>try (simp[Op.operands,Sr];done)
 all_goals
  rename_i c
  obtain⟨b,d,e⟩:=c
  cases b<;>simp[Op.operands,Sr,Call.operands]
def JW(d:Nat):List Operand->Bool
 |[]=>false
 | .tmp t::r=>Nat.beq t d||JW d r
 |_::r=>JW d r
def O8(a:List Oper)(o:Oper)(d:Nat):Bool:=
 JW d (Sr o.op)||(match o.guard with
  |some (g,_)=>(match Lv a g with|some t=>Nat.beq t d|none=>false)
  |none=>false)
def OK(a:List Oper)(x y:Oper):Bool:=
 (match x.dst with
  |some d=>!O8 a y d&&(match y.dst with|some e=>!Nat.beq d e|none=>true)
  |none=>true)&&
 (match y.dst with
  |some d=>!O8 a x d
  |none=>true)
def XH:Op->Bool
 | .select ..=>true
 |_=>false
def zN(b:List Oper)(i:Nat)(a:Nat)(o:Oper):Nat->List Oper->List Nat->Bool
 |_,[],_=>true
 |_,_,[]=>true
 |j,x::c,p::d=>(Nat.beq j i||Nat.testBit p i||Nat.testBit a j||OK b o x)&&zN b i a o (j+1) c d
def FJ(a:List Oper)(b:List Nat):Nat->List Oper->List Nat->Bool
 |_,[],_=>true
 |_,_,[]=>true
 |i,o::e,c::d=>!XH o.op&&(LF o.op||zN a i c o 0 a b)&&FJ a b (i+1) e d
def kQ(done p i:Nat):Bool:=!(Nat.testBit done i)&&Nat.beq (p&&&done) p
def xc(done:Nat):Nat->List Oper->List Nat->Option Nat
 |_,[],_=>none
 |_,_,[]=>none
 |i,o::a,p::b=>bif kQ done p i&&!(LF o.op)then some i else xc done (i+1) a b
def pM(done:Nat):Nat->List Oper->List Nat->List Nat
 |_,[],_=>[]
 |_,_,[]=>[]
 |i,_::a,p::b=>bif kQ done p i then i::pM done (i+1) a b else pM done (i+1) a b
def Me(m a:E):List (Nat×Nat)->Prop->Prop
 |[],k=>k
 |(b,o)::r,k=>af a b o=af m b o/\Me m a r k
def DR(a:Nat)(m b:E):List (Nat×List (Nat×Nat))->Prop->Prop
 |[],k=>k
 |(r,c)::L,k=>bif Nat.testBit a r then DR a m b L k else Me m b c (DR a m b L k)
def OJ:List Nat->(Nat->Prop)->Prop
 |[],_=>True
 |[i],f=>f i
 |i::r,f=>f i/\OJ r f
def oN(P:Program)(T:TT)(G:List Nat)(n:Nat)(b:List Oper)(c d:List Nat):Nat->Nat->Fr->E->List (Nat×List (Nat×Nat))->(Fr->E->Prop)->Prop
 |0,done,a,m,_,k=>match pM done 0 b c with
  |[]=>k a m
  |_=>False
 |e+1,done,a,m,L,k=>
  match xc done 0 b c with
  |some i=>match Iu b i with
   |some o=>bif sg n o.dst then
    gd b a o.guard
     (λa=>rd T a m (λx=>oN P T G n b c d e (done|||2^i) (ud a o.dst x) m ((i,Tq T a o.op)::L) k) o.op)
     (λa=>oN P T G n b c d e (done|||2^i) (ud a o.dst .un) m L k)
    else False
   |none=>False
  |none=>match pM done 0 b c with
   |[]=>k a m
   |h=>OJ h λi=>match Iu b i with
    |some o=>bif sg n o.dst then
     gd b a o.guard
      (λa=>wr P T G n a m o.dst o.type (λg x f=>DR (uf d i) m f L (oN P T G n b c d e (done|||2^i) (ud g o.dst x) f L k)) o.op)
      (λa=>oN P T G n b c d e (done|||2^i) (ud a o.dst .un) m L k)
     else False
    |none=>False
def nv(r:Nat):∀(a:List Edge),Nat.testBit (lC a) r=true<->∃e∈a,Region.binds .any e=true/\e.on=r
 |[]=>by simp[lC]
 |e::a=>by
  have c:=nv r a;simp only[lC];cases b:Region.binds .any e
  .simp only[mL,c,aV,exists_eq_or_imp,b];simp
  .simp only[jI,UP,bQ,c,aV,exists_eq_or_imp,b,true_and,NJ,ar]
def yB(b:List Nat)(r:Nat):∀(a:List Edge),Nat.testBit (nZ b a) r=true->∃e∈a,Region.binds .any e=true/\(e.on=r\/Nat.testBit (uf b e.on) r=true)
 |[],h=>by simp[nZ]at h
 |e::a,h=>by
  have i:=yB b r a;simp only[nZ]at h;cases f:Region.binds .any e
  .simp only[f,mL]at h;obtain⟨c,g,d⟩:=i h;exact⟨c,ai _ g,d⟩
  .simp only[f,jI,UP,bQ,NJ,ar]at h;rcases h with h|h
   .exact⟨e,bg,f,h⟩
   .obtain⟨c,g,d⟩:=i h;exact⟨c,ai _ g,d⟩
def lT(c:List Nat):∀{e:List Oper}{f a:List Nat},ln c e f a=true->∀(i:Nat)(o:Oper),e[i]? =some o->
 f[i]? =some (lC o.after.toList)/\uf a i=nZ c o.after.toList/\∃b,a[i]? =some b
 |[],[],[],_,i,o,h=>by simp at h
 |x::e,p::f,b::a,h,i,o,d=>by
  simp only[ln,bL]at h;obtain⟨⟨g,j⟩,k⟩:=h;cases i with
  |zero=>
   simp at d;subst d;exact⟨by simp[bq g],by simp[uf,bq j],b,aL⟩
  |succ i=>
   have:=lT c k i o (by simpa using d);simpa[uf]using this
 |[],[],_::_,h,_,_,_=>by simp[ln]at h
 |[],_::_,_,h,_,_,_=>by simp[ln]at h
 |_::_,[],_,h,_,_,_=>by simp[ln]at h
 |_::_,_::_,[],h,_,_,_=>by simp[ln]at h
def JL(d:List Nat):∀{a:List Oper}{c b:List Nat},ln d a c b=true->c.length=a.length/\b.length=a.length
 |[],[],[],_=>⟨rfl,rfl⟩
 |x::a,p::c,e::b,h=>by
  simp only[ln,bL]at h;have:=JL d h.2;simp[this.1,this.2]
 |[],[],_::_,h=>by simp[ln]at h
 |[],_::_,_,h=>by simp[ln]at h
 |_::_,[],_,h=>by simp[ln]at h
 |_::_,_::_,[],h=>by simp[ln]at h
end Go.Vc
end
section
namespace Go.Vc
variable{N a:Nat}{b:Array Bool}
variable{P:Program}{T:TT}{G:List Nat}{n:Nat}
def tQ{d:Nat}:∀{a:List Operand},JW d a=false->d∉(a.filterMap λ| .tmp t=>some t|_=>none)
 |[],_=>aL
 |x::r,h=>by
  cases x with
  |tmp t=>
   simp only[JW,bt]at h;have b:=tQ h.2;have:t≠d:=λe=>by subst e;simp at h
   simp only[List.filterMap_cons,aV,vG];exact⟨λe=>this e.symm,b⟩
  |const v=>simpa using tQ (a:=r) (by simpa[JW]using h)
  |global g=>simpa using tQ (a:=r) (by simpa[JW]using h)
  |func f=>simpa using tQ (a:=r) (by simpa[JW]using h)
def Uj(a:Array Oper)(g:Nat):Lv a.toList g=(a[g]?).bind (·.dst):=by
 unfold Lv;rw[pL];have e:a.toList[g]? =a[g]? :=aL;rw[e];cases a[g]? <;>rfl
def JJ(b:Array Oper){o:Oper}{d:Nat}(h:O8 b.toList o d=false):d∉o.looksAt b:=by
 simp only[O8,bt]at h;unfold Oper.looksAt;rw[Ut,List.mem_append,vG];refine⟨tQ h.1,?_⟩;have a:=h.2;cases c:o.guard with
 |none=>simp
 |some p=>
  obtain⟨g,f⟩:=p;rw[c]at a;simp only at a⊢;rw[Uj]at a;cases hd:(b[g]?).bind (·.dst)with
  |none=>simp
  |some t=>
   rw[hd]at a;simp only at a;simp only[Option.toList_some,lI];intro e;subst e;simp at a
def PO(b:Array Oper){x y:Oper}(h:OK b.toList x y=true):x.apart b y=true:=by
 simp only[OK,bL]at h;obtain⟨a,d⟩:=h;unfold Oper.apart;simp only[bL];constructor
 .cases i:x.dst with
  |none=>rfl
  |some f=>
   rw[i]at a;simp only[bL,iQ]at a⊢;refine⟨?_,?_⟩
   .have:=JJ b a.1;simpa using this
   .have c:=a.2;cases e:y.dst with
    |none=>simp
    |some j=>
     rw[e]at c;simp only[iQ]at c;simp only[vF,ne_eq,DX];intro g;subst g;simp at c
 .cases e:y.dst with
  |none=>rfl
  |some f=>
   rw[e]at d;simp only[iQ]at d⊢;have:=JJ b d;simpa using this
def Dz(i:List Oper)(a d:Nat)(o:Oper):∀{g:List Oper}{k:List Nat}{c:Nat},zN i a d o c g k=true->∀(j:Nat)(x:Oper)(p:Nat),g[j]? =some x->k[j]? =some p->
 c+j=a\/Nat.testBit p a=true\/Nat.testBit d (c+j)=true\/OK i o x=true
 |[],_,_,_,j,x,p,h,_=>by simp at h
 |_::_,[],_,_,j,x,p,_,h=>by simp at h
 |y::g,q::k,c,h,j,x,p,f,e=>by
  simp only[zN,bL,bQ]at h;obtain⟨b,m⟩:=h;cases j with
  |zero=>
   simp at f e;subst f;subst e;rcases b with((b|b)|b)|b
   .exact Or.inl (by simpa using bq b)
   .exact Or.inr (Or.inl b)
   .exact Or.inr (Or.inr (Or.inl (by simpa using b)))
   .exact Or.inr (Or.inr (Or.inr b))
  |succ j=>
   have:=Dz i a d o m j x p (by simpa using f) (by simpa using e);have l:c+1+j=c+(j+1):=V;rw[l]at this;exact this
def wV(d:List Oper)(j:List Nat):∀{i:List Oper}{e:List Nat}{c:Nat},FJ d j c i e=true->∀(a:Nat)(o:Oper)(b:Nat),i[a]? =some o->e[a]? =some b->
 XH o.op=false/\(LF o.op=true\/zN d (c+a) b o 0 d j=true)
 |[],_,_,_,a,o,b,h,_=>by simp at h
 |_::_,[],_,_,a,o,b,_,h=>by simp at h
 |y::i,q::e,c,h,a,o,b,g,f=>by
  simp only[FJ,bL,bQ,iQ]at h;obtain⟨⟨l,m⟩,n⟩:=h;cases a with
  |zero=>simp at g f;subst g;subst f;exact⟨l,by simpa using m⟩
  |succ a=>
   have:=wV d j n a o b (by simpa using g) (by simpa using f);have k:c+1+a=c+(a+1):=V;rw[k]at this;exact this
def JI(p d:Nat):Nat.beq (p&&&d) p=true<->∀r,Nat.testBit p r=true->Nat.testBit d r=true:=by
 constructor
 .intro h r a;have e:=bq h;rw[<-e,Nat.testBit_and]at a;simp only[bL]at a;exact a.2
 .intro h;have:p&&&d=p:=by
   apply Nat.eq_of_testBit_eq;intro r;rw[Nat.testBit_and];cases a:Nat.testBit p r
   .rfl
   .simp[h r a]
  rw[this];simp
structure OD(N done:Nat)(b:Array Bool):Prop where
 size:b.size=N
 Yv:∀a,b.getD a false=Nat.testBit done a
def OD.un{done:Nat}(h:OD N done b)(c:a<N):b.getD a true=Nat.testBit done a:=by
 rw[<-h.Yv a];have:a<b.size:=by rw[h.size];exact c
 simp[this]
def OD.set{done:Nat}(h:OD N done b)(c:a<N):OD N (done|||2^a) (b.setIfInBounds a true):=by
 refine⟨by simp[h.size],λj=>?_⟩;have d:a<b.size:=by rw[h.size];exact c
 rw[UP,NJ];by_cases e:a=j
 .subst e;simp[d]
 .rw[getD_set_ne false e,h.Yv j];simp[e]
def IA(d:Array Oper){q h r:List Nat}(n:ln h d.toList q r=true){done:Nat}(g:OD d.size done b)(a:Nat):
 a∈Region.ready .any d b<->∃o p,d[a]? =some o/\q[a]? =some p/\kQ done p a=true:=by
 rw[mem_ready]
 constructor
 .rintro⟨m,o,c,s⟩
  have k:a<d.size:=(Array.getElem?_eq_some_iff.1 c).1
  have l:=(lT h n a o (by simpa using c)).1
  refine⟨o,_,c,l,?_⟩
  simp only[kQ,bL,iQ]
  refine⟨by rw[<-g.un k];exact m,(JI _ _).2 λt e=>?_⟩
  obtain⟨f,j,i,rfl⟩:=(nv t _).1 e
  rw[<-g.Yv]
  exact s f (Array.mem_toList_iff.1 j) i
 .rintro⟨o,p,c,l,e⟩
  have k:a<d.size:=(Array.getElem?_eq_some_iff.1 c).1
  have m:=(lT h n a o (by simpa using c)).1
  rw[l]at m
  simp only[DX]at m
  subst m
  simp only[kQ,bL,iQ]at e
  refine⟨by rw[g.un k];exact e.1,o,c,λf j i=>?_⟩
  rw[g.Yv]
  exact(JI _ _).1 e.2 f.on ((nv _ _).2 ⟨f,Array.mem_toList_iff.2 j,i,rfl⟩)
def LP(done:Nat):∀{d:List Oper}{e:List Nat}{b a:Nat},a∈pM done b d e<->∃j o p,a=b+j/\d[j]? =some o/\e[j]? =some p/\kQ done p a=true
 |[],_,_,_=>by simp[pM]
 |_::_,[],_,_=>by simp[pM]
 |x::d,q::e,b,a=>by
  have h:=LP done (d:=d) (e:=e) (b:=b+1) (a:=a);have k:(∃j o p,a=b+j/\(x::d)[j]? =some o/\(q::e)[j]? =some p/\kQ done p a=true)<->
   ((a=b/\kQ done q b=true)\/∃j o p,a=b+1+j/\d[j]? =some o/\e[j]? =some p/\kQ done p a=true):=by
   constructor
   .rintro⟨j,o,p,rfl,g,f,c⟩
    cases j with
    |zero=>simp at f;subst f;exact Or.inl ⟨rfl,by simpa using c⟩
    |succ j=>exact Or.inr ⟨j,o,p,V,by simpa using g,by simpa using f,by rwa[show b+(j+1)=b+(j+1)from rfl]at c⟩
   .rintro(⟨rfl,c⟩|⟨j,o,p,rfl,g,f,c⟩)
    .exact⟨0,x,q,rfl,aL,aL,c⟩
    .exact⟨j+1,o,p,V,by simpa using g,by simpa using f,c⟩
  rw[k,<-h];simp only[pM];cases c:kQ done q b
  .simp
  .simp
def JC(done:Nat):∀{d:List Oper}{e:List Nat}{c a:Nat},xc done c d e=some a->∃j o p,a=c+j/\d[j]? =some o/\e[j]? =some p/\kQ done p a=true/\LF o.op=false
 |[],_,_,_,h=>by simp[xc]at h
 |_::_,[],_,_,h=>by simp[xc]at h
 |x::d,q::e,c,a,h=>by
  simp only[xc]at h;cases b:(kQ done q c&&!(LF x.op))
  .rw[b]at h;obtain⟨j,o,p,rfl,f,g,i,k⟩:=JC done h;exact⟨j+1,o,p,V,by simpa using f,by simpa using g,i,k⟩
  .rw[b]at h;simp at h;subst h;simp only[bL,iQ]at b;exact⟨0,x,q,rfl,aL,aL,b.1,b.2⟩
def NP:∀{l:List Nat}{f:Nat->Prop},OJ l f->∀a∈l,f a
 |[a],f,h,j,b=>by simp at b;subst b;exact h
 |a::c::r,f,h,j,b=>by
  rcases List.mem_cons.1 b with rfl|b
  .exact h.1
  .exact NP h.2 j b
def Mf{m b:E}:∀{l:List (Nat×Nat)}{k:Prop},Me m b l k->k/\∀q∈l,af b q.1 q.2=af m q.1 q.2
 |[],k,h=>⟨h,aL⟩
 |(e,o)::r,k,h=>by
  obtain⟨c,d⟩:=Mf h.2;refine⟨c,λq a=>?_⟩;rcases List.mem_cons.1 a with rfl|a
  .exact h.1
  .exact d q a
def Fw{c:Nat}{m g:E}:∀{L:List (Nat×List (Nat×Nat))}{k:Prop},DR c m g L k->k/\∀x∈L,Nat.testBit c x.1=false->∀q∈x.2,af g q.1 q.2=af m q.1 q.2
 |[],k,h=>⟨h,aL⟩
 |(r,l)::L,k,h=>by
  simp only[DR]at h;cases f:Nat.testBit c r
  .rw[f]at h;obtain⟨i,j⟩:=Mf h;obtain⟨d,e⟩:=Fw i;refine⟨d,λx a b=>?_⟩;rcases List.mem_cons.1 a with rfl|a
   .exact j
   .exact e x a b
  .rw[f]at h;obtain⟨d,e⟩:=Fw h;refine⟨d,λx a b=>?_⟩;rcases List.mem_cons.1 a with rfl|a
   .rw[f]at b;cases b
   .exact e x a b
def ZZ(L:List (Nat×List (Nat×Nat)))(b:List (Nat×(World->Prop))):Prop:=
 ∀x∈b,(∀w,x.2 w)\/∃(a:List (Nat×Nat))(c:Nat×Nat->Option Value),(x.1,a)∈L/\x.2=λw=>∀q∈a,af w.heap q.1 q.2=c q
end Go.Vc
end
section
namespace Go.Vc
variable{a:Program}{T:TT}{G:List Nat}{n:Nat}
def Pt(hT:uw a T)(hG:U1 a G)(b:Array Oper)(U f:List Nat)(z:ln f b.toList U f=true)(ao:FJ b.toList U 0 b.toList f=true)
 {ag:Exit->Act->World->Prop}(hQ:∀N g w,¬ag (.panic N) g w){w0:World}{a0:Act}:
 ∀(F done:Nat)(D:Fr)(ac:E)(L:List (Nat×List (Nat×Nat)))(B:Fr->E->Prop)(M:List (Nat×(World->Prop)))(c:Array Bool)(g:Act)(w:World),
  oN a T G n b.toList U f F done D ac L B->ZZ L M->OD b.size done c->HM (λi K=>Nat.testBit (uf f i) K) c->j8 n D g->Bx n D ac->w.heap=ac->px w0 w->
  mG (zT b.toList) a0 g->
  (∀s d k,B s k.heap->j8 n s d->Bx n s k.heap->px w0 k->mG (zT b.toList) a0 d->ag .normal d k)->
  vC a .any b ag (λi K=>Nat.testBit (uf f i) K) M F c g w:=by
 have H:UY .any b (λi K=>Nat.testBit (uf f i) K):=by
  intro i K o d p;have X:=(lT f z i o (by simpa using d)).2.1;simp only[X]at p;obtain⟨e,he,hb,h⟩:=yB f K _ p;exact⟨e,Array.mem_toList_iff.1 he,hb,h⟩
 have aF:=JL f z
 have av:∀(j:Nat)(o:Oper) cs r,b[j]? =some o->o.op≠.select cs r:=by
  intro j o cs r d e;obtain⟨_,_,bj,ay⟩:=lT f z j o (by simpa using d);have:=(wV _ _ ao j o bj (by simpa using d) ay).1;rw[e]at this;simp[XH]at this
 have al:∀{done:Nat}{c:Array Bool},OD b.size done c->∀i,i∈Region.ready .any b c<->i∈pM done 0 b.toList U:=by
  intro done c hD i;rw[IA b z hD i,LP];constructor
  .rintro⟨o,R,d,O,p⟩;exact⟨i,o,R,V,by simpa using d,O,p⟩
  .rintro⟨j,o,R,e,d,O,p⟩;have:i=j:=V;subst this;exact⟨o,R,by simpa using d,O,p⟩
 have au:∀{done:Nat}{c:Array Bool},OD b.size done c->pM done 0 b.toList U=[]->Region.ready .any b c=[]:=by
  intro done c hD h;apply List.eq_nil_iff_forall_not_mem.2;intro i m;rw[al hD i,h]at m;cases m
 intro F
 induction F with
 |zero=>
  intro done D ac L B M c g w h hL hD hC hR hB hw hs hk hq
  subst hw
  simp only[oN]at h
  split at h
  .rename_i h0
   exact⟨au hD h0,hq D g w h hR hB hs hk⟩
  .exact h.elim
 |succ F Q=>
  intro done D ac L B M c g w h hL hD hC hR hB hw hs hk hq
  subst hw
  simp only[oN]at h
  split at h
  · -- a reading is taken first
   rename_i i m
   obtain⟨j,o,R,e,d,O,p,aD⟩:=JC done m
   have:i=j:=V
   subst this
   rw[pL,d]at h
   simp only at h
   have A:b[i]? =some o:=by simpa using d
   have aa:i<b.size:=(Array.getElem?_eq_some_iff.1 A).1
   have ab:i∈Region.ready .any b c:=(IA b z hD i).2 ⟨o,R,A,O,p⟩
   cases hd:sg n o.dst
   .rw[hd]at h;exact h.elim
   .rw[hd]at h
    simp only[jI]at h
    have Y:=Ed hd
    have Z:∀C,o.dst=some C->C∈zT b.toList:=λC ah=>LO ah _ (iA d)
    have aq:∀j I,b[j]? =some I->j≠i->c.getD j true=false->(∀e∈I.after,Region.binds .any e=true->e.on≠i)->o.apart b I=true:=by
     intro j I ak aA ar aB;have az:j<b.size:=(Array.getElem?_eq_some_iff.1 ak).1;obtain⟨_,aE,bi,ap⟩:=lT f z i o d;rcases(wV _ _ ao i o bi d ap).2 with t|t
     .rw[aD]at t;cases t
     .have W:=(lT f z j I (by simpa using ak)).1;have u:uf f i=bi:=by
       have:∀(l:List Nat)(i r:Nat),l[i]? =some r->uf l i=r:=by
        intro l;induction l with
        |nil=>intro i r h;simp at h
        |cons ad l Q=>intro i r h;cases i with
         |zero=>simpa[uf]using h
         |succ i=>simpa[uf]using Q i r (by simpa using h)
       exact this f i bi ap
      rcases Dz _ _ _ _ t j I _ (by simpa using ak) W with e|e|e|e
      .exact absurd V aA
      .rw[bT]at e;obtain⟨q,y,hb,J⟩:=(nv i _).1 e;exact absurd J (aB q (Array.mem_toList_iff.1 y) hb)
      .rw[bT,<-u]at e;have:=xt H hC ab e;rw[hD.Yv]at this;rw[hD.un az,this]at ar;cases ar
      .exact PO b e
    rcases Jt b hR hB o h with⟨J,s,am,y,u⟩|⟨J,s,aj,y,u⟩
    .obtain⟨ad,aw,hx,hv,aC⟩:=LZ (P:=a) hT y u o am
     let ax:World->Prop:=λk=>∀q∈Tq T s o.op,af k.heap q.1 q.2=af w.heap q.1 q.2
     refine HJ (S:=ax) H A av (λN g w hc=>absurd hc (hQ _ _ _)) F c g w hC aq ab (F:=aw) (Or.inl ⟨J,λk l=>aC k l⟩) (λq _=>rfl) ?_
     refine Q _ _ _ _ B _ _ _ w hx ?_ (hD.set aa) (hC.set H ab) (y.put hv Y) (u.put _ _) rfl hs (hk.trans (mG.put Z _ _)) hq
     intro W l
     rcases List.mem_cons.1 l with rfl|l
     .exact Or.inr ⟨_,λq=>af w.heap q.1 q.2,bg,rfl⟩
     .rcases hL W l with t|⟨As,N,X,h2⟩
      .exact Or.inl t
      .exact Or.inr ⟨As,N,ai _ X,h2⟩
    .refine HJ (S:=λ_=>True) H A av (λN g w hc=>absurd hc (hQ _ _ _)) F c g w hC aq ab (F:=undef) (Or.inr ⟨J,rfl⟩) trivial ?_
     refine Q _ _ _ _ B _ _ _ w aj ?_ (hD.set aa) (hC.set H ab) (y.put (x:=.un) rfl Y) (u.put _ _) rfl hs (hk.trans (mG.put Z _ _)) hq
     intro W l
     rcases List.mem_cons.1 l with rfl|l
     .exact Or.inl λ_=>trivial
     .exact hL W l
  .split at h
   .rename_i h0
    exact QI (au hD h0) (hq D g w h hR hB hs hk) _
   .rename_i rs ax
    have ar:=NP h
    refine RK ?_ ?_
    .intro e
     apply ax
     cases I:pM done 0 b.toList U with
     |nil=>rfl
     |cons ad xs=>
      have:ad∈Region.ready .any b c:=(al hD ad).2 (by rw[I];exact bg)
      rw[e]at this
      cases this
    .intro i m
     have I:=ar i ((al hD i).1 m)
     obtain⟨o,R,A,O,p⟩:=(IA b z hD i).1 m
     have d:b.toList[i]? =some o:=by simpa using A
     have aa:i<b.size:=(Array.getElem?_eq_some_iff.1 A).1
     rw[pL,d]at I
     simp only at I
     cases hd:sg n o.dst
     .rw[hd]at I;exact I.elim
     .rw[hd]at I
      simp only[jI]at I
      have Y:=Ed hd
      have Z:∀C,o.dst=some C->C∈zT b.toList:=λC ah=>LO ah _ (iA d)
      unfold wpOp
      simp only[A]
      rcases Jt b hR hB o I with⟨J,s,am,y,u⟩|⟨J,s,aj,y,u⟩
      .rw[an J]
       refine .inl (QJ hT hG y u o am w rfl _ _ λaD ad aw k hx aq ap hv az=>?_)
       obtain⟨aA,aB⟩:=Fw hx
       refine⟨λW l aC ab=>?_,Q _ _ _ L B M _ _ k aA hL (hD.set aa) (hC.set H m) (aq.put hv Y) (ap.put _ _) rfl (hs.trans az) (hk.trans (mG.put Z _ _)) hq⟩
       rcases hL W l with t|⟨As,N,X,h2⟩
       .exact t k
       .rw[h2]at ab⊢
        intro q ak
        rw[aB _ X aC q ak,ab q ak]
      .rw[ae (by rw[J];simp)]
       exact⟨λW l _ ab=>ab,Q _ _ _ L B M _ _ w aj hL (hD.set aa) (hC.set H m) (y.put (x:=.un) rfl Y) (u.put _ _) rfl hs (hk.trans (mG.put Z _ _)) hq⟩
end Go.Vc
end
section
namespace Go.Vc
variable{M:List Nat}{a:Act}{s:Sh}{y:s.ty}
variable{P:Program}{T:TT}{G:List Nat}{b:Nat}
structure Px where
 Un:List (Nat×List (Nat×Sh))
 Vo:List (Nat×List (Nat×Sh))
 eB:List (Nat×List Nat)
def lk{α:Type}:List (Nat×α)->Nat->Option α
 |[],_=>none
 |(u,x)::r,t=>bif Nat.beq u t then some x else lk r t
def DF:Code->Option Nat
 | .region id _ _=>some id
 | .seq a b=>match DF a with
  |some i=>some i
  |none=>DF b
 | .cond _ a b=>match DF a with
  |some i=>some i
  |none=>DF b
 | .block _ c=>DF c
 | .loop c=>DF c
 | .scope c=>DF c
 |_=>none
def Wh{α:Type}(l:List (Nat×α))(c:Code):Option α:=
 match DF c with
 |some i=>lk l i
 |none=>none
def HT:List (Nat×Sh)->Type
 |[]=>E->Prop
 |(_,s)::r=>s.ty->HT r
def OG:List (Nat×Sh)->Type
 |[]=>E->Nat
 |(_,s)::r=>s.ty->OG r
def Rg:(s:Sh)->SV->Option s.ty
 | .I,.c (.i b)=>some b
 | .U k,.c (.u c b)=>if k=c then some b else none
 | .T,.c (.t c)=>some c
 | .T,.tt=>some true
 | .T,.ff=>some false
 | .S,.c (.s x)=>some x
 | .P,.c (.p c o)=>some (c,o)
 | .P,.c (.bp _ c o)=>some (c,o)
 | .F,.c (.fn f a d)=>some (f,a,d)
 | .F,.c (.fv q)=>some q
 | .M,.c (.mp c)=>some c
 |_,_=>none
def HW:(l:List (Nat×Sh))->HT l->Fr->E->Prop
 |[],I,_,m=>I m
 |(t,s)::r,I,a,m=>match Rg s (il a t)with
  |some x=>HW r (I x) a m
  |none=>False
def OL:(l:List (Nat×Sh))->HT l->OG l->Fr->E->Nat->Prop
 |[],I,μ,_,m,N=>I m/\μ m<N
 |(t,s)::r,I,μ,a,m,N=>match Rg s (il a t)with
  |some x=>OL r (I x) (μ x) a m N
  |none=>False
def PL:(l:List (Nat×Sh))->HT l->Fr->(Fr->(E->Prop)->Prop)->Prop
 |[],I,a,k=>k a I
 |(t,s)::r,I,a,k=>∀x:s.ty,PL r (I x) ((t,.c (s.mk x))::a) k
def PM:(l:List (Nat×Sh))->HT l->OG l->Fr->(Fr->(E->Prop)->(E->Nat)->Prop)->Prop
 |[],I,μ,a,k=>k a I μ
 |(t,s)::r,I,μ,a,k=>∀x:s.ty,PM r (I x) (μ x) ((t,.c (s.mk x))::a) k
def nF:List Nat->Fr->Fr
 |[],a=>a
 |t::r,a=>(t,.fU)::nF r a
def oJ:Code->List Nat
 | .region _ b _=>zT b.toList
 | .seq a b=>oJ a++oJ b
 | .cond _ a b=>oJ a++oJ b
 | .block _ c=>oJ c
 | .loop c=>oJ c
 |_=>[]
def pS(M:List Nat):List (Nat×Sh)->Bool
 |[]=>true
 |(t,_)::r=>vk t M&&pS M r
def Xu(x y:SV)(k:Prop):Prop:=x=y/\k
def aB(x:SV)(k:Prop):Xu x x k=k:=by simp[Xu]
def lj(A:Px)(c:Code):List Nat:=
 match Wh A.eB c with
 |some K=>K
 |none=>[]
def DA(b:Nat)(K:List Nat):Fr->List Nat
 |[]=>[]
 |(q,_)::r=>bif Nat.ble b q&&!vk q K then q::DA b K r else DA b K r
def uy(b:Nat)(K:List Nat)(a:Fr):Fr:=nF (DA b K a) a
def UT(a b:Fr):List Nat->Prop->Prop
 |[],k=>k
 |q::K,k=>Xu (il b q) (il a q) (UT a b K k)
def LY(c:Fr):Op->Option SV
 | .move x| .assign x=>match ev c x with
  | .fU=>none
  |y=>some y
 | .binOp d _ x y _=>match ev c x,ev c y with
  | .c (.i a),.c (.i b)=>match d with
   | .eql=>some (.c (.t (a==b)))
   | .neq=>some (.c (.t (a !=b)))
   | .lss=>some (.c (.t (decide (a<b))))
   | .leq=>some (.c (.t (decide (a<=b))))
   | .gtr=>some (.c (.t (decide (a>b))))
   | .geq=>some (.c (.t (decide (a>=b))))
   |_=>none
  |_,_=>none
 |_=>none
def qV(b:Nat):List Oper->Fr->Option Fr
 |[],a=>some a
 |o::r,a=>bif sg b o.dst then
  match o.guard with
  |none=>match LY a o.op with
   |some x=>qV b r (ud a o.dst x)
   |none=>none
  |some _=>none
  else none
def Wk(A:Px)(b t:Nat):Code->Fr->Option Bool
 | .region _ e false,d=>match qV b e.toList d with
  |some a=>lz (il a t)
  |none=>none
 | .seq (.region _ e false) (.cond (.tmp u) .skip c),d=>
  match Wh A.Vo (.cond (.tmp u) .skip c)with
  |some _=>none
  |none=>bif Nat.beq u t&&vk t (oJ c)then
   match qV b e.toList d with
   |some a=>match lz (il a t),Wk A b t c a with
    |some x,some y=>some (x||y)
    |_,_=>none
   |none=>none
   else none
 |_,_=>none
def YW(A:Px)(b:Nat)(d:Operand)(a c:Code)(e:Fr):Option (Nat×Bool):=
 match d,a with
 | .tmp t,.skip=>bif vk t (oJ c)then
  match Wk A b t c e with
  |some y=>some (t,y)
  |none=>none
  else none
 |_,_=>none
def uK(a:Fr)(c:Operand)(v:SV):Fr:=
 match c with
 | .tmp t=>(t,v)::a
 |_=>a
def Vy:List Oper->List Nat
 |[]=>[]
 |o::r=>lC o.after.toList::Vy r
def TQ:List Nat->List Oper->List Nat
 |a,[]=>a
 |a,o::r=>TQ (a++[nZ a o.after.toList]) r
def qu:Code->Bool
 | .region _ b c=>!c||(ln (TQ [] b.toList) b.toList (Vy b.toList) (TQ [] b.toList)&&FJ b.toList (Vy b.toList) 0 b.toList (TQ [] b.toList))
 | .seq a b=>qu a&&qu b
 | .cond _ a b=>qu a&&qu b
 | .block _ c=>qu c
 | .loop c=>qu c
 |_=>true
def vc(P:Program)(T:TT)(G:List Nat)(b:Nat)(A:Px):Code->Fr->E->(Exit->Fr->E->Prop)->Prop
 | .skip,c,m,Q=>Q .normal c m
 | .region id d e,c,m,Q=>
  bif e then oN P T G b d.toList (Vy d.toList) (TQ [] d.toList) d.toList.length 0 c m [] (λc m=>Q .normal c m)
  else sC P T G b d.toList d.toList c m (λc m=>Q .normal c m)
 | .seq a g,c,m,Q=>match Wh A.Vo g with
  |none=>vc P T G b A a c m λ
   | .normal,e,d=>vc P T G b A g e d Q
   |h,e,d=>Q h e d
  |some l=>bif pS (oJ a) l then∃K:HT l,(vc P T G b A a c m λ
   | .normal,e,d=>UT c e (lj A g) (HW l K e d)
   |h,e,d=>Q h e d)/\
   (PL l K (nF (oJ a) (uy b (lj A g) c)) λe f=>∀d,f d->vc P T G b A g e d Q)else False
 | .cond f a g,c,m,Q=>match ev c f with
  | .tt=>vc P T G b A a c m Q
  | .ff=>vc P T G b A g c m Q
  | .c (.t x)=>match YW A b f a g c with
   |some (t,y)=>Q .normal ((t,.c (.t (x||y)))::nF (oJ g) c) m
   |none=>(x=true->vc P T G b A a (uK c f .tt) m Q)/\(x=false->vc P T G b A g (uK c f .ff) m Q)
  |_=>False
 | .block id f,c,m,Q=>vc P T G b A f c m λ
  | .exit i,e,d=>bif Nat.beq i id then Q .normal e d else Q (.exit i) e d
  |h,e,d=>Q h e d
 | .loop f,c,m,Q=>match Wh A.Un f with
  |none=>False
  |some l=>bif pS (oJ f) l then∃(I:HT l)(μ:OG l),HW l I c m/\
   (PM l I μ (nF (oJ f) (uy b (lj A f) c)) λe j μ'=>∀d,j d->vc P T G b A f e d λ
    | .normal,g,i=>UT c g (lj A f) (OL l I μ g i (μ' d))
    |h,g,i=>Q h g i)else False
 | .exit id,c,m,Q=>Q (.exit id) c m
 | .ret,c,m,Q=>Q .ret c m
 |_,_,_,_=>False
def mG.mono{b:List Nat}{c:Act}(h:mG M a c)(e:∀t∈M,t∈b):mG b a c:=λt f=>h t λd=>f (e t d)
def Ch:∀(M:List Nat)(a:Fr)(t:Nat),(t∈M/\il (nF M a) t=.fU)\/(t∉M/\il (nF M a) t=il a t)
 |[],_,_=>Or.inr ⟨aL,rfl⟩
 |u::M,a,t=>by
  simp only[nF,il];cases d:Nat.beq u t
  .have f:u≠t:=λe=>by subst e;simp at d
   rcases Ch M a t with⟨b,c⟩|⟨b,c⟩
   .exact Or.inl ⟨ai _ b,c⟩
   .exact Or.inr ⟨by simp only[aV,vG];exact⟨λe=>f e.symm,b⟩,c⟩
  .have:=bq d;subst this;exact Or.inl ⟨bg,rfl⟩
def Ax{d:Fr}{c:Act}(g:j8 b d a)(j:c.tmps.size=b)(hd:c.defers=[])(i:mG M a c):j8 b (nF M d) c:=by
 refine⟨j,hd,λt=>?_⟩;rcases Ch M d t with⟨_,h⟩|⟨e,f⟩
 .rw[h];trivial
 .rw[f,i t e];exact g.aF t
def j8.nF{c:Fr}{a:Act}(d:j8 b c a):∀(M:List Nat),j8 b (nF M c) a
 |[]=>d
 |t::M=>(j8.nF d M).fU t
def Bx.nF{a:Fr}{m:E}(h:Bx b a m):∀(M:List Nat),Bx b (nF M a) m
 |[]=>h
 |t::M=>(Bx.nF h M).fU aL
def NV{K:List Nat}{q:Nat}(d:b<=q)(c:q∉K):∀{a:Fr},q∈DA b K a\/il a q=.fU
 |[]=>Or.inr rfl
 |(u,x)::r=>by
  simp only[DA,il];cases i:Nat.beq u q
  .rcases NV d c (a:=r)with h|h
   .left;cases(Nat.ble b u&&!vk u K)
    .exact h
    .exact ai _ h
   .exact Or.inr h
  .have:=bq i;subst this;have f:vk u K=false:=by
    cases g:vk u K
    .rfl
    .exact absurd (Iq g) c
   have e:Nat.ble b u=true:=Yh d;simp[f,e]
def Ll{b c:Fr}:∀{K:List Nat}{k:Prop},UT b c K k->(∀q∈K,il c q=il b q)/\k
 |[],k,h=>⟨aL,h⟩
 |q::K,k,h=>by
  obtain⟨d,e⟩:=Ll h.2;refine⟨λu a=>?_,e⟩;rcases List.mem_cons.1 a with rfl|a
  .exact h.1
  .exact d u a
def Bx.lj{K:List Nat}{c j:Fr}{v p:E}(h:Bx b c v)(r:Bx b j p)(s:∀q∈K,il j q=il c q):Bx b (Vc.nF M (uy b K c)) p:=by
 have i:∀{q d e l},lO (Vc.nF M (uy b K c)) q d e l->lO c q d e l/\lO j q d e l:=by
  intro q d e l a;have f:il (Vc.nF M (uy b K c)) q=il (uy b K c) q\/il (Vc.nF M (uy b K c)) q=.fU:=by
   rcases Ch M (uy b K c) q with⟨_,h⟩|⟨_,h⟩
   .exact Or.inr h
   .exact Or.inl h
  unfold lO at a;rcases f with f|f
  .rw[f]at a;unfold uy at a;rcases Ch (DA b K c) c q with⟨_,g⟩|⟨k,g⟩
   .rw[g]at a;simp at a
   .rw[g]at a;have t:b<=q:=h.key q d e l a;by_cases o:q∈K
    .refine⟨a,?_⟩;unfold lO;rw[s q o];exact a
    .rcases NV (b:=b) t o (a:=c)with m|m
     .exact absurd m k
     .rw[m]at a;simp at a
  .rw[f]at a;simp at a
 exact⟨λq d e l a=>r.D q d e l (i a).2,λq w d e l m o u t k g=>h.OP q w d e l m o u t (i k).1 (i g).1,λq d e l a=>h.key q d e l (i a).1⟩
def SX{x:SV}(h:Rg s x=some y):x.jJ=true/\x.v=(s.mk y).v:=by
 unfold Rg at h;split at h<;>first|(simp at h;subst h;exact⟨rfl,rfl⟩)|skip
 .split at h
  .rename_i a;subst a;simp at h;subst h;exact⟨rfl,rfl⟩
  .simp at h
 .simp at h
def Mc{d cz:Fr}{t:Nat}(g:j8 b d a)(c:j8 b cz a)(h:Rg s (il d t)=some y):j8 b ((t,.c (s.mk y))::cz) a:=by
 refine⟨c.size,c.defers,λu=>?_⟩;simp only[il];cases i:Nat.beq t u
 .exact c.aF u
 .have:=bq i;subst this;have e:=g.aF t;obtain⟨j,k⟩:=SX h;have f:=e.eq j;show _=_;rw[f,k];rfl
def TC:(l:List (Nat×Sh))->HT l->OG l->Fr->Fr->(E->Prop)->(E->Nat)->Prop
 |[],I,μ,b,c,a,μ'=>c=b/\a=I/\μ'=μ
 |(t,s)::r,I,μ,b,c,a,μ'=>∃x:s.ty,TC r (I x) (μ x) ((t,.c (s.mk x))::b) c a μ'
def NQ:∀{l:List (Nat×Sh)}{I:HT l}{μ:OG l}{b:Fr}{k:Fr->(E->Prop)->(E->Nat)->Prop},PM l I μ b k->∀{fr' I' μ'},TC l I μ b fr' I' μ'->k fr' I' μ'
 |[],_,_,_,_,h,_,_,_,a=>by obtain⟨rfl,rfl,rfl⟩:=a;exact h
 |(t,s)::r,_,_,_,_,h,_,_,_,a=>by obtain⟨x,a⟩:=a;exact NQ (h x) a
def Sh.Uq(s:Sh)(x:s.ty)(b e:Nat)(l:List Ce):SV.c (s.mk x)≠.box b e l/\SV.c (s.mk x)≠.zO b e l:=⟨aL,aL⟩
def NU{a:Act}{g:Fr}(i:j8 b g a):∀{l:List (Nat×Sh)}{I:HT l}{μ:OG l}{cz:Fr}{m:E}{N:Nat},j8 b cz a->Bx b cz m->OL l I μ g m N->
 ∃c d μ',TC l I μ cz c d μ'/\j8 b c a/\Bx b c m/\d m/\μ' m<N
 |[],I,μ,cz,_,_,f,e,h=>⟨cz,I,μ,⟨rfl,rfl,rfl⟩,f,e,h.1,h.2⟩
 |(t,s)::r,I,μ,cz,m,N,f,e,h=>by
  simp only[OL]at h;split at h
  .rename_i x p;obtain⟨c,d,μ',j,k,n,o⟩:=NU i (Mc i f p) (e.fU (s.Uq x)) h;exact⟨c,d,μ',⟨x,j⟩,k,n,o⟩
  .exact h.elim
def NS{a:Act}{g:Fr}(i:j8 b g a):∀{l:List (Nat×Sh)}{I:HT l}{μ:OG l}{cz:Fr}{m:E},j8 b cz a->Bx b cz m->HW l I g m->
 ∃c d μ',TC l I μ cz c d μ'/\j8 b c a/\Bx b c m/\d m
 |[],I,μ,cz,_,f,e,h=>⟨cz,I,μ,⟨rfl,rfl,rfl⟩,f,e,h⟩
 |(t,s)::r,I,μ,cz,m,f,e,h=>by
  simp only[HW]at h;split at h
  .rename_i x o;obtain⟨c,d,μ',j,k,n⟩:=NS i (Mc i f o) (e.fU (s.Uq x)) h;exact⟨c,d,μ',⟨x,j⟩,k,n⟩
  .exact h.elim
def PQ{a:Act}{i:Fr}(j:j8 b i a):∀{l:List (Nat×Sh)}{I:HT l}{cz:Fr}{m:E}{k:Fr->(E->Prop)->Prop},j8 b cz a->Bx b cz m->HW l I i m->PL l I cz k->
 ∃c g,k c g/\j8 b c a/\Bx b c m/\g m
 |[],I,cz,_,_,e,d,h,f=>⟨cz,I,f,e,d,h⟩
 |(t,s)::r,I,cz,m,k,e,d,h,f=>by
  simp only[HW]at h;split at h
  .rename_i x n;exact PQ j (Mc j e n) (d.fU (s.Uq x)) h (f x)
  .exact h.elim
def Tm{l:Code}{Q:Exit->Act->World->Prop}(b:Nat->Act->World->Prop)
 (r:∀N a w,b N a w->l.wp P (Exit.then (λg k=>∃d,d<N/\b d g k) Q) a w):∀N a w,b N a w->(Code.loop l).wp P Q a w:=by
 have q:∀N a w,b N a w->∃M,b M a w/\∀c,c<M->¬b c a w:=by
  intro N;induction N using Nat.strongRecOn with
  |_ N j=>
   intro a w h;by_cases e:∃c,c<N/\b c a w
   .obtain⟨c,f,i⟩:=e;exact j c f a w i
   .exact⟨N,h,λc i f=>e ⟨c,i,f⟩⟩
 intro N a w o
 classical
 let μ:Act->World->Nat:=λa w=>if h:∃M,b M a w/\∀c,c<M->¬b c a w then Classical.choose h else 0
 have hμ:∀a w N,b N a w->b (μ a w) a w/\μ a w<=N:=by
  intro a w N h;have e:=q N a w h;have i:μ a w=Classical.choose e:=Tt e;have n:=fN e;rw[i];refine⟨n.1,?_⟩;rcases aW N (Classical.choose e)with j|p
  .exact absurd h (n.2 N j)
  .exact p
 refine wp_loop (λa w=>∃N,b N a w) μ ⟨N,o⟩ ?_
 rintro a w ⟨N,h⟩
 refine Code.wp_mono ?_ (r (μ a w) a w (hμ a w N h).1)
 intro i g k m
 cases i with
 |normal=>
  obtain⟨d,j,f⟩:=m
  exact⟨⟨d,f⟩,nH (hμ g k d f).2 j⟩
 |_=>exact m
end Go.Vc
end
section
namespace Go.Vc
variable{i w:World}{j p:List Nat}{l a:Act}{f:Exit->Fr->E->Prop}{e:Exit}{b:E}
variable{g:Program}{h:TT}{G:List Nat}{d:Nat}{o:Px}
def ku(d:Nat)(i:World)(j:List Nat)(l:Act)(f:Exit->Fr->E->Prop):Exit->Act->World->Prop
 | .panic _,_,_=>False
 | .outgrown,_,_=>False
 |e,a,w=>∃b,j8 d b a/\Bx d b w.heap/\px i w/\mG j l a/\f e b w.heap
def ku.mk{b:Fr}(g:(∀c,e≠.panic c)/\e≠.outgrown)
 (k:j8 d b a)(h:Bx d b w.heap)(o:px i w)(m:mG j l a)(n:f e b w.heap):ku d i j l f e a w:=by
 cases e with
 |panic c=>exact absurd rfl (g.1 c)
 |outgrown=>exact absurd rfl g.2
 |_=>exact⟨b,k,h,o,m,n⟩
def ku.aS(h:ku d i j l f e a w):
 ((∀c,e≠.panic c)/\e≠.outgrown)/\∃b,j8 d b a/\Bx d b w.heap/\px i w/\mG j l a/\f e b w.heap:=by
 cases e with
 |panic c=>exact h.elim
 |outgrown=>exact h.elim
 |_=>exact⟨⟨aL,aL⟩,h⟩
def ku.left(h:ku d i j l f e a w):ku d i (j++p) l f e a w:=by
 obtain⟨g,q,c,b,n,k,m⟩:=h.aS;exact ku.mk g c b n (k.mono (λt o=>bJ _ o)) m
def ku.right(h:ku d i j l f e a w):ku d i (p++j) l f e a w:=by
 obtain⟨g,q,c,b,n,k,m⟩:=h.aS;exact ku.mk g c b n (k.mono (λt o=>eF _ o)) m
def Te{f:Fr}{e:Op}{x:SV}{k:SV->Prop}(c:LY f e=some x)(d:k x):LF e=false/\rd h f b k e:=by
 unfold LY at c;split at c
 .split at c
  .simp at c
  .simp at c;subst c;exact⟨rfl,d⟩
 .split at c
  .simp at c
  .simp at c;subst c;exact⟨rfl,d⟩
 .rename_i o t y z l;split at c
  .rename_i a j g i;refine⟨rfl,?_⟩;simp only[rd,g,i];split at c<;>simp at c<;>subst c<;>exact d
  .simp at c
 .simp at c
def Ev(j:List Oper){b:E}{i:Fr->E->Prop}:∀{n:List Oper}{c e:Fr},qV d n c=some e->i e b->sC g h G d j n c b i
 |[],c,e,a,f=>by simp[qV]at a;subst a;exact f
 |o::s,c,e,a,f=>by
  simp only[qV]at a;simp only[sC];cases hd:sg d o.dst
  .rw[hd]at a;simp at a
  .rw[hd]at a;simp only[jI]at a⊢;cases l:o.guard with
   |some p=>rw[l]at a;simp at a
   |none=>
    rw[l]at a;simp only[gd]at a⊢;split at a
    .rename_i x r;obtain⟨p,q⟩:=Te (h:=h) (b:=b) (k:=λx=>sC g h G d j s (ud c o.dst x) b i) r (Ev j a f);rw[p];exact q
    .simp at a
def Uu(p:Nat){b:E}{f:Exit->Fr->E->Prop}:∀(k:Code)(n:Fr)(y:Bool),Wk o d p k n=some y->(∀i,lz (il i p)=some y->f .normal i b)->vc g h G d o k n b f
 | .region id A e,n,y,a,m=>by
  cases e
  .simp only[Wk]at a;simp only[vc,mL];split at a
   .rename_i i q;exact Ev _ q (m i a)
   .simp at a
  .simp[Wk]at a
 | .seq (.region id A false) (.cond (.tmp u) .skip k),n,y,a,m=>by
  simp only[Wk]at a;split at a
  .simp at a
  .rename_i w;cases l:(Nat.beq u p&&vk p (oJ k))
   .rw[l]at a;simp at a
   .rw[l]at a;simp only[jI]at a;simp only[bL]at l;have z:=bq l.1;subst z;split at a
    .rename_i i q;split at a
     .rename_i C B e r;simp at a;subst a;rw[vc,w];simp only;rw[vc];simp only[mL];refine Ev _ q ?_;rw[vc];have x:ev i (.tmp u)=(il i u).nb:=rfl;rw[x];cases j:il i u with
      |tt=>
       rw[j]at e;simp[lz]at e;subst e;simp only[SV.nb,vc];exact m i (by rw[j];simp[lz])
      |ff=>
       rw[j]at e;simp[lz]at e;subst e;simp only[SV.nb];exact Uu u k i B r (λs v=>m s (by simpa using v))
      |c s=>
       cases s with
       |t v=>
        rw[j]at e;simp[lz]at e;subst e;simp only[SV.nb,YW,l.2,jI,r];exact m _ (by simp[il,lz])
       |_=>rw[j]at e;simp[lz]at e
      |_=>rw[j]at e;simp[lz]at e
     .simp at a
    .simp at a
def UG(hT:uw g h)(hG:U1 g G)(au:g.follows .mixedOrders=true)(i:World):∀(D:Code),qu D=true->∀(l:Fr)(b:E)(f:Exit->Fr->E->Prop)(a:Act)(w:World),
 vc g h G d o D l b f->j8 d l a->Bx d l b->w.heap=b->px i w->D.wp g (ku d i (oJ D) a f) a w:=by
 intro D
 induction D with
 |skip=>
  intro hd l b f a w c k s x t
  subst x
  exact wp_skip ⟨l,k,s,t,mG.az _ _,c⟩
 |region id p z=>
  intro hd l b f a w c k s x t
  simp only[vc]at c
  cases z
  .simp only[mL]at c
   refine wp_region_list ?_
   exact uZ hT hG p p.toList l b (f .normal) a w (λ_ c=>c) c k s x t (mG.az _ _) λB I S j r v u q=>⟨B,r,v,u,q,j⟩
  .simp only[jI]at c
   simp only[qu,Oy,VL,bL]at hd
   refine wp_region_any au (MM (e:=λy C=>Nat.testBit (uf (TQ [] p.toList) y) C) (L:=[]) _ _ _ _ ?_)
   have F:p.toList.length=p.size:=aL
   rw[F]at c
   refine Pt hT hG p _ _ hd.1 hd.2 (λD a w hx=>hx) (w0:=i) (a0:=a) p.size 0 l b [] (f .normal) [] _ a _ c (λC hx=>by cases hx) ⟨aL,λy=>by simp[VK];split<;>rfl⟩ (λy hi=>by simp[VK]at hi;split at hi<;>simp at hi) k s x ⟨t.os,t.tape,t.output⟩ (mG.az _ _) λB I S j r v u q=>⟨B,r,v,u,q,j⟩
 |seq C U ac X=>
  intro hd l b f a w c k s x t
  simp only[vc]at c
  simp only[qu,bL]at hd
  refine wp_seq ?_
  split at c
  .refine Code.wp_mono ?_ (ac hd.1 l b _ a w c k s x t)
   intro e I S j
   obtain⟨p,B,r,v,u,z,j⟩:=j.aS
   cases e with
   |normal=>
    refine Code.wp_mono ?_ (X hd.2 B _ f I S j r v rfl u)
    intro e R aa j
    obtain⟨p,V,J,F,O,K,j⟩:=j.aS
    exact ku.mk p J F O ((z.mono (λH q=>bJ _ q)).trans (K.mono (λH q=>eF _ q))) j
   |panic D=>exact absurd rfl (p.1 D)
   |outgrown=>exact absurd rfl p.2
   |exit y=>exact ku.mk (e:=.exit y) p r v u (z.mono (λH q=>bJ _ q)) j
   |goto y=>exact ku.mk (e:=.goto y) p r v u (z.mono (λH q=>bJ _ q)) j
   |ret=>exact ku.mk (e:=.ret) p r v u (z.mono (λH q=>bJ _ q)) j
  .rename_i N hl
   cases ab:pS (oJ C) N
   .rw[ab]at c;exact c.elim
   rw[ab]at c
   obtain⟨ad,h1,W⟩:=c
   refine Code.wp_mono ?_ (ac hd.1 l b _ a w h1 k s x t)
   intro e I S j
   obtain⟨p,B,r,v,u,z,j⟩:=j.aS
   cases e with
   |normal=>
    obtain⟨af,j⟩:=Ll j
    obtain⟨ag,K',h3,Y,Z,h5⟩:=PQ r (Ax (k.nF _) r.size r.defers z) (Bx.lj s v af) j W
    refine Code.wp_mono ?_ (X hd.2 ag _ f I S (h3 _ h5) Y Z rfl u)
    intro e R aa j
    obtain⟨p,V,J,F,O,K,j⟩:=j.aS
    exact ku.mk p J F O ((z.mono (λH q=>bJ _ q)).trans (K.mono (λH q=>eF _ q))) j
   |panic D=>exact absurd rfl (p.1 D)
   |outgrown=>exact absurd rfl p.2
   |exit y=>exact ku.mk (e:=.exit y) p r v u (z.mono (λH q=>bJ _ q)) j
   |goto y=>exact ku.mk (e:=.goto y) p r v u (z.mono (λH q=>bJ _ q)) j
   |ret=>exact ku.mk (e:=.ret) p r v u (z.mono (λH q=>bJ _ q)) j
 |cond ad C U ac X=>
  intro hd l b f a w c k s x t
  simp only[vc]at c
  simp only[qu,bL]at hd
  have aj:∀{K:Bool},a.eval ad=.bool K->j8 d (uK l ad (if K then .tt else .ff)) a:=by
   intro K F;unfold uK;split
   .rename_i H;refine⟨k.size,k.defers,λR=>?_⟩;simp only[il];cases Y:Nat.beq H R
    .exact k.aF R
    .have:=bq Y;subst this;cases K<;>exact F
   .exact k
  have ak:∀{C:SV},(∀K e N,C≠.box K e N/\C≠.zO K e N)->Bx d (uK l ad C) b:=by
   intro C hx;unfold uK;split
   .exact s.fU hx
   .exact s
  split at c
  .rename_i Z
   exact wp_cond_true (k.eq Z rfl) (Code.wp_mono (λ_ _ _ c=>c.left) (ac hd.1 l b f a w c k s x t))
  .rename_i Z
   exact wp_cond_false (k.eq Z rfl) (Code.wp_mono (λ_ _ _ c=>c.right) (X hd.2 l b f a w c k s x t))
  .rename_i K Z
   have aa:a.eval ad=.bool K:=k.eq Z rfl
   split at c
   .rename_i H y' J
    unfold YW at J
    split at J
    .rename_i O
     cases ai:vk O (oJ U)
     .rw[ai]at J;simp at J
     .rw[ai]at J
      simp only[jI]at J
      split at J
      .rename_i y0 ao
       simp at J
       obtain⟨rfl,rfl⟩:=J
       have am:a.tmps.getD O undef=.bool K:=aa
       refine wp_cond_split aa (λq=>?_) (λq=>?_)
       .subst x
        subst q
        refine wp_skip (ku.mk (e:=.normal) (b:=(O,.c (.t (true||y0)))::nF (oJ U) l) ⟨aL,aL⟩ ?_ ((s.nF _).fU aL) t (mG.az _ _) c)
        have F:=Ax (M:=oJ U) k k.size k.defers (mG.az _ a)
        refine⟨F.size,F.defers,λR=>?_⟩
        simp only[il]
        cases Y:Nat.beq O R
        .exact F.aF R
        .have:=bq Y
         subst this
         simpa[SV.Is,SV.v,Ce.v]using am
       .subst q
        have hv:=Uu (g:=g) (h:=h) (G:=G) (o:=o) (d:=d) O (b:=b) (f:=λe B V=>e=.normal/\V=b/\lz (il B O)=some y0) U l y0 ao (λB V=>⟨rfl,rfl,V⟩)
        refine Code.wp_mono ?_ (X hd.2 l b _ a w hv k s x t)
        intro e I S j
        obtain⟨p,B,r,v,u,z,rfl,ah,al⟩:=j.aS
        refine ku.mk (e:=.normal) (b:=(O,.c (.t (false||y0)))::nF (oJ U) l) p ?_ (by rw[ah];exact(s.nF _).fU aL) u (z.mono (λH q=>eF _ q)) (by rw[ah];exact c)
        have F:=Ax (M:=oJ U) k r.size r.defers z
        refine⟨F.size,F.defers,λR=>?_⟩
        simp only[il]
        cases Y:Nat.beq O R
        .exact F.aF R
        .have:=bq Y
         subst this
         obtain⟨V,W⟩:=wW al
         have h3:=(r.aF O).eq V
         rw[W]at h3
         simpa[SV.Is,SV.v,Ce.v]using h3
      .simp at J
    .simp at J
   .refine wp_cond_split aa (λq=>?_) (λq=>?_)
    .subst q
     exact Code.wp_mono (λ_ _ _ c=>c.left) (ac hd.1 _ b f a w (c.1 rfl) (aj aa) (ak aL) x t)
    .subst q
     exact Code.wp_mono (λ_ _ _ c=>c.right) (X hd.2 _ b f a w (c.2 rfl) (aj aa) (ak aL) x t)
  .exact c.elim
 |block id C J=>
  intro hd l b f a w c k s x t
  simp only[vc]at c
  refine wp_block (Code.wp_mono ?_ (J hd l b _ a w c k s x t))
  intro e I S j
  obtain⟨p,B,r,v,u,z,j⟩:=j.aS
  cases e with
  |exit y=>
   simp only[Exit.inBlock]
   simp only at j
   cases F:Nat.beq y id
   .rw[F]at j
    have q:y≠id:=λe=>by subst e;simp at F
    rw[ae q]
    exact ku.mk (e:=.exit y) p r v u z j
   .rw[F]at j
    rw[an (bq F)]
    exact ku.mk (e:=.normal) ⟨aL,aL⟩ r v u z j
  |normal=>exact ku.mk (e:=.normal) p r v u z j
  |panic D=>exact absurd rfl (p.1 D)
  |outgrown=>exact absurd rfl p.2
  |goto y=>exact ku.mk (e:=.goto y) p r v u z j
  |ret=>exact ku.mk (e:=.ret) p r v u z j
 |loop C J=>
  intro hd l b f a w c k s x t
  subst x
  simp only[vc]at c
  split at c
  .exact c.elim
  .rename_i N hl
   cases ab:pS (oJ C) N
   .rw[ab]at c;exact c.elim
   rw[ab]at c
   obtain⟨O,μ,h0,h1⟩:=c
   let Y:Nat->Act->World->Prop:=λK I w=>∃B H μ',TC N O μ (nF (oJ C) (uy d (lj o C) l)) B H μ'/\j8 d B I/\Bx d B w.heap/\H w.heap/\μ' w.heap=K/\px i w/\mG (oJ C) a I
   obtain⟨aa,R,μ1,ap,al,ad,aj⟩:=NS (μ:=μ) k (Ax (k.nF _) k.size k.defers (mG.az (oJ C) a)) (Bx.lj s s (λ_ _=>rfl)) h0
   refine Tm Y ?_ (μ1 w.heap) a w ⟨aa,R,μ1,ap,al,ad,aj,rfl,t,mG.az _ _⟩
   rintro K Z w ⟨B,H,μ',hi,r,v,ai,rfl,u,V⟩
   have ao:=NQ h1 hi w.heap ai
   refine Code.wp_mono ?_ (J hd B w.heap _ Z w ao r v rfl u)
   intro e I S j
   obtain⟨p,ag,q,z,F,W,j⟩:=j.aS
   cases e with
   |normal=>
    obtain⟨af,j⟩:=Ll j
    obtain⟨ac,X,μ3,aq,am,ah,ak,ar⟩:=NU q (Ax (k.nF _) q.size q.defers (V.trans W)) (Bx.lj s z af) j
    exact⟨_,ar,ac,X,μ3,aq,am,ah,ak,rfl,F,V.trans W⟩
   |panic D=>exact absurd rfl (p.1 D)
   |outgrown=>exact absurd rfl p.2
   |exit y=>exact ku.mk (e:=.exit y) p q z F (V.trans W) j
   |goto y=>exact ku.mk (e:=.goto y) p q z F (V.trans W) j
   |ret=>exact ku.mk (e:=.ret) p q z F (V.trans W) j
 |exit id=>
  intro hd l b f a w c k s x t
  subst x
  exact wp_exit ⟨l,k,s,t,mG.az _ _,c⟩
 |ret=>
  intro hd l b f a w c k s x t
  subst x
  exact wp_ret ⟨l,k,s,t,mG.az _ _,c⟩
 |rangeFunc j k C U _ _=>intro _ l b f a w c;exact c.elim
 |scope C _=>intro _ l b f a w c;exact c.elim
 |label N=>intro _ l b f a w c;exact c.elim
 |goto N=>intro _ l b f a w c;exact c.elim
 |refuse s=>intro _ l b f a w c;exact c.elim
def ux:Nat->List SV->Fr
 |_,[]=>[]
 |i,x::r=>(i,x)::ux (i+1) r
def GJ(h:TT)(a:Fr)(b:E):List ResultVar->(List SV->Prop)->Prop
 |[],k=>k []
 | .tmp t::r,k=>bif (il a t).jJ then GJ h a b r λl=>k (il a t::l)else False
 | .cell p t::r,k=>rd h a b (λx=>bif x.jJ then GJ h a b r λl=>k (x::l)else False) (.load t (.tmp p))
def XE(h:TT)(c:List ResultVar)(a:Fr)(b:E)(R:Value->E->Prop):Prop:=
 GJ h a b c λ
  |[x]=>R x.v b
  |l=>R (.tuple (l.map SV.v).toArray) b
def Tl(g:Program)(h:TT)(G:List Nat)(o:Px)(d:Nat)(c:List ResultVar)(f:Code)(e:List SV)(b:E)(R:Value->E->Prop):Prop:=
 vc g h G d o f (ux 0 e) b λ
  | .normal,a,b=>XE h c a b R
  | .ret,a,b=>XE h c a b R
  |_,_,_=>False
def HY:∀(a:List SV)(i t:Nat),(t<i/\il (ux i a) t=.fU)\/(i<=t/\il (ux i a) t=a.getD (t -i) .fU)
 |[],i,t=>by
  rcases aW t i with h|h
  .exact Or.inl ⟨h,rfl⟩
  .exact Or.inr ⟨h,by simp[ux,il]⟩
 |x::r,i,t=>by
  simp only[ux,il];cases c:Nat.beq i t
  .have f:i≠t:=λe=>by subst e;simp at c
   rcases HY r (i+1) t with⟨d,b⟩|⟨d,b⟩
   .exact Or.inl ⟨V,b⟩
   .refine Or.inr ⟨V,?_⟩;have e:t -i=(t -(i+1))+1:=V;rw[e,List.getD_cons_succ];exact b
  .have:=bq c;subst this;exact Or.inr ⟨ad _,aL⟩
def Md(a:Array Value):ResultVar->Sem Value
 | .tmp t=>pure (a.getD t undef)
 | .cell p t=>do loadVar t (<-asAddr (a.getD p undef))
def Rw(b:Func)(c:Array Value):results b c=(do
 let a<-b.results.mapM (Md c)
 pure (if h:a.size=1 then a[0]else .tuple a)):=by
 unfold results
 congr 2
def IC{i:Fr}{a:Act}(v:uw g h)(f:j8 d i a):∀(D:List ResultVar)(k:List SV->Prop)(w:World),Bx d i w.heap->GJ h i w.heap D k->
 ∃p,k p/\(D.mapM (Md a.tmps)).run g w=.ok (p.map SV.v) w
 |[],k,w,_,b=>⟨[],b,aL⟩
 | .tmp t::A,k,w,j,b=>by
  simp only[GJ]at b;cases c:(il i t).jJ
  .rw[c]at b;exact b.elim
  .rw[c]at b;obtain⟨p,s,u⟩:=IC v f A _ w j b;refine⟨_,s,?_⟩;have z:=(f.aF t).eq c;have r:Md a.tmps (.tmp t)=pure (a.tmps.getD t undef):=rfl;simp only[UM,Sem.run_bind,Sem.run_pure,Result.andThen_ok,u,cL,z,r]
 | .cell q t::A,k,w,j,m=>by
  obtain⟨E,B,n,z,b⟩:=LZ (P:=g) v f j ⟨none,.load t (.tmp q),0,"",#[],none⟩ m;have b:=b w (λC _=>rfl);cases x:E.jJ
  .rw[x]at n;exact n.elim
  rw[x]at n;obtain⟨p,s,u⟩:=IC v f A _ w j n;refine⟨_,s,?_⟩;have G:∃c o,a.tmps.getD q undef=.pointer (some ⟨c,o,none⟩):=by
   have l:=SV.Ur (f.aF q);simp only[GJ,rd,ev]at m;split at m
   .rename_i c o y;rw[y]at l;exact⟨c,o,l⟩
   .rename_i C c o y;rw[y]at l;exact⟨c,o,l⟩
   .exact m.elim
  obtain⟨c,o,y⟩:=G;simp only[execOp,Instr.loadAt,Act.eval,y,Instr.sureAddr,Sem.run_bind,Sem.run_pure,Result.andThen_ok]at b;have F:(loadVar t ⟨c,o,none⟩).run g w=.ok B w:=by
   cases C:(loadVar t ⟨c,o,none⟩).run g w with
   |ok I H=>
    rw[C]at b;simp at b;rw[b.1,b.2]
   |halt e H=>rw[C]at b;simp at b
  have H:B=E.v:=z.eq x;have r:(Md a.tmps (.cell q t)).run g w=.ok B w:=by
   simp only[Md,y,Sem.run_bind,asAddr,Sem.run_pure,Result.andThen_ok,F]
  simp only[UM,Sem.run_bind,Sem.run_pure,Result.andThen_ok,r,u,cL,H]
def ye(z:uw g h)(K:U1 g G)(O:g.follows .mixedOrders=true){y:FuncId}{i:Func}{m:Code}{r:List ResultVar}{a:List SV}{R:Value->E->Prop}
 (N:g.funcs[y]? =some i)(M:i.body=some m)(P:i.ntmps=d)(S:i.results=r.toArray)(A:a.all SV.jJ=true)(X:a.length<=d)(hd:qu m=true)
 (j:Tl g h G o d r m a b R):aN g y (a.map SV.v) b R:=by
 intro w U
 refine calls_of_wp N M ?_
 have L:j8 d (ux 0 a) {tmps:=(a.map SV.v).toArray++Array.replicate (i.ntmps -(a.map SV.v).toArray.size) undef,defers:=[]}:=by
  refine⟨by simp[P];omega,rfl,λt=>?_⟩;rcases HY a 0 t with⟨n,_⟩|⟨_,p⟩
  .omega
  .rw[p,XS];rcases aW t a.length with k|s
   .have u:(a[t]).jJ=true:=List.all_eq_true.1 A _ (List.getElem_mem k);have c:a.getD t .fU=a[t]:=by simp[k]
    rw[c];have f:((a.map SV.v).toArray++Array.replicate (i.ntmps -(a.map SV.v).toArray.size) undef).getD t undef=(a[t]).v:=by
     simp[Array.getElem?_append,k]
    rw[f];exact nN _
   .have c:a.getD t .fU=.fU:=by simp[cT s]
    rw[c];trivial
 have v:∀{q x e l},¬lO (ux 0 a) q x e l:=by
  intro q x e l f;rcases HY a 0 q with⟨n,_⟩|⟨_,p⟩
  .omega
  .unfold lO at f;rw[p,XS]at f;rcases aW q a.length with k|s
   .have u:(a[q]).jJ=true:=List.all_eq_true.1 A _ (List.getElem_mem k);have c:a.getD q .fU=a[q]:=by simp[k]
    rw[c]at f;rcases f with f|f<;>rw[f]at u<;>simp[SV.jJ]at u
   .have c:a.getD q .fU=.fU:=by simp[cT s]
    rw[c]at f;simp at f
 have I:Bx d (ux 0 a) b:=⟨λ_ _ _ _ j=>absurd j v,λ_ _ _ _ _ _ _ _ _ j=>absurd j v,λ_ _ _ _ j=>absurd j v⟩
 refine Code.wp_mono ?_ (UG z K O w m hd _ b _ _ w j L I U (px.az w))
 intro e s k c
 obtain⟨B,H,u,J,T,W,c⟩:=c.aS
 have C:∀(c:XE h r H k.heap R),s.defers=[]/\∃D,(results i s.tmps).run g k=.ok D k/\∃F,Ending.returned D=.returned F/\px w k/\R F k.heap:=by
  intro c;refine⟨u.defers,?_⟩;obtain⟨l,n,p⟩:=IC z u r _ k J c;have Q:(results i s.tmps).run g k=.ok (if j:(l.map SV.v).toArray.size=1 then(l.map SV.v).toArray[0]else .tuple (l.map SV.v).toArray) k:=by
   rw[Rw,S,UW];simp only[Sem.run_bind,Sem.run_map];rw[p];rfl
  refine⟨_,Q,_,rfl,T,?_⟩;cases l with
  |nil=>exact n
  |cons V l=>cases l with
   |nil=>exact n
   |cons Y l=>exact n
 cases e with
 |normal=>exact C c
 |ret=>exact C c
 |exit V=>exact c.elim
 |goto V=>exact c.elim
 |panic m=>exact absurd rfl (B.1 m)
 |outgrown=>exact absurd rfl B.2
end Go.Vc
end
section
namespace Go.Vc
abbrev vi(n:Int):Value:=.int .i64 n
abbrev vb(b:Bool):Value:=.bool b
abbrev vp(b o:Nat):Value:=.pointer (some ⟨b,o,none⟩)
def OM(f:Func):Code:=
 match f.body with
 |some c=>c
 |none=>.skip
end Go.Vc
end
section
namespace Go.Vc
variable{a p:Prop}{m c d:E}{b o k f n:Nat}{v:Value}{l:List Nat}{s:O}{P:Program}{K e:Value->E->Prop}
structure J(m c:E):Prop where
 size:m.size<=c.size
 same:∀b,b<m.size->c[b]? =m[b]?
def J.az(m:E):J m m:=⟨ad _,λ_ _=>rfl⟩
def J.trans{a b c:E}(h:J a b)(k:J b c):J a c:=
 ⟨bI h.size k.size,λi d=>(k.same i (aO d h.size)).trans (h.same i d)⟩
def J.push(m:E)(o:Obj):J m (m.push o):=
 ⟨aL,λb a=>by rw[mQ,ae V]⟩
def J.aK{a:E}(h:J a m)(o:Obj):J a (m.push o):=h.trans (J.push m o)
def J.ah{a:E}(h:J a m)(d:a.size<=b)(o:Nat)(l:List Ce):J a (ah m b o l):=
 ⟨by rw[ax];exact h.size,λj c=>by rw[be l m b o V];exact h.same j c⟩
def J.af(h:J m c)(a:af m b o=some v):af c b o=some v:=by
 rw[aI (h.same b (mg a))];exact a
def J.iD(h:J m c){l:List Ce}(e:fQ m b o l):fQ c b o l:=λi a d=>h.af (e i a d)
def cF.ext(h:J m c){e:Nat}{l:List Ce}(a:cF m b e l):cF c b e l:=by
 unfold cF at*;rw[h.same b (Array.getElem?_eq_some_iff.1 a).1];exact a
structure eR{α:Type}(m:E)(sz:Nat)(R:List Ce->α->Prop)(s:O)(l:List α):Prop where
 len:s.len=l.length
 cap:s.len<=s.cap
 gW:s.len<=9223372036854775807
 iD:∀(k:Nat)(x:α),l[k]? =some x->∃cs,R cs x/\fQ m s.D (s.off+k*sz) cs
def eR.mono{α:Type}{d:Nat}{R b:List Ce->α->Prop}{l:List α}(h:eR m d R s l)(j:J m c)(g:∀a x,R a x->b a x):eR c d b s l:=
 ⟨h.len,h.cap,h.gW,λk x i=>let⟨a,e,f⟩:=h.iD k x i;⟨a,g _ _ e,j.iD f⟩⟩
def U6(a:List Ce)(n:Int):Prop:=a=[.i n]
abbrev ap(m:E)(s:O)(l:List Int):Prop:=eR m 1 U6 s l
def ap.aF{l:List Int}(h:ap m s l){x:Int}(a:l[k]? =some x):af m s.D (s.off+k*1)=some (vi x):=by
 obtain⟨c,rfl,b⟩:=h.iD k x a;exact b 0 (.i x) rfl
def ap.ext(a:J m c){l:List Int}(h:ap m s l):ap c s l:=h.mono a λ_ _ h=>h
def dB{α:Type}{l:List α}(h:k<l.length):∃x,l[k]? =some x:=⟨l[k],by simp[h]⟩
def cG{α:Type}(l:List α)(k:Nat)(h:k<l.length:=by(omega)):∃x,l[k]? =some x:=dB h
def oh(x:a)(h:a->p:=by(omega)):p:=h x
def PA{b:Prop}(x:a)(y:b)(h:a->b->p:=by(omega)):p:=h x y
def sx(h:a=False:=by(simp))(x:a):p:=(h▸x:False).elim
def aw{α:Type}{l:List α}{x:α}(h:l[k]? =some x):k<l.length:=(List.getElem?_eq_some_iff.1 h).1
def aT{α:Type}{l:List α}{x:α}(h:l[k]? =some x):l.take (k+1)=l.take k++[x]:=by
 rw[List.take_add_one,h];rfl
def bV{α:Type}{l:List α}(h:l.length<=k):l.take k=l:=nG h
def DZ(P:Program)(f:Nat)(a:List Value)(m:E)(v:Value):Prop:=aN P f a m λb c=>b=v/\J m c
def aN.post{a:List Value}(h:aN P f a m K)(b:∀v c,K v c->e v c):aN P f a m e:=h.mono b
def DZ.then{a:List Value}(h:DZ P f a m v)(d:∀c,J m c->K v c):aN P f a m K:=
 h.mono λ_ _⟨b,e⟩=>b▸d _ e
def O.BY{t:O}:s.v=t.v<->s=t:=by
 refine⟨λh=>?_,λh=>h▸rfl⟩;cases s<;>cases t<;>simp_all [O.v]
def J.dv(h:J m c)(d:∀b∈l,b<m.size):eI l m c:=λb a=>h.same b (d b a)
def J.lt(h:J m c)(a:b<m.size):b<c.size:=aO a h.size
def J.db(h:J m c)(a:Vc.af m b o=some v):Vc.af c b o=Vc.af m b o:=by rw[h.af a,a]
def kG(h:k<n)(a:n<=9223372036854775807):cU ((k:Int)+1)=((k+1:Nat):Int):=by rw[aP V V];rfl
def DK(h:k<n):((n:Int) -((k+1:Nat):Int)).toNat<((n:Int) -(k:Int)).toNat:=V
def dV(g:n<=9223372036854775807){d:(Int->E->Prop)->(Int->E->Nat)->Int->E->Prop}(Q:Nat->E->Prop)(e:Q 0 m)
 (h:∀(k:Nat)(a:E)(I:Int->E->Prop)(μ:Int->E->Nat),k<=n->Q k a->
  (k<n->∀c,Q (k+1) c->I (cU ((k:Int)+1)) c/\μ (cU ((k:Int)+1)) c<μ k a)->d I μ k a):
 ∃(I:Int->E->Prop)(μ:Int->E->Nat),I 0 m/\∀i a,I i a->d I μ i a:=by
 refine⟨λi c=>∃k:Nat,i=k/\k<=n/\Q k c,λi _=>(n -i).toNat,⟨0,rfl,dN _,e⟩,?_⟩
 rintro i a ⟨k,rfl,f,j⟩
 refine h k a _ _ f j λb c l=>?_
 rw[kG b g]
 exact⟨⟨k+1,rfl,b,l⟩,DK b⟩
def eu{σ:Type}(l:n<=9223372036854775807){f:σ}{e:(σ->Int->E->Prop)->(σ->Int->E->Nat)->σ->Int->E->Prop}(Q:Nat->σ->E->Prop)(g:Q 0 f m)
 (h:∀(k:Nat)(s:σ)(a:E)(I:σ->Int->E->Prop)(μ:σ->Int->E->Nat),k<=n->Q k s a->
  (k<n->∀b c,Q (k+1) b c->I b (cU ((k:Int)+1)) c/\μ b (cU ((k:Int)+1)) c<μ s k a)->e I μ s k a):
 ∃(I:σ->Int->E->Prop)(μ:σ->Int->E->Nat),I f 0 m/\∀s i a,I s i a->e I μ s i a:=by
 refine⟨λs i c=>∃k:Nat,i=k/\k<=n/\Q k s c,λ_ i _=>(n -i).toNat,⟨0,rfl,dN _,g⟩,?_⟩
 rintro s i a ⟨k,rfl,j,o⟩
 refine h k s a _ _ j o λd b c p=>?_
 rw[kG d l]
 exact⟨⟨k+1,rfl,d,p⟩,DK d⟩
def dq(P:Program)(f:Nat)(a:List Value)(m:E)(p:Prop):Prop:=aN P f a m λv c=>∃b:Bool,v=.bool b/\(b=true<->p)/\J m c
def dq.then{a:List Value}(h:dq P f a m p)(g:∀(b:Bool) c,(b=true<->p)->J m c->K (.bool b) c):aN P f a m K:=
 h.mono λ_ _⟨b,e,d,i⟩=>e▸g b _ d i
def dq.aG{e:List Value}(i:dq P f e m p)(g:J d m)(q:∀b∈l,b<d.size)
 (o:∀(b:Bool) c,(b=true<->p)->J m c->J d c->K (.bool b) c):aN P f e m λv c=>eI l m c/\K v c:=
 i.mono λ_ _⟨b,n,j,a⟩=>⟨a.dv λh k=>g.lt (q h k),n▸o b _ j a (g.trans a)⟩
def DZ.aG{e:List Value}(i:DZ P f e m v)(g:J d m)(o:∀b∈l,b<d.size)
 (n:∀c,J m c->J d c->K v c):aN P f e m λv c=>eI l m c/\K v c:=
 i.mono λ_ _⟨k,a⟩=>⟨a.dv λh j=>g.lt (o h j),k▸n _ a (g.trans a)⟩
def aN.aG{a:List Value}(j:aN P f a m K)(o:J d m)(n:∀b∈l,b<d.size)
 (g:∀v c,K v c->J m c/\e v c):aN P f a m λv c=>eI l m c/\e v c:=
 j.mono λv c h=>⟨(g v c h).1.dv λi k=>o.lt (n i k),(g v c h).2⟩
def eU{b:Bool}(h:b=true<->p)(d:J m c):∃a:Bool,Value.bool b=.bool a/\(a=true<->p)/\J m c:=⟨b,rfl,h,d⟩
def bW(h:¬p)(b:J m c):∃a:Bool,Value.bool false=.bool a/\(a=true<->p)/\J m c:=⟨false,rfl,by simp[h],b⟩
def iR(h:p)(b:J m c):∃a:Bool,Value.bool true=.bool a/\(a=true<->p)/\J m c:=⟨true,rfl,by simp[h],b⟩
def nb{b:Bool}(a:b=true<->p)(h:(!b)=true):¬p:=λc=>by simp[a.2 c]at h
def yb{b:Bool}(a:b=true<->p)(h:(!b)=false):p:=a.1 (by simpa using h)
def fb{b:Bool}(a:b=true<->p)(h:b=false):¬p:=λc=>by simp[a.2 c]at h
def bB{α:Type}{l:List α}{x:α}{p:α->Prop}(c:l[k]? =some x)(h:∀y∈l.take k,p y)(b:p x):∀y∈l.take (k+1),p y:=by
 rw[aT c];intro y a;rcases List.mem_append.1 a with a|a
 .exact h y a
 .simp at a;subst a;exact b
def de{α:Type}{l:List α}{p:α->Prop}(a:l.length<=k)(h:∀y∈l.take k,p y):∀y∈l,p y:=by rw[<-bV a];exact h
def aq{α:Type}{l:List α}{x:α}(h:l[k]? =some x):x∈l:=iA h
end Go.Vc
end
section
namespace Go.Vc
variable{m:E}{s:O}{k:Nat}
structure bz where
 sZ:Int
 to:Int
 cons:List (List Int)
structure Instr where
 op:Int
 dst:Int
 bP:Int
 bY:Int
 args:List Int
 eO:List Int
structure dy where
 params:List Int
 cW:List Int
 aU:Int
 ak:Int
 dt:List Instr
structure cQ where
 bo:List bz
 cJ:List dy
def mS(m:E)(a:List Ce)(c:List Int):Prop:=∃f,a=[.s f]/\ap m f c
def iO(m:E)(a:List Ce)(d:bz):Prop:=∃f,a=[.i d.sZ,.i d.to,.s f]/\eR m 1 (mS m) f d.cons
def dS(m:E)(b:List Ce)(x:Instr):Prop:=∃a j,b=[.i x.op,.i x.dst,.i x.bP,.i x.bY,.s a,.s j]/\ap m a x.args/\ap m j x.eO
def lx(m:E)(b:List Ce)(p:dy):Prop:=
 ∃a l c,b=[.s a,.s l,.i p.aU,.i p.ak,.s c]/\ap m a p.params/\ap m l p.cW/\eR m 6 (dS m) c p.dt
abbrev pp(m:E)(s:O)(l:List (List Int)):Prop:=eR m 1 (mS m) s l
abbrev cy(m:E)(s:O)(l:List bz):Prop:=eR m 3 (iO m) s l
abbrev fm(m:E)(s:O)(l:List Instr):Prop:=eR m 6 (dS m) s l
abbrev iJ(m:E)(s:O)(l:List dy):Prop:=eR m 5 (lx m) s l
structure fy(m:E)(d p:O)(im:cQ):Prop where
 bo:cy m d im.bo
 cJ:iJ m p im.cJ
def mS.ext{m b:E}(g:J m b)(a:List Ce)(c:List Int):mS m a c->mS b a c:=λ⟨f,d,e⟩=>⟨f,d,e.ext g⟩
def pp.ext{m b:E}(a:J m b){s:O}{l:List (List Int)}(h:pp m s l):pp b s l:=h.mono a (mS.ext a)
def iO.ext{m b:E}(g:J m b)(a:List Ce)(c:bz):iO m a c->iO b a c:=λ⟨f,d,e⟩=>⟨f,d,pp.ext g e⟩
def cy.ext{m b:E}(a:J m b){s:O}{l:List bz}(h:cy m s l):cy b s l:=h.mono a (iO.ext a)
def dS.ext{m d:E}(b:J m d)(a:List Ce)(c:Instr):dS m a c->dS d a c:=λ⟨e,j,f,g,h⟩=>⟨e,j,f,g.ext b,h.ext b⟩
def fm.ext{m b:E}(a:J m b){s:O}{l:List Instr}(h:fm m s l):fm b s l:=h.mono a (dS.ext a)
def lx.ext{m d:E}(a:J m d)(b:List Ce)(c:dy):lx m b c->lx d b c:=λ⟨e,l,c,f,g,h,i⟩=>⟨e,l,c,f,g.ext a,h.ext a,fm.ext a i⟩
def iJ.ext{m b:E}(a:J m b){s:O}{l:List dy}(h:iJ m s l):iJ b s l:=h.mono a (lx.ext a)
def fy.ext{m c:E}(a:J m c){d p:O}{b:cQ}(h:fy m d p b):fy c d p b:=⟨cy.ext a h.bo,iJ.ext a h.cJ⟩
def pp.aF{l:List (List Int)}(h:pp m s l){x:List Int}(b:l[k]? =some x):
 ∃f,ap m f x/\af m s.D (s.off+k*1)=some (O.v f):=by
 obtain⟨d,⟨f,rfl,a⟩,c⟩:=h.iD k x b
 exact⟨f,a,c 0 (.s f) rfl⟩
def cy.aF{l:List bz}(h:cy m s l){x:bz}(c:l[k]? =some x):
 ∃f,pp m f x.cons/\af m s.D (s.off+k*3)=some (vi x.sZ)/\af m s.D (s.off+k*3+1)=some (vi x.to)/\af m s.D (s.off+k*3+2)=some (O.v f):=by
 obtain⟨d,⟨f,rfl,b⟩,a⟩:=h.iD k x c
 exact⟨f,b,a 0 (.i x.sZ) rfl,a 1 (.i x.to) rfl,a 2 (.s f) rfl⟩
def fm.aF{l:List Instr}(h:fm m s l){x:Instr}(e:l[k]? =some x):
 ∃b j,ap m b x.args/\ap m j x.eO/\af m s.D (s.off+k*6)=some (vi x.op)/\af m s.D (s.off+k*6+1)=some (vi x.dst)/\af m s.D (s.off+k*6+2)=some (vi x.bP)/\
  af m s.D (s.off+k*6+3)=some (vi x.bY)/\af m s.D (s.off+k*6+4)=some (O.v b)/\af m s.D (s.off+k*6+5)=some (O.v j):=by
 obtain⟨f,⟨b,j,rfl,c,d⟩,a⟩:=h.iD k x e
 exact⟨b,j,c,d,a 0 (.i x.op) rfl,a 1 (.i x.dst) rfl,a 2 (.i x.bP) rfl,a 3 (.i x.bY) rfl,a 4 (.s b) rfl,a 5 (.s j) rfl⟩
def iJ.aF{l:List dy}(h:iJ m s l){x:dy}(i:l[k]? =some x):
 ∃a b c,ap m a x.params/\ap m b x.cW/\fm m c x.dt/\af m s.D (s.off+k*5)=some (O.v a)/\af m s.D (s.off+k*5+1)=some (O.v b)/\af m s.D (s.off+k*5+2)=some (vi x.aU)/\
  af m s.D (s.off+k*5+3)=some (vi x.ak)/\af m s.D (s.off+k*5+4)=some (O.v c):=by
 obtain⟨j,⟨a,b,c,rfl,e,f,g⟩,d⟩:=h.iD k x i
 exact⟨a,b,c,e,f,g,d 0 (.s a) rfl,d 1 (.s b) rfl,d 2 (.i x.aU) rfl,d 3 (.i x.ak) rfl,d 4 (.s c) rfl⟩
end Go.Vc
end
section
namespace Go.Vc
variable{g a:E}{f:Nat}{s:O}{l:List Ce}{d:List (List Ce)}
structure gZ(g a:E)(f sz:Nat)(s:O)(l:List Ce):Prop where
 len:l.length=s.len*sz
 aF:s=.nil\/∃b c tail,s=.mk b 0 s.len c/\g.size<=b/\cF a b f (l++tail)/\(l++tail).length=c*sz/\s.len<=c
def gZ.nil(g a:E)(f b:Nat):gZ g a f b .nil []:=⟨aL,Or.inl rfl⟩
def gZ.new(h:J g a)(f c:Nat)(l:List Ce)(k:Nat)(b:l.length=k*c):gZ g (a.push (.cells (bu l) f)) f c (.mk a.size 0 k k) l:=
 ⟨b,Or.inr ⟨a.size,k,[],rfl,h.size,by rw[dY];exact cF.push _ _ _,by simpa using b,ad _⟩⟩
def gZ.congr{g a d:E}{f e:Nat}{s:O}{l:List Ce}(h:gZ g a f e s l)(c:d[s.D]? =a[s.D]?):gZ g d f e s l:=by
 refine⟨h.len,?_⟩;rcases h.aF with b|⟨i,j,tail,b,h2,h3,h4,h5⟩
 .exact Or.inl b
 .refine Or.inr ⟨i,j,tail,b,h2,h3.congr ?_,h4,h5⟩;rw[b]at c;exact c
def gZ.lt{g a:E}{f c:Nat}{s:O}{l:List Ce}(h:gZ g a f c s l):s=.nil\/s.D<a.size:=by
 rcases h.aF with b|⟨d,e,tail,b,h2,h3,h4,h5⟩
 .exact Or.inl b
 .rw[b];exact Or.inr h3.lt
def gZ.ext{c:E}{d:Nat}(h:gZ g a f d s l)(e:J a c):gZ g c f d s l:=by
 rcases h.lt with b|b
 .subst b;exact⟨h.len,Or.inl rfl⟩
 .exact h.congr (e.same _ b)
def gZ.cz{c:E}{d:Nat}(h:gZ c a f d s l)(j:g.size<=c.size):gZ g a f d s l:=by
 refine⟨h.len,?_⟩;rcases h.aF with b|⟨e,i,tail,b,h2,h3,h4,h5⟩
 .exact Or.inl b
 .exact Or.inr ⟨e,i,tail,b,bI j h2,h3,h4,h5⟩
def gZ.D{c:Nat}(h:gZ g a f c s l):s=.nil\/g.size<=s.D:=by
 rcases h.aF with b|⟨d,e,tail,b,h2,h3,h4,h5⟩
 .exact Or.inl b
 .rw[b];exact Or.inr h2
def fQ.Np{b o:Nat}{r:List Ce}(h:fQ a b o (l++r)):fQ a b o l:=λi d c=>h i d (by rw[av (aw c)];exact c)
def gZ.iD{g a:E}{f e:Nat}{s:O}{l:List Ce}(h:gZ g a f e s l):fQ a s.D s.off l:=by
 rcases h.aF with b|⟨i,c,tail,b,h2,h3,h4,h5⟩
 .have:l=[]:=List.length_eq_zero_iff.1 (by rw[h.len,b];simp);subst this;intro j c d;simp at d
 .rw[b];exact h3.iD.Np
def Cq(l a tail:List Ce)(h:a.length<=tail.length):je (l++tail) l.length a=l++a++tail.drop a.length:=by
 apply gY;intro i;rw[wo];simp only[bd];by_cases b:l.length<=i/\i<l.length+a.length/\i<l.length+tail.length
 .rw[an b,fE,aJ b.1,av V]
 .rw[ae b];by_cases c:i<l.length
  .rw[av c,fE,av c]
  .rw[aJ V,fE,aJ V,aJ V,se];congr 1;omega
def gZ.append{zs:List Ce}{v:Nat}{x:O}{d:List Ce}{K:O->E->Prop}(j:gZ g a f zs.length s l)(p:J g a)
 (q:d.length=x.len*zs.length)(F:fQ a x.D x.off d)(t:(s.len+x.len)*v<=140737488355328)
 (u:∀k n,gZ g n f zs.length k (l++d)->J g n->k.len=s.len+x.len->a.size<=n.size->(∀c,c<a.size->(s≠.nil->c≠s.D)->n[c]? =a[c]?)->((s=.nil/\k=.nil)\/(s≠.nil/\k.D=s.D/\k≠.nil)\/k.D=a.size)->K k n):
 jN a f zs v s x K:=by
 refine⟨d,q,F,λC=>?_,λI=>⟨t,l,j.len,j.iD,λi y=>?_⟩⟩
 .rcases j.aF with h|⟨c,i,tail,h,h2,h3,h4,h5⟩
  .subst h
   have w:x.len=0:=by simpa using C
   have A:d=[]:=List.length_eq_zero_iff.1 (by rw[q,w];simp)
   subst A
   refine⟨λB z=>by simp at z,?_⟩
   exact u .nil _ ⟨by rw[dY];exact j.len,Or.inl rfl⟩ (by simpa[ah]using p) (by simp[w]) (ua (ax _ _ _ _).symm) (λc t _=>by simp[ah]) (Or.inl ⟨rfl,rfl⟩)
  .have z:=j.len
   have H:s.cap=i:=by rw[h];rfl
   rw[h]
   simp only[O.jC,O.mZ,O.gG,bT]
   simp only[bd]at h4
   have B:d.length<=tail.length:=by
    have A:(s.len+x.len)*zs.length<=i*zs.length:=dh _ V;rw[gQ]at A;omega
   refine⟨h3.fL (by simp only[bd];omega),?_⟩
   have w:=cF.ah (m:=a) (b:=c) (e:=f) (r:=d) (o:=s.len*zs.length) h3
   rw[<-z,Cq l d tail B]at w
   refine u _ _ ⟨?_,Or.inr ⟨c,i,tail.drop d.length,rfl,h2,?_,?_,?_⟩⟩ (p.ah h2 _ _) aL (ua (ax _ _ _ _).symm) (λG _ D=>be _ _ _ _ ?_) (Or.inr (Or.inl ⟨by rw[h];simp,by rw[h];rfl,aL⟩))
   .simp only[bd,O.gG,gQ];omega
   .rw[<-z];exact w
   .simp only[bd,List.length_drop];omega
   .simp only[O.gG];omega
   .have:=D (by rw[h];simp)
    rw[h]at this;exact this
 .refine u _ _ ⟨?_,Or.inr ⟨a.size,i,mK zs (i -(s.len+x.len)),rfl,p.size,cF.push _ _ _,?_,by simpa using y⟩⟩ (p.aK _) aL aL (λc t _=>by rw[mQ,ae V]) (Or.inr (Or.inr rfl))
  .simp only[bd,O.gG,gQ,j.len,q]
  .simp only[bd,rJ,j.len,q]
   rw[Nat.sub_mul,<-gQ]
   have:(s.len+x.len)*zs.length<=i*zs.length:=dh _ y
   omega
def ap.gA{l:List Int}(h:gZ g a f 1 s (l.map Ce.i))(n:l.length<=9223372036854775807):ap a s l:=by
 have i:s.len=l.length:=by have:=h.len;simp at this;omega
 refine⟨i,?_,V,λk x e=>⟨[.i x],rfl,λj d c=>?_⟩⟩
 .rcases h.aF with b|⟨m,d,tail,b,h2,h3,h4,h5⟩
  .rw[b];exact ad _
  .rw[b];exact h5
 .have b:j=0:=by have:=aw c;simp at this;omega
  subst b;simp at c;subst c;have:=h.iD k (.i x) (by simp[e]);simpa using this
def fW{g:Nat}:∀{d:List (List Ce)}(_:∀a∈d,a.length=g){b:Nat}{a:List Ce}(_:d[b]? =some a){i:Nat}{c:Ce}(_:a[i]? =some c),d.flatten[b*g+i]? =some c
 |[],_,b,a,h,_,_,_=>by simp at h
 |x::d,f,0,a,h,i,c,e=>by
  simp at h;subst h;rw[jE,QQ,bT,av (aw e)];exact e
 |x::d,f,b+1,a,h,i,c,e=>by
  have k:x.length=g:=f x bg;rw[jE,aJ (by rw[k,gQ];omega)];have:=fW (d:=d) (λy l=>f y (ai _ l)) (b:=b) (by simpa using h) e;rw[<-this];congr 1;rw[k,gQ];omega
def cx{b:Nat}:∀{d:List (List Ce)},(∀a∈d,a.length=b)->d.flatten.length=d.length*b
 |[],_=>aL
 |x::d,a=>by
  rw[jE,bd,cx (λy c=>a y (ai _ c)),a x bg,aY,gQ];omega
structure gS{α:Type}(sz:Nat)(R:List Ce->α->Prop)(d:List (List Ce))(l:List α):Prop where
 len:d.length=l.length
 size:∀cs∈d,cs.length=sz
 dz:∀(j:Nat)(cs:List Ce)(x:α),d[j]? =some cs->l[j]? =some x->R cs x
def gS.nil{α:Type}(a:Nat)(R:List Ce->α->Prop):gS a R [] []:=⟨rfl,aL,aL⟩
def gS.yS{α:Type}{f:Nat}{R:List Ce->α->Prop}{l:List α}(h:gS f R d l){cs:List Ce}{x:α}(i:cs.length=f)(k:R cs x):gS f R (d++[cs]) (l++[x]):=by
 refine⟨by simp[h.len],λe a=>?_,λj e y a b=>?_⟩
 .rcases List.mem_append.1 a with a|a
  .exact h.size e a
  .simp at a;subst a;exact i
 .rcases aW j d.length with c|c
  .rw[av c]at a;rw[av (h.len▸c)]at b;exact h.dz j e y a b
  .rw[aJ c]at a;rw[aJ (by rw[<-h.len];exact c),<-h.len]at b;have g:j -d.length=0:=by have:=aw a;simp at this;omega
   rw[g]at a b;simp at a b;subst a;subst b;exact k
def gS.mono{α:Type}{c:Nat}{R b:List Ce->α->Prop}{l:List α}(h:gS c R d l)(g:∀a x,R a x->b a x):gS c b d l:=
 ⟨h.len,h.size,λj a x e f=>g _ _ (h.dz j a x e f)⟩
def eR.gA{α:Type}{e:Nat}{R:List Ce->α->Prop}{l:List α}(h:gZ g a f e s d.flatten)(c:gS e R d l)(q:0<e)(t:l.length<=9223372036854775807):eR a e R s l:=by
 have p:s.len=l.length:=by
  have b:=h.len;rw[cx c.size]at b;have:=UO q b;rw[<-this,c.len]
 refine⟨p,?_,V,λk x n=>?_⟩
 .rcases h.aF with b|⟨j,i,tail,b,h2,h3,h4,h5⟩
  .rw[b];exact ad _
  .rw[b];exact h5
 .let⟨j,m⟩:=cG d k (by rw[c.len];exact aw n);refine⟨j,c.dz k j x m n,λr i o=>?_⟩;have:=h.iD (k*e+r) i (fW c.size m o);rwa[<-dj]at this
end Go.Vc
end
section
namespace Go.Vc
variable{S c:List Nat}{m a d:E}{b o e:Nat}{l:List Ce}{s:O}
def bH(S:List Nat)(m:E):E:=m.mapIdx λb o=>if b∈S then .cells #[] 0 else o
def Le(M a:E):Prop:=∀b o v,af M b o=some v->af a b o=some v
def eT{v:Value}:af (bH S m) b o=some v<->b∉S/\af m b o=some v:=by
 unfold af bH;rw[Ye];cases h:m[b]? with
 |none=>simp
 |some x=>by_cases a:b∈S<;>simp[a]
def Le.az(m:E):Le m m:=λ_ _ _ h=>h
def Le.trans{a b c:E}(h:Le a b)(k:Le b c):Le a c:=λx o v d=>k x o v (h x o v d)
def J.le(h:J m a):Le m a:=λ_ _ _ b=>h.af b
def bA(S:List Nat)(m:E):Le (bH S m) m:=λ_ _ _ h=>(eT.1 h).2
def pG(h:∀b,b<m.size->b∉S->b∉c/\a[b]? =m[b]?):Le (bH S m) (bH c a):=λb o v i=>by
 let⟨e,d⟩:=eT.1 i;let⟨f,g⟩:=h b (mg d) e;exact eT.2 ⟨f,by rw[aI g];exact d⟩
def J.bH(h:J m a)(d:∀b∈c,b∈S\/m.size<=b):Le (bH S m) (bH c a):=
 pG λb e g=>⟨λf=>(d b f).elim g λh=>V,h.same b e⟩
def J.dg(h:J m a)(S:List Nat):Le (Vc.bH S m) (Vc.bH S a):=h.bH λ_ b=>Or.inl b
def iV(m:E)(a:∀b∈c,b∈S):Le (bH S m) (bH c m):=(J.az m).bH λb d=>Or.inl (a b d)
def Le.iD{M a:E}(h:Le M a)(e:fQ M b o l):fQ a b o l:=λi c d=>h _ _ _ (e i c d)
def eR.le{α:Type}{d:Nat}{R c:List Ce->α->Prop}{l:List α}(h:eR m d R s l)(j:Le m a)(g:∀b x,R b x->c b x):eR a d c s l:=
 ⟨h.len,h.cap,h.gW,λk x i=>let⟨b,e,f⟩:=h.iD k x i;⟨b,g _ _ e,j.iD f⟩⟩
def ap.le{m a:E}(b:Le m a){s:O}{l:List Int}(h:ap m s l):ap a s l:=eR.le h b λ_ _ h=>h
def mS.le{m a:E}(g:Le m a)(b:List Ce)(c:List Int):mS m b c->mS a b c:=λ⟨f,d,e⟩=>⟨f,d,e.le g⟩
def iO.le{m a:E}(d:Le m a)(b:List Ce)(c:bz):iO m b c->iO a b c:=λ⟨f,e,g⟩=>⟨f,e,eR.le g d (mS.le d)⟩
def cy.le{m a:E}(b:Le m a){s:O}{l:List bz}(h:cy m s l):cy a s l:=eR.le h b (iO.le b)
def KI(a:b∉S)(h:fQ m b o l):fQ (bH S m) b o l:=λi c d=>eT.2 ⟨a,h i c d⟩
def eR.Rp{α:Type}{a:Nat}{R:List Ce->α->Prop}{c:List (List Ce)}{l:List α}(o:∀b∈S,b<d.size)(h:gZ d m e a s c.flatten)(q:gS a R c l)(r:0<a)(p:l.length<=9223372036854775807):eR (bH S m) a R s l:=by
 have H:=eR.gA h q r p;refine⟨H.len,H.cap,H.gW,λt x i=>?_⟩;let⟨j,k,n⟩:=H.iD t x i;rcases h.D with f|f
 .have g:=H.len;have:=aw i;rw[f]at g;simp at g;omega
 .exact⟨j,k,KI (λg=>oh (o _ g)) n⟩
def ap.Rp{l:List Int}(k:∀b∈S,b<d.size)(h:gZ d m e 1 s (l.map Ce.i))(n:l.length<=9223372036854775807):ap (bH S m) s l:=by
 have H:=ap.gA h n;refine⟨H.len,H.cap,H.gW,λo x f=>?_⟩;let⟨g,i,j⟩:=H.iD o x f;rcases h.D with a|a
 .have c:=H.len;have:=aw f;rw[a]at c;simp at c;omega
 .exact⟨g,i,KI (λc=>oh (k _ c)) j⟩
end Go.Vc
end
section
namespace Go.Vc
variable{X Y S:List Nat}{a b c m d:E}{f:List Ce}{s:O}{k:Nat}
structure Fz(X:List Nat)(m d:E):Prop where
 size:m.size<=d.size
 same:∀b,b<m.size->b∉X->d[b]? =m[b]?
def Fz.az(X:List Nat)(m:E):Fz X m m:=⟨ad _,λ_ _ _=>rfl⟩
def Fz.sa(h:Fz X a b)(k:Fz Y b c)(g:∀y∈Y,y∈X\/a.size<=y):Fz X a c:=
 ⟨bI h.size k.size,λi d e=>(k.same i (aO d h.size) λf=>(g i f).elim e λh=>V).trans (h.same i d e)⟩
def Fz.trans(h:Fz X a b)(k:Fz X b c):Fz X a c:=h.sa k λ_ d=>Or.inl d
def J.fz(h:J m d)(X:List Nat):Fz X m d:=⟨h.size,λb a _=>h.same b a⟩
def Fz.then(h:Fz X a b)(k:J b c):Fz X a c:=h.trans (k.fz X)
def Fz.push{X:List Nat}{a m:E}(h:Fz X a m)(o:Obj):Fz X a (m.push o):=h.then (J.push m o)
def Fz.ext(h:Fz [] m d):J m d:=⟨h.size,λb a=>h.same b a aL⟩
def Fz.DU(h:Fz X m d)(f:∀b∈X,b∈Y\/m.size<=b):Fz Y m d:=⟨h.size,λb a e=>h.same b a λc=>(f b c).elim e λh=>V⟩
def Fz.ah(h:Fz X a m){b:Nat}(c:b∈X\/a.size<=b)(o:Nat)(l:List Ce):Fz X a (ah m b o l):=
 ⟨by rw[ax];exact h.size,λj f d=>by
  have e:j≠b:=λe=>by subst e;exact c.elim d λc=>V
  rw[be l m b o e];exact h.same j f d⟩
def Fz.bH(h:Fz X m d){a:List Nat}(f:∀b∈X,b∈S)(e:∀b∈a,b∈S\/m.size<=b):Le (bH S m) (bH a d):=
 pG λb g c=>⟨λi=>(e b i).elim c λh=>V,h.same b g λj=>c (f b j)⟩
def Fz.dg(h:Fz X m d)(a:∀b∈X,b∈S):Le (Vc.bH S m) (Vc.bH S d):=h.bH a λ_ h=>Or.inl h
def Fz.dv(h:Fz X m d){l:List Nat}(c:∀b∈l,b<m.size/\b∉X):eI l m d:=λb a=>h.same b (c b a).1 (c b a).2
inductive Ex where
 |mk (op bP:Int) (bC:List Ex)
def Ex.op:Ex->Int| .mk o _ _=>o
def Ex.bP:Ex->Int| .mk _ n _=>n
def Ex.bC:Ex->List Ex| .mk _ _ k=>k
structure MU(β:Type)where
 op:Int
 bP:Int
 bY:Int
 args:List Int
 bC:List β
inductive Bk where
 |mk (aD:List (MU Bk)) (aU:Int)
abbrev cY:=MU Bk
def Bk.aD:Bk->List cY| .mk s _=>s
def Bk.aU:Bk->Int| .mk _ r=>r
@[simp] theorem Ex.Wj (o n:Int) (k:List Ex):(Ex.mk o n k).op=o:=rfl
@[simp] theorem Ex.Us (o n:Int) (k:List Ex):(Ex.mk o n k).bP=n:=rfl
@[simp] theorem Ex.Sk (o n:Int) (k:List Ex):(Ex.mk o n k).bC=k:=rfl
@[simp] theorem Bk.jV (s:List cY) (r:Int):(Bk.mk s r).aD=s:=rfl
@[simp] theorem Bk.jw (s:List cY) (r:Int):(Bk.mk s r).aU=r:=rfl
inductive Cc(m:E):List Ce->Ex->Prop
 |mk (op bP:Int) (bC:List Ex) (s:O) (css:Nat->List Ce) (hl:s.len=bC.length) (hc:s.len<=s.cap) (hm:s.len<=9223372036854775807)
  (hr:∀(k:Nat)(x:Ex),bC[k]? =some x->fQ m s.D (s.off+k*3) (css k)) (hk:∀(k:Nat)(x:Ex),bC[k]? =some x->Cc m (css k) x):Cc m [.i op,.i bP,.s s] (.mk op bP bC)
inductive rO(m:E):List Ce->Bk->Prop
 |mk (aD:List (MU Bk)) (r:Int) (s:O) (hl:s.len=aD.length) (hc:s.len<=s.cap) (hm:s.len<=9223372036854775807) (aa ks:Nat->O) (kcs:Nat->Nat->List Ce)
  (hr:∀(k:Nat)(x:MU Bk),aD[k]? =some x->fQ m s.D (s.off+k*5) [.i x.op,.i x.bP,.i x.bY,.s (aa k),.s (ks k)]/\ap m (aa k) x.args/\(ks k).len=x.bC.length/\(ks k).len<=(ks k).cap/\(ks k).len<=9223372036854775807)
  (hb:∀(k:Nat)(x:MU Bk)(j:Nat)(b:Bk),aD[k]? =some x->x.bC[j]? =some b->fQ m (ks k).D ((ks k).off+j*2) (kcs k j))
  (hk:∀(k:Nat)(x:MU Bk)(j:Nat)(b:Bk),aD[k]? =some x->x.bC[j]? =some b->rO m (kcs k j) b):rO m [.s s,.i r] (.mk aD r)
def gF(m:E)(f:List Ce)(x:cY):Prop:=∃a k,f=[.i x.op,.i x.bP,.i x.bY,.s a,.s k]/\ap m a x.args/\eR m 2 (rO m) k x.bC
abbrev fH(m:E)(s:O)(l:List Ex):Prop:=eR m 3 (Cc m) s l
abbrev eS(m:E)(s:O)(l:List cY):Prop:=eR m 5 (gF m) s l
abbrev nI(m:E)(s:O)(l:List Bk):Prop:=eR m 2 (rO m) s l
def Cc.le(h:Le m d){e:Ex}(a:Cc m f e):Cc d f e:=by
 induction a with
 |mk n bP bC s b g c i a o l=>exact .mk n bP bC s b g c i (λk x j=>h.iD (a k x j)) l
def rO.le{m d:E}(h:Le m d){f:List Ce}{b:Bk}(a:rO m f b):rO d f b:=by
 induction a with
 |mk aD t s o n p e ks r a l u q=>
  exact .mk aD t s o n p e ks r (λk x c=>let⟨g,i,j⟩:=a k x c;⟨h.iD g,i.le h,j⟩) (λk x j b c g=>h.iD (l k x j b c g)) q
def eR.choose{α:Type}{m:E}{a:Nat}{R:List Ce->α->Prop}{s:O}{l:List α}(h:eR m a R s l):
 ∃b:Nat->List Ce,∀(k:Nat)(x:α),l[k]? =some x->R (b k) x/\fQ m s.D (s.off+k*a) (b k):=by
 have:∀k:Nat,∃f:List Ce,∀x:α,l[k]? =some x->R f x/\fQ m s.D (s.off+k*a) f:=λk=>by
  cases e:l[k]? with
  |none=>exact⟨[],λx c=>by simp at c⟩
  |some x=>obtain⟨f,d⟩:=h.iD k x e;exact⟨f,λy c=>by simp at c;exact c▸d⟩
 exact⟨λk=>Classical.choose (this k),λk=>fN (this k)⟩
def Cc.aS{e:Ex}(h:Cc m f e):∃s,f=[.i e.op,.i e.bP,.s s]/\fH m s e.bC:=by
 cases h with
 |mk l bP bC s b g c i j d=>exact⟨s,rfl,g,c,i,λk x a=>⟨b k,d k x a,j k x a⟩⟩
def Cc.of{b bP:Int}{bC:List Ex}(h:fH m s bC):Cc m [.i b,.i bP,.s s] (.mk b bP bC):=by
 let⟨d,c⟩:=h.choose;exact .mk b bP bC s d h.len h.cap h.gW (λk x a=>(c k x a).2) λk x a=>(c k x a).1
def rO.aS{b:Bk}(h:rO m f b):∃s,f=[.s s,.i b.aU]/\eS m s b.aD:=by
 cases h with
 |mk aD w s r p t d ks v u o q=>
  exact⟨s,rfl,r,p,t,λk x a=>let⟨e,g,i,l,n⟩:=u k x a;⟨_,⟨d k,ks k,rfl,g,i,l,n,λj b c=>⟨v k j,q k x j b a c,o k x j b a c⟩⟩,e⟩⟩
def rO.of{r:Int}{aD:List cY}(h:eS m s aD):rO m [.s s,.i r] (.mk aD r):=by
 let⟨n,l⟩:=h.choose;have:∀k:Nat,∃(a c:O)(kc:Nat->List Ce),∀x:cY,aD[k]? =some x->n k=[.i x.op,.i x.bP,.i x.bY,.s a,.s c]/\ap m a x.args/\(c.len=x.bC.length/\c.len<=c.cap/\c.len<=9223372036854775807)/\
  ∀(j:Nat)(b:Bk),x.bC[j]? =some b->rO m (kc j) b/\fQ m c.D (c.off+j*2) (kc j):=λk=>by
  cases o:aD[k]? with
  |none=>exact⟨.nil,.nil,λ_=>[],λx d=>by simp at d⟩
  |some x=>
   obtain⟨⟨a,c,f,g,e⟩,_⟩:=l k x o
   let⟨kc,p⟩:=e.choose
   exact⟨a,c,kc,λy i=>by simp at i;subst i;exact⟨f,g,⟨e.len,e.cap,e.gW⟩,p⟩⟩
 have H:=λk=>fN (fN (fN (this k)));refine .mk aD r s h.len h.cap h.gW (λk=>Classical.choose (this k)) (λk=>Classical.choose (fN (this k))) (λk=>Classical.choose (fN (fN (this k)))) (λk x d=>?_) (λk x j b d i=>((H k x d).2.2.2 j b i).2) λk x j b d i=>((H k x d).2.2.2 j b i).1;obtain⟨f,g,e,_⟩:=H k x d;exact⟨by rw[<-f];exact(l k x d).2,g,e⟩
def gF.le{m d:E}(h:Le m d){f:List Ce}{x:cY}:gF m f x->gF d f x:=λ⟨a,k,b,c,e⟩=>⟨a,k,b,c.le h,eR.le e h λ_ _=>rO.le h⟩
def fH.le{m d:E}(a:Le m d){s:O}{l:List Ex}(h:fH m s l):fH d s l:=eR.le h a λ_ _=>Cc.le a
def eS.le{m d:E}(a:Le m d){s:O}{l:List cY}(h:eS m s l):eS d s l:=eR.le h a λ_ _=>gF.le a
def nI.le{m d:E}(a:Le m d){s:O}{l:List Bk}(h:nI m s l):nI d s l:=eR.le h a λ_ _=>rO.le a
def fH.aF{l:List Ex}(h:fH m s l){x:Ex}(b:l[k]? =some x):
 ∃t,fH m t x.bC/\af m s.D (s.off+k*3)=some (vi x.op)/\af m s.D (s.off+k*3+1)=some (vi x.bP)/\af m s.D (s.off+k*3+2)=some (O.v t):=by
 let⟨f,d,a⟩:=h.iD k x b
 obtain⟨t,rfl,c⟩:=d.aS
 exact⟨t,c,a 0 _ rfl,a 1 _ rfl,a 2 _ rfl⟩
def eS.aF{l:List cY}(h:eS m s l){x:cY}(e:l[k]? =some x):
 ∃a t,ap m a x.args/\nI m t x.bC/\af m s.D (s.off+k*5)=some (vi x.op)/\af m s.D (s.off+k*5+1)=some (vi x.bP)/\af m s.D (s.off+k*5+2)=some (vi x.bY)/\af m s.D (s.off+k*5+3)=some (O.v a)/\af m s.D (s.off+k*5+4)=some (O.v t):=by
 obtain⟨f,⟨a,t,rfl,c,d⟩,b⟩:=h.iD k x e
 exact⟨a,t,c,d,b 0 _ rfl,b 1 _ rfl,b 2 _ rfl,b 3 _ rfl,b 4 _ rfl⟩
def nI.aF{l:List Bk}(h:nI m s l){x:Bk}(b:l[k]? =some x):
 ∃t,eS m t x.aD/\af m s.D (s.off+k*2)=some (O.v t)/\af m s.D (s.off+k*2+1)=some (vi x.aU):=by
 let⟨f,d,a⟩:=h.iD k x b
 obtain⟨t,rfl,c⟩:=d.aS
 exact⟨t,c,a 0 _ rfl,a 1 _ rfl⟩
def Bk.w:Bk->Nat
 | .mk aD _=>1+(aD.map λs=>1+s.args.length+(s.bC.map Bk.w).sum).sum
decreasing_by
 rename_i s a _ _
 have b:=oO a
 have c:=oO (by assumption:_∈s.bC)
 have d:SizeOf.sizeOf s.bC<SizeOf.sizeOf s:=by cases s;simp;omega
 simp;omega
def MU.w(s:MU Bk):Nat:=1+s.args.length+(s.bC.map Bk.w).sum
def Bk.Zw(b:Bk):b.w=1+(b.aD.map MU.w).sum:=by
 cases b;rw[Bk.w];rfl
def Ex.n:Ex->Nat
 | .mk _ _ bC=>1+(bC.map Ex.n).sum
end Go.Vc
end
section
namespace Go.Vc
variable{S Y S' X:List Nat}{d a c:E}{b k n h tb:Nat}{s x:O}{g cs i:List Ce}{f:List (List Ce)}{K:O->E->Prop}
structure oD{α:Type}(sz:Nat)(R:E->List Ce->α->Prop):Prop where
 le:∀{M M':E}{cs:List Ce}{x:α},Le M M'->R M cs x->R M' cs x
 len:∀{M:E}{cs:List Ce}{x:α},R M cs x->cs.length=sz
def uc(_:E)(cs:List Ce)(n:Int):Prop:=U6 cs n
def uc.mono:oD 1 uc:=⟨λ_ h=>h,λh=>by rw[h];rfl⟩
def Cc.mono:oD 3 Cc:=⟨λh=>Cc.le h,λh=>by obtain⟨s,rfl,_⟩:=h.aS;rfl⟩
def rO.mono:oD 2 rO:=⟨λh=>rO.le h,λh=>by obtain⟨s,rfl,_⟩:=h.aS;rfl⟩
def gF.mono:oD 5 gF:=⟨λh=>gF.le h,λh=>by obtain⟨_,_,rfl,_⟩:=h;rfl⟩
structure Gr{α:Type}(S:List Nat)(d a:E)(b sz:Nat)(R:E->List Ce->α->Prop)(s:O)(l:List α):Prop where
 iZ:s≠.nil
 aR:∃f,gZ d a b sz s f.flatten/\gS sz (R (bH (s.D::S) a)) f l
def Gr.len{α:Type}{S:List Nat}{d a:E}{b e:Nat}{R:E->List Ce->α->Prop}{s:O}{l:List α}(h:Gr S d a b e R s l)(i:0<e):s.len=l.length:=by
 obtain⟨_,f,g,c⟩:=h;have:=g.len;rw[cx c.size]at this;rw[<-c.len,UO i this]
def Gr.bn{α:Type}{g:Nat}{R:E->List Ce->α->Prop}{l:List α}(h:Gr S d a b g R s l):d.size<=s.D/\s.D<a.size:=by
 let⟨c,f,e,i⟩:=h;exact⟨e.D.resolve_left c,e.lt.resolve_left c⟩
def Gr.new{α:Type}(S:List Nat){d a:E}(h:d.size<=a.size)(b c:Nat)(R:E->List Ce->α->Prop):Gr S d (a.push (.cells (bu []) b)) b c R (.mk a.size 0 0 0) []:=
 ⟨aL,[],(gZ.new (J.az a) b c [] 0 aL).cz h,gS.nil _ _⟩
def Gr.eB{α:Type}{g:Nat}{R:E->List Ce->α->Prop}{l:List α}(o:oD g R)(h:Gr S d a b g R s l)(j:Fz Y a c)(i:∀e∈Y,e∈S/\e<d.size):Gr S d c b g R s l:=by
 have q:=h.bn;let⟨k,f,m,n⟩:=h;refine⟨k,f,m.congr (j.same _ q.2 λp=>oh ((i _ p).2)),n.mono λcs x=>o.le ?_⟩;exact j.dg λe p=>ai _ (i e p).1
def Gr.N4{α:Type}{g:Nat}{R:E->List Ce->α->Prop}{l:List α}(n:oD g R)(h:Gr S d a b g R s l)(i:Fz Y a c)(o:∀e∈Y,e∈S)(q:s.D∉Y):Gr S d c b g R s l:=by
 have r:=h.bn;let⟨j,f,k,m⟩:=h;exact⟨j,f,k.congr (i.same _ r.2 q),m.mono λcs x=>n.le (i.dg λe p=>ai _ (o e p))⟩
def Gr.re{α:Type}{h:Nat}{R:E->List Ce->α->Prop}{l:List α}(o:oD h R)(i:Gr S d a b h R s l)(j:Fz Y a c)(q:∀e∈Y,e∈S)(r:s.D∉Y)(p:∀e∈S',e∈S\/a.size<=e):Gr S' d c b h R s l:=by
 have t:=i.bn;let⟨k,f,m,n⟩:=i;refine⟨k,f,m.congr (j.same _ t.2 r),n.mono λcs x=>o.le (j.bH (λe g=>ai _ (q e g)) λe g=>?_)⟩;rcases List.mem_cons.1 g with g|g
 .exact Or.inl (by rw[g];exact bg)
 .exact(p e g).imp (ai _) id
def Gr.ext{α:Type}{e:Nat}{R:E->List Ce->α->Prop}{l:List α}(f:oD e R)(h:Gr S d a b e R s l)(g:J a c):Gr S d c b e R s l:=
 h.eB f (g.fz []) aL
def Gr.done{α:Type}{c:Nat}{R:E->List Ce->α->Prop}{l:List α}(j:oD c R)(h:Gr S d a b c R s l)(k:∀e∈S,e<d.size)(o:0<c)(n:l.length<=9223372036854775807):eR (bH S a) c (R (bH S a)) s l:=by
 obtain⟨_,f,g,i⟩:=h;exact eR.Rp k g (i.mono λcs x=>j.le (iV a λe m=>ai _ m)) o n
def J.Np(h:k<=a.size):J (a.extract 0 k) a:=by
 refine⟨bF,λb c=>?_⟩;have d:b<k:=by simp at c;omega
 rw[Array.getElem?_extract];simp;omega
def mh(h:k<=a.size):(a.extract 0 k).size=k:=bF
def Gr.next{α:Type}{F:Nat}{R:E->List Ce->α->Prop}{C D:List α}(G:oD g.length R)(W:0<g.length)
 (y:Gr S d a b g.length R s C)(H:Fz X d a)(u:x.len=f.length)(T:fQ a x.D x.off f.flatten)(n:gS g.length (R (bH (s.D::S) a)) f D)(i:(C.length+D.length)*F<=140737488355328)
 (P:∀r c,Gr S d c b g.length R r (C++D)->Fz X d c->(a.size<=c.size/\(r.D=s.D\/a.size<=r.D))->(∀e,e<a.size->e≠s.D->c[e]? =a[e]?)->K r c):jN a b g F s x K:=by
 have Q:=y.len W
 have hy:=y.bn
 let⟨z,w,O,j⟩:=y
 have q:d.size<=a.size:=H.size
 refine gZ.append (g:=a.extract 0 d.size) (zs:=g) (d:=f.flatten) (l:=w.flatten) (O.cz (by rw[mh q];exact ad _)) (J.Np q) ?_ T (by rw[Q,u,n.len];exact i) λr c Y k2 k3 Z k5 B=>?_
 .rw[cx n.size,u]
 have A:∀e,e<a.size->e≠s.D->c[e]? =a[e]? :=λe i k=>k5 e i λ_=>k
 have U:r≠.nil:=by
  rcases B with⟨h,_⟩|⟨_,_,h⟩|h
  .exact absurd h z
  .exact h
  .intro b;rw[b]at h;simp at h;omega
 have L:a.size<=c.size:=Z
 have I:Le (bH (s.D::S) a) (bH (r.D::S) c):=pG λe i k=>by
  simp only[aV,vG]at k;refine⟨?_,A e i k.1⟩;simp only[aV,vG];refine⟨?_,k.2⟩;rcases B with⟨h,_⟩|⟨_,h,_⟩|h
  .exact absurd h z
  .rw[h];exact k.1
  .omega
 refine P r c ⟨U,w++f,?_,?_⟩ ⟨bI q L,λe i u=>?_⟩ ⟨L,?_⟩ A
 .rw[qM]
  exact Y.cz (by rw[mh q];exact ad _)
 .refine⟨by simp[j.len,n.len],λm o=>?_,λM m N t v=>?_⟩
  .rcases List.mem_append.1 o with o|o
   .exact j.size m o
   .exact n.size m o
  .rcases aW M w.length with p|p
   .rw[av p]at t
    rw[av (j.len▸p)]at v
    exact G.le I (j.dz M m N t v)
   .rw[aJ p]at t
    rw[aJ (by rw[<-j.len];exact p),<-j.len]at v
    exact G.le I (n.dz _ m N t v)
 .rw[A e (aO i q) V];exact H.same e i u
 .rcases B with⟨h,_⟩|⟨_,h,_⟩|h
  .exact absurd h z
  .exact Or.inl h
  .exact Or.inr V
def Gr.kM{α:Type}{n:Nat}{R:E->List Ce->α->Prop}{m:List α}{k:α}(i:oD g.length R)(z:0<g.length)
 (q:Gr S d a b g.length R s m)(w:Fz X d a)(p:R (bH (s.D::S) a) cs k)(j:(m.length+1)*n<=140737488355328)
 (x:∀r c,Gr S d c b g.length R r (m++[k])->Fz X d c->(a.size<=c.size/\(r.D=s.D\/a.size<=r.D))->(∀f,f<a.size->f≠s.D->c[f]? =a[f]?)->K r c):jN (a.push (.cells (bu cs) b)) b g n s (.mk a.size 0 1 1) K:=by
 have h:=J.push a (.cells (bu cs) b)
 refine Gr.next (f:=[cs]) (D:=[k]) i z (q.ext i h) (w.then h) rfl ?_ ?_ j λr c t u o v=>x r c t u ⟨bI h.size o.1,o.2.imp id (bI h.size)⟩ λf j y=>(v f (aO j h.size) y).trans (h.same f j)
 .have:=(cF.push a (e:=b) (l:=cs)).iD
  simpa using this
 .have:=gS.yS (gS.nil g.length (R (bH (s.D::S) (a.push (.cells (bu cs) b))))) (i.len p) (i.le (h.dg _) p)
  simpa using this
def eR.Wl{α:Type}{b:Nat}{R:List Ce->α->Prop}{l:List α}(z:∀cs x,R cs x->cs.length=b)(r:eR a b R s l):
 ∃f,s.len=f.length/\fQ a s.D s.off f.flatten/\gS b R f l:=by
 let⟨e,k⟩:=r.choose
 have w:∀(c:Nat)(cs:List Ce),((List.range l.length).map e)[c]? =some cs->c<l.length/\cs=e c:=λc cs d=>by
  simp only[cK,jH]at d;let⟨E,o,B⟩:=d;let⟨t,u⟩:=List.getElem?_eq_some_iff.1 o;simp at t u;subst u;exact⟨t,B.symm⟩
 have m:∀cs∈(List.range l.length).map e,cs.length=b:=λcs D=>by
  let⟨c,d⟩:=List.mem_iff_getElem?.1 D;obtain⟨o,rfl⟩:=w c cs d;let⟨x,h⟩:=dB o;exact z _ _ (k c x h).1
 refine⟨(List.range l.length).map e,by simp[r.len],λi A q=>?_,aL,m,λc cs x d h=>?_⟩
 .rcases j7 b with n|n
  .have g:=aw q
   rw[cx m,n]at g;simp at g
  have g:=aw q
  rw[cx m]at g
  simp at g
  have d:i/b<l.length:=Nat.div_lt_of_lt_mul (by rw[Nat.mul_comm];exact g)
  let⟨x,h⟩:=dB d
  have y:i=i/b*b+i%b:=by rw[Nat.mul_comm];exact(Nat.div_add_mod i b).symm
  have H:=Nat.mod_lt i n
  have G:(e (i/b)).length=b:=z _ _ (k _ x h).1
  let⟨F,v⟩:=cG (e (i/b)) (i%b)
  have p:=fW (d:=(List.range l.length).map e) m (b:=i/b) (a:=e (i/b)) (by simp[d]) v
  rw[<-y,q]at p
  simp at p;subst p
  have C:=(k _ x h).2 _ A v
  rw[y,<-dj];exact C
 .obtain⟨_,rfl⟩:=w c cs d
  exact(k c x h).1
def Gr.all{α:Type}{j:Nat}{R:E->List Ce->α->Prop}{l i:List α}(k:oD g.length R)(v:0<g.length)
 (h:Gr S d a b g.length R s l)(t:Fz X d a)(p:eR (bH (s.D::S) a) g.length (R (bH (s.D::S) a)) x i)(q:(l.length+i.length)*j<=140737488355328)
 (u:∀r c,Gr S d c b g.length R r (l++i)->Fz X d c->(a.size<=c.size/\(r.D=s.D\/a.size<=r.D))->(∀e,e<a.size->e≠s.D->c[e]? =a[e]?)->K r c):jN a b g j s x K:=by
 let⟨f,m,n,o⟩:=p.Wl λ_ _ h=>k.len h
 exact Gr.next k v h t m ((bA _ _).iD n) o q u
def Gr.lit{α:Type}{e:Nat}{R:E->List Ce->α->Prop}{l:List α}(j:oD e R)(i:d.size<=a.size)(p:∀g∈S,g<d.size)(k:cs=f.flatten)(m:n=f.length)(h:gS e (R (bH S a)) f l):
 Gr S d (a.push (.cells (bu cs) b)) b e R (.mk a.size 0 n n) l:=by
 subst k m
 refine⟨aL,f,(gZ.new (J.az a) b e f.flatten f.length (cx h.size)).cz i,h.mono λo x=>j.le ?_⟩
 exact(J.push a _).bH λg c=>by
  rcases List.mem_cons.1 c with c|c
  .exact Or.inr (by simp[c])
  .exact Or.inl c
def Gr.nK{α:Type}{c:Nat}{R:E->List Ce->α->Prop}{l:List α}(m:oD c R)(h:Gr S d a b c R s l)(n:s.D∉S)(q:0<c)(p:l.length<=9223372036854775807):eR (bH S a) c (R (bH S a)) s l:=by
 obtain⟨_,f,e,g⟩:=h;have H:=eR.gA e (g.mono λcs x=>m.le (iV a λj i=>ai s.D i)) q p;exact⟨H.len,H.cap,H.gW,λk x o=>let⟨cs,i,j⟩:=H.iD k x o;⟨cs,i,KI n j⟩⟩
def Gr.ne{α:Type}{p:Nat}{R:E->List Ce->α->Prop}{o:List α}(k:Gr S d a b p R s o)(g:cF a h tb i)(n:tb≠b):s.D≠h:=by
 let⟨l,f,m,w⟩:=k;let⟨q,r,tail,j,t,c,u,v⟩:=m.aF.resolve_left l;intro e;rw[j]at e;simp only[O.jC]at e;subst e;unfold cF at g c;rw[g]at c;simp at c;exact n c.2
def Gr.LQ{α β:Type}{q:E}{r c t:Nat}{R:E->List Ce->α->Prop}{g:E->List Ce->β->Prop}{e:O}{o:List α}{p:List β}(j:Gr S d a b r R s o)(k:Gr S' q a c t g e p)(n:c≠b):s.D≠e.D:=by
 let⟨l,f,m,z⟩:=k;let⟨u,v,tail,h,w,i,x,y⟩:=m.aF.resolve_left l;have:=j.ne i n;rw[h];exact this
def Gr.box{α:Type}{L:List Nat}{j y:Nat}{R:E->List Ce->α->Prop}{u:List α}{w:α}{K:E->Prop}(B:oD g.length R)(U:0<g.length)
 (o:Gr S d a b g.length R s u)(C:Fz X d a)(P:R (bH (s.D::S) a) cs w)(k:(u.length+1)*y<=140737488355328)
 (p:cF a h tb i)(hi:j<i.length)(G:tb≠b)(t:d.size<=h/\h∈S)(A:∀e∈L,e<a.size/\e≠h/\e≠s.D)
 (Q:∀r c,Gr S d c b g.length R r (u++[w])->cF c h tb (je i j [.s r])->Fz X d c->a.size<=c.size->(∀e,e<a.size->e≠s.D->e≠h->c[e]? =a[e]?)->K c):
 af (a.push (.cells (bu cs) b)) h j=af a h j/\
 jN (a.push (.cells (bu cs) b)) b g y s (.mk a.size 0 1 1) λr c=>eI L (a.push (.cells (bu cs) b)) c/\fL c h j 1/\(eI L c (ah c h j [.s r])/\K (ah c h j [.s r])):=by
 have D:=p.lt
 have H:=J.push a (.cells (bu cs) b)
 have hy:=o.bn
 refine⟨aI (H.same h D) j,Gr.kM B U o C P k λr c z I W v=>?_⟩
 have q:cF c h tb i:=p.congr (v h D (kH (o.ne p G)))
 have T:=z.ne q G
 have n:∀e,e≠h->(ah c h j [.s r])[e]? =c[e]? :=λe k=>be _ _ _ _ k
 have Z:=C.size
 have Y:=t.1
 refine⟨λe k=>?_,q.fL V,λe k=>n e (A e k).2.1,Q r _ ?_ (cF.ah (m:=c) q) (I.ah (Or.inr t.1) _ _) (by rw[ax];exact W.1) λe l N O=>(n e O).trans (v e l N)⟩
 .have l:=A e k
  rw[v e l.1 l.2.2,H.same e l.1]
 .let⟨M,f,g1,g2⟩:=z
  refine⟨M,f,g1.congr (n _ T),g2.mono λcs x=>B.le ?_⟩
  exact pG λe k F=>⟨F,n e λb=>F (by rw[b];exact ai _ t.2)⟩
def ap.lit(b:Nat)(l:List Int)(d:∀c∈S,c<a.size)(c:cs=l.map Ce.i)(f:n=l.length)(e:l.length<=9223372036854775807):ap (bH S (a.push (.cells (bu cs) b))) (.mk a.size 0 n n) l:=by
 subst c f;have h:=gZ.new (J.az a) b 1 (l.map Ce.i) l.length aL;exact ap.Rp d h e
end Go.Vc
end
section
namespace Go.Vc
variable{x y:Operand}{k:SV->Prop}{l h:List Ce}{f:Int->Prop}{r:List Sh}{a:Int}{g:Array (Nat×Operand)}{e:List Oper}{Q:Exit->Fr->E->Prop}{c:Code}
section
variable{P:Program}{T:TT}{G:List Nat}{n:Nat}{A:Px}{m q:E}{p u:Fr}{b o j i t:Nat}{s:Sh}{d:Option Nat}{v:Value}
def nc(n:Nat):Int:=n
def nce{n:Nat}:nc n=n:=rfl
def V0:TP T p .len [t] [x] k=match fK T t,ev p x with
 |some ⟨.slice _,_,_⟩,.c (.s s)=>k (.c (.i (nc s.len)))
 |_,_=>False:=rfl
def V1{l:List Nat}:TP T p .max l [x,y] k=match ev p x,ev p y with
 | .c (.i a),.c (.i b)=>k (.c (.i (if b>a then b else a)))
 |_,_=>False:=rfl
def V2{l:List Nat}:TP T p .min l [x,y] k=match ev p x,ev p y with
 | .c (.i a),.c (.i b)=>k (.c (.i (if b<a then b else a)))
 |_,_=>False:=rfl
def Sp(m:E)(k:E->Prop):O9 m k=(let q:=m;k q):=rfl
def pa{α:Type}(x:α)(f:α->Prop):Prop:=f x
def Tp(s:Sh)(f:s.ty->Prop):Prop:=∃x,f x
def U8(s:Sh)(f:s.ty->Prop):Prop:=∀x,f x
def exI:Tp .I f=∃x,pa x f:=rfl
def exU{k:IntKind}:Tp (.U k) f=∃x,pa x f:=rfl
def exB{f:Bool->Prop}:Tp .T f=∃x,pa x f:=rfl
def YJ{f:O->Prop}:Tp .S f=∃x,pa x f:=rfl
def exP{f:Nat×Nat->Prop}:Tp .P f=∃x,pa x f:=rfl
def exF{f:Fn×Array Value×Array Value->Prop}:Tp .F f=∃x,pa x f:=rfl
def exM{f:Nat->Prop}:Tp .M f=∃x,pa x f:=rfl
def alI:U8 .I f=∀x,f x:=rfl
def alU{k:IntKind}:U8 (.U k) f=∀x,f x:=rfl
def alB{f:Bool->Prop}:U8 .T f=∀x,f x:=rfl
def Yt{f:O->Prop}:U8 .S f=∀x,f x:=rfl
def alP{f:Nat×Nat->Prop}:U8 .P f=∀x,f x:=rfl
def alF{f:Fn×Array Value×Array Value->Prop}:U8 .F f=∀x,f x:=rfl
def alM{f:Nat->Prop}:U8 .M f=∀x,f x:=rfl
def cU8{x:Int}:kN (.int .u8 x)=some (.u .u8 x):=rfl
def z0:mK h 0=[]:=rfl
def z1:mK h (n+1)=h++mK h n:=rfl
def tb{a b:Nat}:Nat.testBit a b=(1&&&(a>>>b)!=0):=rfl
def VV{e:Edge}{a:List Edge}:lC (e::a)=bif Region.binds .any e then 2^e.on|||lC a else lC a:=rfl
def b1:Region.binds .any ⟨i,.data⟩=true:=rfl
def b2:Region.binds .any ⟨i,.chain⟩=true:=rfl
def b3:Region.binds .any ⟨i,.guard⟩=true:=rfl
def b4:Region.binds .any ⟨i,.phase⟩=true:=rfl
def b5{x:Departure}:Region.binds .any ⟨i,.gcOnly x⟩=false:=rfl
def b6{x:Departure}:Region.binds .any ⟨i,.textOnly x⟩=false:=rfl
def Si(c:Ce)(k:List Ce->Prop)(l:List Ce):Prop:=k (c::l)
def Vr(k:SV->Prop)(l:List Ce):Prop:=k (.agg l)
def kld(m:E)(b o j:Nat)(s:Sh)(r:List Sh)(k:List Ce->Prop)(x:s.ty):Prop:=
 af m b (bif j==0 then o else o+j)=some (s.mk x).v/\Wg m b o (j+1) r (Si (s.mk x) k)
def YE{k:List Ce->Prop}:Wg m b o j (s::r) k=Tp s (kld m b o j s r k):=by
 cases j<;>rfl
def klc(m:E)(b o:Nat)(s:Sh)(k:SV->Prop)(x:s.ty):Prop:=af m b o=some (s.mk x).v/\k (.c (s.mk x))
def Ua{t:Nat}:Qg T m t b o k=match fK T t with
 |some ⟨.struct _,a,_⟩=>Wg m b o 0 a (Vr k)
 |some ⟨.cell,[s],_⟩=>Tp s (klc m b o s k)
 |some ⟨.slice _,[_],_⟩=>∃x:O,af m b o=some x.v/\k (.c (.s x))
 |_=>False:=rfl
def ile{b:Int}:Int.le a b=(a<=b):=rfl
def khi(s:O)(z:Nat)(l:Int)(k:SV->Prop)(h:Int):Prop:=Int.le 0 l/\Int.le l h/\Int.le h (nc s.cap)/\k (.c (.s (s.cut l.toNat h.toNat z)))
def klo(p:Fr)(a:Option Operand)(s:O)(z:Nat)(k:SV->Prop)(l:Int):Prop:=Nm p a (nc s.len) (khi s z l k)
def YC{f:Nat}{mk:Nat->SV}:FZ T t f o mk k=match fK T t with
 |some ⟨.struct c,_,_⟩=>match Iu c f with
  |some (a,u)=>match fK T u with
   |some b=>bif b.uH||Nat.beq b.sh.length 0 then False else bif a==0 then k (mk o)else k (mk (o+a))
   |none=>False
  |none=>False
 |_=>False:=by
 have h:∀a,(bif a==0 then k (mk o)else k (mk (o+a)))=k (mk (o+a)):=λa=>by cases a<;>rfl
 simp only[h];rfl
def VZ{s:O}{n:Int}:Xx T t s n k=match fK T t with
 |some ⟨.slice e,_,_⟩=>match fK T e with
  |some a=>bif a.uH then False else Int.le 0 n/\n<nc s.len/\k (.c (.p s.D (s.off+n.toNat*a.sh.length)))
  |none=>False
 |_=>False:=rfl
def Sb{s:O}{b a:Option Operand}:RE T p t s b a k=match fK T t with
 |some ⟨.slice e,_,_⟩=>match fK T e with
  |some c=>bif c.uH then False else Nm p b 0 (klo p a s c.sh.length k)
  |none=>False
 |_=>False:=rfl
def R8:rd T p m k (.build t g)=match fK T t with
 |some ⟨.struct a,b,_⟩=>bif vn T a then FT T p a (b.map Sh.zero) g.toList (Vr k)else False
 |_=>False:=rfl
def kxc(s:Sh)(r:List Sh)(k:List Ce->Prop)(x:s.ty):Prop:=UU r (Si (s.mk x) k)
def VX{k:List Ce->Prop}:UU (s::r) k=Tp s (kxc s r k):=rfl
def YR(a:AV)(k:List AV->Prop)(l:List AV):Prop:=k (a::l)
def kxt(T:TT)(r:List Nat)(k:List AV->Prop)(l:List Ce):Prop:=SU T r (YR (.agg l) k)
def kxs(T:TT)(s:Sh)(r:List Nat)(k:List AV->Prop)(x:s.ty):Prop:=SU T r (YR (.c (s.mk x)) k)
def VY{r:List Nat}{k:List AV->Prop}:SU T (t::r) k=match fK T t with
 |some ⟨.struct _,a,_⟩=>UU a (kxt T r k)
 |some ⟨.cell,[s],_⟩=>Tp s (kxs T s r k)
 |some ⟨.slice _,[_],_⟩=>∃x:O,SU T r (YR (.c (.s x)) k)
 |_=>False:=rfl
def krt(v:Value)(k:SV->Prop)(l:List AV):Prop:=v=.tuple (l.map AV.v).toArray/\k (.XJ l)
def krs(v:Value)(k:SV->Prop)(l:List Ce):Prop:=v=.agg (l.map Ce.v).toArray/\k (.agg l)
def krc(v:Value)(s:Sh)(k:SV->Prop)(x:s.ty):Prop:=v=(s.mk x).v/\k (.c (s.mk x))
def V8:Qo T t v k=match fK T t with
 |some ⟨.tuple [],_,_⟩=>k .fU
 |some ⟨.tuple a,_,_⟩=>SU T a (krt v k)
 |some ⟨.struct _,a,_⟩=>UU a (krs v k)
 |some ⟨.cell,[s],_⟩=>Tp s (krc v s k)
 |some ⟨.slice _,[_],_⟩=>∃x:O,v=x.v/\k (.c (.s x))
 |_=>False:=rfl
def Vs(k:Fr->SV->E->Prop)(p:Fr)(m:E)(x:SV):Prop:=k p x m
def inG(G:List Nat)(g:Nat):Prop:=G.elem g=true
def YP{G:List Nat}{g:Nat}:inG G g=(G.elem g=true):=rfl
def nz(b:Int):Prop:=b≠0
def nze{b:Int}:nz b=(b≠0):=rfl
def V5{b:Int}:rR .quo a b k=(nz b/\k (.c (.i (cU (a.tdiv b))))):=rfl
def V7{b:Int}:rR .rem a b k=(nz b/\k (.c (.i (a.tmod b)))):=rfl
def T0{c:Nat}{f:Operand}{a:List Operand}{k:Fr->SV->E->Prop}:TS P T G n p m c f a k=match Uf p (a.map (ev p))with
 |none=>False
 |some u=>match ev p f with
  | .c (.fn (.func g) first b)=>bif G.elem g&&a.all (λx=>(ev p x).jJ)then
   aN P g (first.toList++(a.map λx=>(ev p x).v)++b.toList) m λv q=>Ay (MS n u []) m q (Qo T c v (Vs k u q))
   else False
  | .c (.fv b)=>bif a.all (λx=>(ev p x).jJ)then
   ∃g,b.1=.func g/\inG G g/\aN P g (b.2.1.toList++(a.map λx=>(ev p x).v)++b.2.2.toList) m λv q=>Ay (MS n u []) m q (Qo T c v (Vs k u q))
   else False
  |_=>False:=rfl
def p3(m:E)(k:Fr->SV->E->Prop)(p:Fr)(x:SV):Prop:=k p x m
def p2(m:E)(k:SV->E->Prop)(x:SV):Prop:=k x m
def Uc{k:Fr->SV->E->Prop}:Tb n p none m t l k=O9 (m.push (.cells (bu l) t)) λq=>p3 q k p (.c (.p m.size 0)):=rfl
def Ud{j:Nat}{k:Fr->SV->E->Prop}:Tb n p (some j) m t l k=match il p (n+j)with
 | .zO _ _ _=>False
 |_=>O9 (m.push (.cells (bu l) t)) λq=>p3 q k ((n+j,.box m.size t l)::p) (.c (.bp (n+j) m.size 0)):=rfl
def YH{x:SV}{k:Fr->SV->E->Prop}:Po n p m x l k=match x with
 | .c (.p b o)=>fL m b o l.length/\O9 (ah m b o l) λq=>Ay (MS n p []) m q (k p .un q)
 | .c (.bp d b o)=>match il p d with
  | .box a e c=>bif Nat.ble (o+l.length) c.length then MZ a b (O9 (ah m b o l) λq=>p3 q k ((d,.box a e (je c o l))::p) .un)else False
  | .zO _ _ _=>False
  |_=>fL m b o l.length/\O9 (ah m b o l) λq=>Ay (MS n p []) m q (k p .un q)
 |_=>False:=rfl
def YG{b:Nat}{k:Fr->SV->E->Prop}:wr P T G n p m d b k (.makeSlice t x y)=match fK T t,ev p x,ev p y with
 |some ⟨.slice e,_,_⟩,.c (.i l),.c (.i c)=>match fK T e with
  |some a=>bif a.uH then False else Int.le 0 l/\Int.le l c/\Int.le (nc a.bytes*c) 281474976710656/\Int.le c 9223372036854775807/\
   O9 (m.push (.cells (bu (mK (a.sh.map Sh.zero) c.toNat)) e)) λq=>p3 q k p (.c (.s (.mk m.size 0 l.toNat c.toNat)))
  |none=>False
 |_,_,_=>False:=rfl
def YF{a:Nat}{k:Fr->SV->E->Prop}:wr P T G n p m d a k (.makeMap t none)=O9 (m.push (.map #[] 0)) λq=>p3 q k p (.c (.mp m.size)):=rfl
def VW{z:Nat}{s x:O}{k:SV->E->Prop}:Xr m z s x k=∃a:List Ce,a.length=Nat.min x.len s.len*z/\fQ m x.D x.off a/\fL m s.D s.off a.length/\
 O9 (ah m s.D s.off a) λq=>p2 q k (.c (.i (nc (Nat.min x.len s.len)))):=rfl
def kbs(p:Fr)(m:E)(e a:Nat)(k:Fr->SV->E->Prop)(l:List Ce):Prop:=match FX p l with
 |some u=>O9 (m.push (.cells (bu l) e)) λq=>p3 q k u (.c (.s (.mk m.size 0 a a)))
 |none=>False
def YB{c a:Nat}{k:Fr->SV->E->Prop}:wr P T G n p m d c k (.buildSlice t a g)=match fK T t with
 |some ⟨.slice e,_,_⟩=>match fK T e with
  |some b=>bif b.uH||!(Nat.ble (a*b.sh.length) 16777216)then False else
   xp T p b.sh.length (mK (b.sh.map Sh.zero) a) g.toList (kbs p m e a k)
  |none=>False
 |_=>False:=rfl
def kcp(n:Nat)(p:Fr)(m:E)(k:Fr->SV->E->Prop)(x:SV)(q:E):Prop:=Ay (MS n p []) m q (k p x q)
def T5{b:Nat}{u:Nat}{c:List Nat}{k:Fr->SV->E->Prop}:wr P T G n p m d b k (.call ⟨.builtin .copy,⟨[x,y]⟩,⟨u::c⟩⟩)=match fK T u,ev p x,ev p y with
 |some ⟨.slice e,_,_⟩,.c (.s s),.c (.s z)=>match fK T e with
  |some a=>bif a.uH then False else Xr m a.sh.length s z (kcp n p m k)
  |none=>False
 |_,_,_=>False:=rfl
def kw(P:Program)(T:TT)(G:List Nat)(n:Nat)(e:List Oper)(d:Option Nat)(jP:List Oper)(k:Fr->E->Prop)(p:Fr)(x:SV)(m:E):Prop:=sC P T G n e jP (ud p d x) m k
def kr(P:Program)(T:TT)(G:List Nat)(n:Nat)(e:List Oper)(d:Option Nat)(jP:List Oper)(k:Fr->E->Prop)(p:Fr)(m:E)(x:SV):Prop:=sC P T G n e jP (ud p d x) m k
def ky(P:Program)(T:TT)(G:List Nat)(n:Nat)(e:List Oper)(o:Oper)(jP:List Oper)(k:Fr->E->Prop)(m:E)(p:Fr):Prop:=
 bif LF o.op then wr P T G n p m o.dst o.type (kw P T G n e o.dst jP k) o.op else rd T p m (kr P T G n e o.dst jP k p m) o.op
def kn(P:Program)(T:TT)(G:List Nat)(n:Nat)(e:List Oper)(d:Option Nat)(jP:List Oper)(k:Fr->E->Prop)(m:E)(p:Fr):Prop:=sC P T G n e jP (ud p d .un) m k
def V3{o:Oper}{jP:List Oper}{k:Fr->E->Prop}:sC P T G n e (o::jP) p m k=
 bif sg n o.dst then gd e p o.guard (ky P T G n e o jP k m) (kn P T G n e o.dst jP k m)else False:=rfl
abbrev LL:=List (Nat×List (Nat×Nat))
def dr1(P:Program)(T:TT)(G:List Nat)(n:Nat)(e:List Oper)(c a:List Nat)(b done:Nat)(o:Oper)(i:Nat)(m:E)(L:LL)(k:Fr->E->Prop)(p:Fr)(x:SV):Prop:=
 oN P T G n e c a b (done|||2^i) (ud p o.dst x) m ((i,Tq T p o.op)::L) k
def dry(P:Program)(T:TT)(G:List Nat)(n:Nat)(e:List Oper)(c a:List Nat)(b done:Nat)(o:Oper)(i:Nat)(m:E)(L:LL)(k:Fr->E->Prop)(p:Fr):Prop:=
 rd T p m (dr1 P T G n e c a b done o i m L k p) o.op
def ZF(P:Program)(T:TT)(G:List Nat)(n:Nat)(e:List Oper)(c a:List Nat)(b done:Nat)(o:Oper)(i:Nat)(m:E)(L:LL)(k:Fr->E->Prop)(p:Fr):Prop:=
 oN P T G n e c a b (done|||2^i) (ud p o.dst .un) m L k
def dr2(P:Program)(T:TT)(G:List Nat)(n:Nat)(e:List Oper)(c a:List Nat)(b done:Nat)(o:Oper)(i:Nat)(m:E)(L:LL)(k:Fr->E->Prop)(p:Fr)(x:SV)(q:E):Prop:=
 DR (uf a i) m q L (oN P T G n e c a b (done|||2^i) (ud p o.dst x) q L k)
def dwy(P:Program)(T:TT)(G:List Nat)(n:Nat)(e:List Oper)(c a:List Nat)(b done:Nat)(o:Oper)(i:Nat)(m:E)(L:LL)(k:Fr->E->Prop)(p:Fr):Prop:=
 wr P T G n p m o.dst o.type (dr2 P T G n e c a b done o i m L k) o.op
def dra(P:Program)(T:TT)(G:List Nat)(n:Nat)(e:List Oper)(c a:List Nat)(b done:Nat)(m:E)(L:LL)(k:Fr->E->Prop)(p:Fr)(i:Nat):Prop:=match Iu e i with
 |some o=>bif sg n o.dst then gd e p o.guard (dwy P T G n e c a b done o i m L k) (ZF P T G n e c a b done o i m L k)else False
 |none=>False
def T9{a b:List Nat}{c done:Nat}{L:LL}{k:Fr->E->Prop}:oN P T G n e a b (c+1) done p m L k=match xc done 0 e a with
 |some i=>match Iu e i with
  |some o=>bif sg n o.dst then gd e p o.guard (dry P T G n e a b c done o i m L k) (ZF P T G n e a b c done o i m L k)else False
  |none=>False
 |none=>match pM done 0 e a with
  |[]=>k p m
  |d=>OJ d (dra P T G n e a b c done m L k p):=rfl
def TY{f:Nat->Prop}:OJ [i] f=f i:=rfl
def TZ{r:List Nat}{f:Nat->Prop}:OJ (i::j::r) f=(f i/\OJ (j::r) f):=rfl
def kq(Q:Exit->Fr->E->Prop)(p:Fr)(m:E):Prop:=Q .normal p m
def V6{e:Array Oper}{a:Bool}:vc P T G n A (.region i e a) p m Q=
 bif a then oN P T G n e.toList (Vy e.toList) (TQ [] e.toList) e.toList.length 0 p m [] (kq Q)
 else sC P T G n e.toList e.toList p m (kq Q):=rfl
def kal(t:Nat)(s:Sh)(r:List (Nat×Sh))(I:s.ty->HT r)(p:Fr)(k:Fr->(E->Prop)->Prop)(x:s.ty):Prop:=PL r (I x) ((t,.c (s.mk x))::p) k
def VT{r:List (Nat×Sh)}{I:s.ty->HT r}{k:Fr->(E->Prop)->Prop}:PL ((t,s)::r) I p k=U8 s (kal t s r I p k):=rfl
def kam(t:Nat)(s:Sh)(r:List (Nat×Sh))(I:s.ty->HT r)(μ:s.ty->OG r)(p:Fr)(k:Fr->(E->Prop)->(E->Nat)->Prop)(x:s.ty):Prop:=PM r (I x) (μ x) ((t,.c (s.mk x))::p) k
def VU{r:List (Nat×Sh)}{I:s.ty->HT r}{μ:s.ty->OG r}{k:Fr->(E->Prop)->(E->Nat)->Prop}:PM ((t,s)::r) I μ p k=U8 s (kam t s r I μ p k):=rfl
def ks(P:Program)(T:TT)(G:List Nat)(n:Nat)(A:Px)(b:Code)(Q:Exit->Fr->E->Prop):Exit->Fr->E->Prop
 | .normal,u,q=>vc P T G n A b u q Q
 |e,u,q=>Q e u q
def kc(A:Px)(b:Code)(p:Fr)(l:List (Nat×Sh))(K:HT l)(Q:Exit->Fr->E->Prop):Exit->Fr->E->Prop
 | .normal,u,q=>UT p u (lj A b) (HW l K u q)
 |e,u,q=>Q e u q
def ki(P:Program)(T:TT)(G:List Nat)(n:Nat)(A:Px)(b:Code)(Q:Exit->Fr->E->Prop)(u:Fr)(a:E->Prop):Prop:=∀q,a q->vc P T G n A b u q Q
def V9{a b:Code}:vc P T G n A (.seq a b) p m Q=match Wh A.Vo b with
 |none=>vc P T G n A a p m (ks P T G n A b Q)
 |some l=>bif pS (oJ a) l then∃K:HT l,vc P T G n A a p m (kc A b p l K Q)/\
  PL l K (nF (oJ a) (uy n (lj A b) p)) (ki P T G n A b Q)else False:=by
 unfold ks kc ki;rfl
def kb(i:Nat)(Q:Exit->Fr->E->Prop):Exit->Fr->E->Prop
 | .exit j,u,q=>bif Nat.beq j i then Q .normal u q else Q (.exit j) u q
 |e,u,q=>Q e u q
def R1:vc P T G n A (.block i c) p m Q=vc P T G n A c p m (kb i Q):=by
 unfold kb;rfl
def ke(A:Px)(c:Code)(p:Fr)(l:List (Nat×Sh))(I:HT l)(μ:OG l)(N:Nat)(Q:Exit->Fr->E->Prop):Exit->Fr->E->Prop
 | .normal,a,b=>UT p a (lj A c) (OL l I μ a b N)
 |e,a,b=>Q e a b
def kl(P:Program)(T:TT)(G:List Nat)(n:Nat)(A:Px)(c:Code)(p:Fr)(l:List (Nat×Sh))(I:HT l)(μ:OG l)(Q:Exit->Fr->E->Prop)(u:Fr)(a:E->Prop)(μ':E->Nat):Prop:=
 ∀q,a q->vc P T G n A c u q (ke A c p l I μ (μ' q) Q)
def Ub:vc P T G n A (.loop c) p m Q=match Wh A.Un c with
 |none=>False
 |some l=>bif pS (oJ c) l then∃(I:HT l)(μ:OG l),HW l I p m/\
  PM l I μ (nF (oJ c) (uy n (lj A c) p)) (kl P T G n A c p l I μ Q)else False:=by
 unfold kl ke;rfl
def kR(m:E)(R:Value->E->Prop)(l:List SV):Prop:=match l with
 |[x]=>R x.v m
 |l=>R (.tuple (l.map SV.v).toArray) m
def kx(x:SV)(k:List SV->Prop)(l:List SV):Prop:=k (x::l)
def kz(T:TT)(p:Fr)(m:E)(r:List ResultVar)(k:List SV->Prop)(x:SV):Prop:=bif x.jJ then GJ T p m r (kx x k)else False
def R9{r:List ResultVar}{k:List SV->Prop}:GJ T p m (.tmp t::r) k=bif (il p t).jJ then GJ T p m r (kx (il p t) k)else False:=rfl
def Sa{a:Nat}{r:List ResultVar}{k:List SV->Prop}:GJ T p m (.cell a t::r) k=rd T p m (kz T p m r k) (.load t (.tmp a)):=rfl
def kf(T:TT)(a:List ResultVar)(R:Value->E->Prop):Exit->Fr->E->Prop
 | .normal,p,m=>GJ T p m a (kR m R)
 | .ret,p,m=>GJ T p m a (kR m R)
 |_,_,_=>False
def YD{b:List ResultVar}{a:List SV}{R:Value->E->Prop}:Tl P T G A n b c a m R=vc P T G n A c (ux 0 a) m (kf T b R):=by
 unfold kf kR;rfl
end
def Tg(_:Prop):Type:=Prop
def Tg.p{q:Prop}(t:Tg q):Prop:=t
def Tg.lf(q:Prop):Tg q:=q
def Tg.pm{a b:Prop}{h:Tg a=Tg b}:Tg.p (Eq.mpr h (Tg.lf b))=b:=rfl
def rg1:List.range 1=[0]:=rfl
def rg2:List.range 2=[0,1]:=rfl
def rg3:List.range 3=[0,1,2]:=rfl
def rg4:List.range 4=[0,1,2,3]:=rfl
def rg5:List.range 5=[0,1,2,3,4]:=rfl
def rg6:List.range 6=[0,1,2,3,4,5]:=rfl
def rg7:List.range 7=[0,1,2,3,4,5,6]:=rfl
def Tg.pm2{a b c:Prop}{h:Tg a=Tg b}{d:Tg b=Tg c}:Tg.p (Eq.mpr h (Eq.mpr d (Tg.lf c)))=c:=rfl
def Wi(_ _:Prop):Type:=Unit
def mkT{a X:Prop}(_:Wi a X)(t:Tg a)(_:t.p=X):True:=trivial
end Go.Vc
end
namespace Go.Proofs.YtkoifinbblcbiaaGreat
open Go.Vc
section
noncomputable abbrev cg:=Tryz.prog
def Xp:TT:=[(0,⟨.tuple [],[],0⟩),
 (3,⟨.cell,[.I],8⟩),
 (4,⟨.cell,[.T],1⟩),
 (5,⟨.cell,[(.U .u8)],1⟩),
 (22,⟨.slice 5,[.S],24⟩),
 (23,⟨.slice 90,[.S],24⟩),
 (24,⟨.slice 43,[.S],24⟩),
 (26,⟨.struct [(0,23),(1,24)],[.S,.S],48⟩),
 (27,⟨.slice 3,[.S],24⟩),
 (28,⟨.slice 46,[.S],24⟩),
 (29,⟨.slice 38,[.S],24⟩),
 (31,⟨.struct [(0,3),(1,3),(2,3),(3,3),(4,27),(5,28),(6,29)],[.I,.I,.I,.I,.S,.S,.S],104⟩),
 (32,⟨.tuple [26,31],[],0⟩),
 (34,⟨.tuple [31,4],[],0⟩),
 (38,⟨.struct [(0,3),(1,3),(2,3),(3,27),(4,27),(5,27)],[.I,.I,.I,.S,.S,.S],96⟩),
 (40,⟨.struct [(0,3),(1,3),(2,3),(3,3),(4,27),(5,27)],[.I,.I,.I,.I,.S,.S],80⟩),
 (41,⟨.slice 40,[.S],24⟩),
 (43,⟨.struct [(0,27),(1,27),(2,3),(3,3),(4,41)],[.S,.S,.I,.I,.S],88⟩),
 (46,⟨.struct [(0,3),(1,3),(2,27)],[.I,.I,.S],40⟩),
 (49,⟨.tuple [26,31,3],[],0⟩),
 (54,⟨.tuple [26,3],[],0⟩),
 (57,⟨.struct [(0,3),(1,3),(2,3),(3,3),(4,3),(5,3),(6,3),(7,3)],[.I,.I,.I,.I,.I,.I,.I,.I],64⟩),
 (58,⟨.tuple [57,4],[],0⟩),
 (63,⟨.cell,[.P],8⟩),
 (68,⟨.struct [(0,26),(2,3),(3,31)],[.S,.S,.I,.I,.I,.I,.I,.S,.S,.S],160⟩),
 (69,⟨.cell,[.P],8⟩),
 (71,⟨.struct [(0,26),(2,31)],[.S,.S,.I,.I,.I,.I,.S,.S,.S],152⟩),
 (87,⟨.struct [(0,22),(1,3)],[.S,.I],32⟩),
 (88,⟨.slice 218,[.S],24⟩),
 (90,⟨.struct [(0,3),(1,3),(2,88)],[.I,.I,.S],40⟩),
 (94,⟨.cell,[.P],8⟩),
 (95,⟨.cell,[.P],8⟩),
 (101,⟨.cell,[.F],8⟩),
 (107,⟨.slice 163,[.S],24⟩),
 (109,⟨.struct [(0,23),(1,107)],[.S,.S],48⟩),
 (110,⟨.tuple [109,4],[],0⟩),
 (113,⟨.tuple [27,4],[],0⟩),
 (120,⟨.cell,[.P],8⟩),
 (122,⟨.slice 175,[.S],24⟩),
 (124,⟨.struct [(0,23),(1,122)],[.S,.S],48⟩),
 (127,⟨.cell,[.P],8⟩),
 (129,⟨.struct [(0,3),(1,3),(2,3),(3,3),(4,3),(5,3),(6,3),(7,3)],[.I,.I,.I,.I,.I,.I,.I,.I],64⟩),
 (130,⟨.tuple [3,3],[],0⟩),
 (135,⟨.tuple [27,27],[],0⟩),
 (140,⟨.slice 46,[.S],24⟩),
 (163,⟨.struct [(0,27),(1,27),(2,3)],[.S,.S,.I],56⟩),
 (167,⟨.tuple [3,4],[],0⟩),
 (171,⟨.slice 173,[.S],24⟩),
 (173,⟨.struct [(0,3),(1,3),(2,171)],[.I,.I,.S],40⟩),
 (175,⟨.struct [(0,27),(1,3),(2,173)],[.S,.I,.I,.I,.S],72⟩),
 (181,⟨.slice 205,[.S],24⟩),
 (183,⟨.struct [(0,23),(1,181)],[.S,.S],48⟩),
 (188,⟨.cell,[.F],8⟩),
 (189,⟨.cell,[.P],8⟩),
 (191,⟨.slice 4,[.S],24⟩),
 (201,⟨.slice 226,[.S],24⟩),
 (203,⟨.struct [(0,201),(1,3)],[.S,.I],32⟩),
 (205,⟨.struct [(0,27),(1,27),(2,3),(3,203)],[.S,.S,.I,.S,.I],88⟩),
 (206,⟨.cell,[.P],8⟩),
 (208,⟨.struct [(0,41)],[.S],24⟩),
 (218,⟨.struct [(0,27)],[.S],24⟩),
 (220,⟨.map 3 3,[.M],8⟩),
 (222,⟨.tuple [3,218],[],0⟩),
 (224,⟨.slice 203,[.S],24⟩),
 (226,⟨.struct [(0,3),(1,3),(2,3),(3,27),(4,224)],[.I,.I,.I,.S,.S],72⟩),
 (229,⟨.cell,[.P],8⟩),
 (230,⟨.tuple [229,4],[],0⟩),
 (233,⟨.struct [(0,27),(1,27),(2,27),(3,27),(4,27),(5,27),(6,27)],[.S,.S,.S,.S,.S,.S,.S],168⟩),
 (259,⟨.slice 27,[.S],24⟩),
 (275,⟨.cell,[.P],8⟩),
 (277,⟨.struct [(0,201),(1,3)],[.S,.I],32⟩)]
abbrev sW:Nat:=4
abbrev QF:Nat:=22
abbrev di:Nat:=203
abbrev lZ:Nat:=46
abbrev oZ:Nat:=218
abbrev jY:Nat:=90
abbrev bG:Nat:=173
abbrev dP:Nat:=38
abbrev ft:Nat:=175
abbrev vA:Nat:=26
abbrev dX:Nat:=40
abbrev nm:Nat:=183
abbrev jB:Nat:=43
abbrev kL:Nat:=124
abbrev jR:Nat:=205
abbrev iz:Nat:=31
abbrev gC:Nat:=226
abbrev eE:Nat:=140
abbrev bR:Nat:=68
abbrev pY:Nat:=163
abbrev me:Nat:=109
abbrev aA:Nat:=3
abbrev yd:Nat:=27
abbrev ou:Nat:=208
abbrev BW:Nat:=233
abbrev lF:Nat:=277
abbrev bK:Nat:=71
abbrev pZ:Nat:=87
abbrev UC:Nat:=5
def Pr:uw cg Xp:=by
 unfold uw;kernel_rfl
def GL:List Nat:=List.range' 3 337
def ZH:U1 cg GL:=by
 unfold U1;kernel_rfl
def ZI:cg.follows .mixedOrders=true:=by kernel_rfl
def nbq(a b:Nat):Nat.beq a b=(a==b):=by rw[JX];simp
def nbl(a b:Nat):Nat.ble a b=(a -b==0):=by rw[JX];simp;omega
def nbt(a b:Nat):Nat.blt a b=(a+1 -b==0):=by rw[JX];simp[Nat.blt];omega
def gel(g:Nat):List.elem g GL=(3 -g==0&&(g -339==0)):=by rw[JX];simp[GL];omega
section
variable{α β:Type}{a:α}{b:β}
def atl(l:List α):(Array.mk l).toList=l:=rfl
end
section
variable(a b c d e f)
def o1:(Oper.mk a b c d e f).dst=a:=rfl
def o2:(Oper.mk a b c d e f).op=b:=rfl
def o3:(Oper.mk a b c d e f).type=c:=rfl
def o5:(Oper.mk a b c d e f).after=e:=rfl
def o6:(Oper.mk a b c d e f).guard=f:=rfl
end
section
variable(a b c)
def a2:(Px.mk a b c).Un=a:=rfl
def a3:(Px.mk a b c).Vo=b:=rfl
def a4:(Px.mk a b c).eB=c:=rfl
def t1:(TI.mk a b c).Im=a:=rfl
def t2:(TI.mk a b c).sh=b:=rfl
def t3:(TI.mk a b c).bytes=c:=rfl
def g1:(Edge.mk a b).on=a:=rfl
def g2:(Edge.mk a b).ground=b:=rfl
end
def A0:Px:=⟨[],[],[]⟩
def cI(x:Int):SV:=.c (.i x)
def cS(x:O):SV:=.c (.s x)
def cP(x:Nat×Nat):SV:=.c (.p x.1 x.2)
instance:Coe Int SV:=⟨cI⟩
instance:Coe O SV:=⟨cS⟩
instance:Coe (Nat×Nat) SV:=⟨cP⟩
instance:Coe Int Ce:=⟨.i⟩
instance:Coe O Ce:=⟨.s⟩
def nj(n:Nat){x:TI}(h:fK Xp n=some x:=by cbv):fK Xp n=some x:=h
def tg0:=nj 0
def tg3:=nj 3
def tg4:=nj 4
def tg5:=nj 5
def Y2:=nj 22
def Y3:=nj 23
def Y4:=nj 24
def Y5:=nj 26
def Y6:=nj 27
def Y7:=nj 28
def Y8:=nj 29
def Y9:=nj 31
def Za:=nj 32
def Zb:=nj 34
def Zc:=nj 38
def Zd:=nj 40
def Ze:=nj 41
def Zf:=nj 43
def Zg:=nj 46
def Zh:=nj 49
def Zi:=nj 54
def Zj:=nj 57
def Zk:=nj 58
def Zl:=nj 63
def Zm:=nj 68
def Zn:=nj 69
def Zo:=nj 71
def Zp:=nj 87
def Zq:=nj 88
def Zr:=nj 90
def Zs:=nj 94
def Zt:=nj 95
def Wn:=nj 101
def Wo:=nj 107
def Wp:=nj 109
def Wq:=nj 110
def Wr:=nj 113
def Ws:=nj 120
def Wt:=nj 122
def Wu:=nj 124
def Wv:=nj 127
def Ww:=nj 129
def Wx:=nj 130
def Wy:=nj 135
def Wz:=nj 140
def WA:=nj 163
def WC:=nj 167
def WD:=nj 171
def WE:=nj 173
def WG:=nj 175
def WH:=nj 181
def WI:=nj 183
def WJ:=nj 188
def WK:=nj 189
def WM:=nj 191
def WN:=nj 201
def WO:=nj 203
def WQ:=nj 205
def WR:=nj 206
def WT:=nj 208
def WU:=nj 218
def WV:=nj 220
def WW:=nj 222
def WY:=nj 224
def WZ:=nj 226
def W0:=nj 229
def W3:=nj 230
def W7:=nj 233
def Xa:=nj 259
def Xb:=nj 275
def Xc:=nj 277
def da(m:E)(R:Value->E->Prop)(A:Px)(a:List SV){f:FuncId}{b:Go.Func}{X:Prop}{c:Code}{n:Nat}{e:List ResultVar}{g:List Value}(k:cg.funcs[f]? =some b)
 (d:(b.body,b.ntmps,b.results)=(some c,n,Array.mk e):=by cbv)
 (i:a.all SV.jJ=true:=by kernel_rfl)(l:Nat.ble a.length n=true:=by kernel_rfl)(hd:qu c=true:=by kernel_rfl)
 (o:a.map SV.v=g:=by dsimp only[List.map,cI,cS,cP,SV.v,Ce.v])
 (w:Wi (Tl cg Xp GL A n e c a m R) X->True:=by intro w;obtain - :=mkT w (by sym -abstractProof=>simp[gel,A0.eq_1,cI.eq_1,cS.eq_1,cP.eq_1,tg0,tg3,tg4,tg5,Y2,Y3,Y4,Y5,Y6,Y7,Y8,Y9,Za,Zb,Zc,Zd,Ze,Zf,Zg,Zh,Zi,Zj,Zk,Zl,Zm,Zn,Zo,Zp,Zq,Zr,Zs,Zt,Wn,Wo,Wp,Wq,Wr,Ws,Wt,Wu,Wv,Ww,Wx,Wy,Wz,WA,WC,WD,WE,WG,WH,WI,WJ,WK,WM,WN,WO,WQ,WR,WT,WU,WV,WW,WY,WZ,W0,W3,W7,Xa,Xb,Xc,nbq,nbl,nbt,atl,o1,o2,o3,o5,o6,a2,a3,a4,t1,t2,t3,g1,g2,cL,fF,cX,eH,OA,List.all_nil,aY,eG,List.elem_cons,Oz,Bool.false_and,VM,VL,Bool.true_or,Oy,MO,Bool.and_true,nW,Option.map_none,gE,iB,mz,List.flatMap_nil,List.isEmpty_cons,List.isEmpty_nil,List.any_cons,QM,qO,NH,ux.eq_1,ux.eq_2,vc.eq_1,vc.eq_4,vc.eq_6,vc.eq_7,vc.eq_8,uK.eq_def,YW.eq_def,Wk.eq_def,qV.eq_1,qV.eq_2,LY.eq_def,UT.eq_1,UT.eq_2,uy.eq_1,DA.eq_1,DA.eq_2,lj.eq_1,pS.eq_1,pS.eq_2,oJ.eq_def,nF.eq_1,nF.eq_2,PM.eq_1,PL.eq_1,OL.eq_1,OL.eq_2,HW.eq_1,HW.eq_2,Rg.eq_def,Wh.eq_1,DF.eq_def,lk.eq_1,lk.eq_2,oN.eq_1,DR.eq_1,DR.eq_2,Me.eq_1,Me.eq_2,pM.eq_def,xc.eq_def,kQ.eq_1,nZ.eq_1,nZ.eq_2,lC.eq_1,uf.eq_1,uf.eq_2,uf.eq_3,sC.eq_1,zT.eq_1,zT.eq_2,gd.eq_1,gd.eq_2,Lv.eq_1,sg.eq_1,sg.eq_2,LF.eq_def,wr.eq_1,wr.eq_2,wr.eq_4,wr.eq_6,wr.eq_8,wr.eq_9,wr.eq_10,wr.eq_11,xp.eq_1,xp.eq_2,SU.eq_1,UU.eq_1,MS.eq_def,Ay.eq_def,rd.eq_1,rd.eq_2,rd.eq_3,rd.eq_4,rd.eq_5,rd.eq_6,rd.eq_7,rd.eq_8,rd.eq_9,rd.eq_10,rd.eq_11,rd.eq_12,rd.eq_13,rd.eq_15,Tq.eq_def,V0,V1,V2,NW.eq_1,HB.eq_1,HB.eq_2,OV.eq_1,Nm.eq_1,Nm.eq_2,vn.eq_1,vn.eq_2,FT.eq_1,FT.eq_2,mj.eq_1,mj.eq_2,mj.eq_3,mj.eq_4,mj.eq_5,SV.cells.eq_def,ZN.eq_def,Vt.eq_def,Vb.eq_def,rR.eq_1,rR.eq_2,rR.eq_3,rR.eq_6,rR.eq_7,rR.eq_8,rR.eq_9,rR.eq_10,rR.eq_11,rR.eq_12,V5,V7,Wg.eq_1,Iu.eq_1,Iu.eq_2,Iu.eq_3,lz.eq_def,SV.jJ.eq_def,TI.uH.eq_1,TI.agg.eq_1,Sh.zero.eq_1,Sh.zero.eq_2,Sh.zero.eq_3,Sh.zero.eq_4,Sh.zero.eq_5,Sh.zero.eq_6,Sh.zero.eq_7,ev.eq_1,ev.eq_2,ev.eq_3,ev.eq_4,FW.eq_def,pF.eq_1,pF.eq_2,kN.eq_1,kN.eq_3,kN.eq_4,kN.eq_5,kN.eq_6,kN.eq_7,ud.eq_1,ud.eq_2,SV.nb.eq_def,il.eq_1,il.eq_2,AV.sv.eq_1,AV.sv.eq_2,SV.v.eq_1,SV.v.eq_2,SV.v.eq_3,SV.v.eq_4,SV.v.eq_5,SV.v.eq_6,SV.v.eq_7,SV.v.eq_8,SV.v.eq_9,AV.v.eq_1,AV.v.eq_2,Ce.v.eq_1,Ce.v.eq_2,Ce.v.eq_3,Ce.v.eq_4,Ce.v.eq_5,Ce.v.eq_6,Ce.v.eq_7,Ce.v.eq_8,Ce.v.eq_9,Ce.v.eq_10,Ce.v.eq_11,Ce.v.eq_12,Ce.v.eq_13,vk.eq_1,vk.eq_2,Uf.eq_1,FX.eq_def,je.eq_1,je.eq_2,HT.eq_1,HT.eq_2,OG.eq_1,OG.eq_2,Sh.ty.eq_1,Sh.ty.eq_2,Sh.ty.eq_3,Sh.ty.eq_4,Sh.ty.eq_5,Sh.ty.eq_6,Sh.ty.eq_7,Sh.mk.eq_1,Sh.mk.eq_2,Sh.mk.eq_3,Sh.mk.eq_4,Sh.mk.eq_5,Sh.mk.eq_6,Sh.mk.eq_7,OM.eq_1,SV.Vi.eq_def,AV.Vi.eq_1,AV.Vi.eq_2,GJ.eq_1,Vy.eq_1,Vy.eq_2,TQ.eq_1,TQ.eq_2,kld.eq_1,klc.eq_1,kxc.eq_1,kxs.eq_1,krc.eq_1,kal.eq_1,kam.eq_1,pa.eq_1,p3.eq_1,p2.eq_1,Si.eq_1,Vr.eq_1,khi.eq_1,klo.eq_1,YR.eq_1,kxt.eq_1,krt.eq_1,krs.eq_1,Vs.eq_1,kbs.eq_1,kcp.eq_1,kw.eq_1,kr.eq_1,ky.eq_1,kn.eq_1,dr1.eq_1,dry.eq_1,ZF.eq_1,dr2.eq_1,dwy.eq_1,dra.eq_1,kq.eq_1,ks.eq_def,kc.eq_def,ki.eq_1,kb.eq_def,ke.eq_def,kl.eq_1,kR.eq_def,kx.eq_1,kz.eq_1,kf.eq_def,OJ.eq_1,YE,Ua,Sb,R8,VX,VY,V8,T0,YB,T5,V3,T9,TY,TZ,V6,V9,R1,Ub,R9,Sa,YD,YC,VT,VU,exI,exU,exB,YJ,exP,exF,exM,alI,alU,alB,Yt,alP,alF,alM,cU8,z0,z1,tb,VV,b1,b2,b3,b4,b5,b6,Uc,Ud,YH,YG,YF,VW,VZ,rg1,rg2,rg3,rg4,rg5,rg6,rg7,jG];exact Tg.lf _) (by refine Tg.pm.trans ?_;dsimp -zeta+instances only[↓Sp,ile,↓YP,nze,nce,HT,OG,Sh.ty,Int.cast_ofNat_Int]);trivial)
 (j:X=Tl cg Xp GL A n e c a m R:=by kernel_rfl)
 :X->aN cg f g m R:=λh=>by
 subst o
 exact ye Pr ZH ZI k (nX Prod.fst d) (nX (λx=>x.2.1) d) (nX (λx=>x.2.2) d) i (lL l) hd (j▸h)
def aai(m:E)(R:Value->E->Prop)(A:Px)(a:List SV){f:FuncId}{b:Go.Func}{X:Prop}{c:Code}{n:Nat}{e:List ResultVar}{g:List Value}(k:cg.funcs[f]? =some b)
 (d:(b.body,b.ntmps,b.results)=(some c,n,Array.mk e):=by cbv)
 (i:a.all SV.jJ=true:=by kernel_rfl)(l:Nat.ble a.length n=true:=by kernel_rfl)(hd:qu c=true:=by kernel_rfl)
 (o:a.map SV.v=g:=by dsimp only[List.map,cI,cS,cP,SV.v,Ce.v])
 (w:Wi (Tl cg Xp GL A n e c a m R) X->True:=by intro w;obtain - :=mkT w (by sym -abstractProof=>simp[gel,A0.eq_1,cI.eq_1,cS.eq_1,cP.eq_1,tg0,tg3,tg4,tg5,Y2,Y3,Y4,Y5,Y6,Y7,Y8,Y9,Za,Zb,Zc,Zd,Ze,Zf,Zg,Zh,Zi,Zj,Zk,Zl,Zm,Zn,Zo,Zp,Zq,Zr,Zs,Zt,Wn,Wo,Wp,Wq,Wr,Ws,Wt,Wu,Wv,Ww,Wx,Wy,Wz,WA,WC,WD,WE,WG,WH,WI,WJ,WK,WM,WN,WO,WQ,WR,WT,WU,WV,WW,WY,WZ,W0,W3,W7,Xa,Xb,Xc,nbq,nbl,nbt,atl,o1,o2,o3,o5,o6,a2,a3,a4,t1,t2,t3,g1,g2,cL,fF,cX,eH,OA,List.all_nil,aY,eG,List.elem_cons,Oz,Bool.false_and,VM,VL,Bool.true_or,Oy,MO,Bool.and_true,nW,Option.map_none,gE,iB,mz,List.flatMap_nil,List.isEmpty_cons,List.isEmpty_nil,List.any_cons,QM,qO,NH,ux.eq_1,ux.eq_2,vc.eq_1,vc.eq_4,vc.eq_6,vc.eq_7,vc.eq_8,uK.eq_def,YW.eq_def,Wk.eq_def,qV.eq_1,qV.eq_2,LY.eq_def,UT.eq_1,UT.eq_2,uy.eq_1,DA.eq_1,DA.eq_2,lj.eq_1,pS.eq_1,pS.eq_2,oJ.eq_def,nF.eq_1,nF.eq_2,PM.eq_1,PL.eq_1,OL.eq_1,OL.eq_2,HW.eq_1,HW.eq_2,Rg.eq_def,Wh.eq_1,DF.eq_def,lk.eq_1,lk.eq_2,oN.eq_1,DR.eq_1,DR.eq_2,pM.eq_def,xc.eq_def,kQ.eq_1,nZ.eq_1,nZ.eq_2,lC.eq_1,uf.eq_1,uf.eq_2,uf.eq_3,sC.eq_1,zT.eq_1,zT.eq_2,gd.eq_1,gd.eq_2,Lv.eq_1,sg.eq_1,sg.eq_2,LF.eq_def,wr.eq_1,wr.eq_2,wr.eq_4,wr.eq_6,wr.eq_8,wr.eq_9,wr.eq_10,wr.eq_11,xp.eq_1,xp.eq_2,SU.eq_1,UU.eq_1,MS.eq_def,Ay.eq_def,rd.eq_1,rd.eq_2,rd.eq_3,rd.eq_4,rd.eq_5,rd.eq_6,rd.eq_7,rd.eq_8,rd.eq_9,rd.eq_10,rd.eq_11,rd.eq_12,rd.eq_13,rd.eq_15,Tq.eq_def,V0,V1,V2,NW.eq_1,HB.eq_1,HB.eq_2,OV.eq_1,Nm.eq_1,Nm.eq_2,vn.eq_1,vn.eq_2,FT.eq_1,FT.eq_2,mj.eq_1,mj.eq_2,mj.eq_3,mj.eq_4,mj.eq_5,SV.cells.eq_def,ZN.eq_def,Vt.eq_def,Vb.eq_def,rR.eq_1,rR.eq_2,rR.eq_3,rR.eq_6,rR.eq_7,rR.eq_8,rR.eq_9,rR.eq_10,rR.eq_11,rR.eq_12,V5,V7,Wg.eq_1,Iu.eq_1,Iu.eq_2,Iu.eq_3,lz.eq_def,SV.jJ.eq_def,TI.uH.eq_1,TI.agg.eq_1,Sh.zero.eq_1,Sh.zero.eq_2,Sh.zero.eq_3,Sh.zero.eq_4,Sh.zero.eq_5,Sh.zero.eq_6,Sh.zero.eq_7,ev.eq_1,ev.eq_2,ev.eq_3,ev.eq_4,FW.eq_def,pF.eq_1,pF.eq_2,kN.eq_1,kN.eq_3,kN.eq_4,kN.eq_5,kN.eq_6,kN.eq_7,ud.eq_1,ud.eq_2,SV.nb.eq_def,il.eq_1,il.eq_2,AV.sv.eq_1,AV.sv.eq_2,SV.v.eq_1,SV.v.eq_2,SV.v.eq_3,SV.v.eq_4,SV.v.eq_5,SV.v.eq_6,SV.v.eq_7,SV.v.eq_8,SV.v.eq_9,AV.v.eq_1,AV.v.eq_2,Ce.v.eq_1,Ce.v.eq_2,Ce.v.eq_3,Ce.v.eq_4,Ce.v.eq_5,Ce.v.eq_6,Ce.v.eq_7,Ce.v.eq_8,Ce.v.eq_9,Ce.v.eq_10,Ce.v.eq_11,Ce.v.eq_12,Ce.v.eq_13,vk.eq_1,vk.eq_2,Uf.eq_1,FX.eq_def,je.eq_1,je.eq_2,HT.eq_1,HT.eq_2,OG.eq_1,OG.eq_2,Sh.ty.eq_1,Sh.ty.eq_2,Sh.ty.eq_3,Sh.ty.eq_4,Sh.ty.eq_5,Sh.ty.eq_6,Sh.ty.eq_7,Sh.mk.eq_1,Sh.mk.eq_2,Sh.mk.eq_3,Sh.mk.eq_4,Sh.mk.eq_5,Sh.mk.eq_6,Sh.mk.eq_7,OM.eq_1,SV.Vi.eq_def,AV.Vi.eq_1,AV.Vi.eq_2,GJ.eq_1,Vy.eq_1,Vy.eq_2,TQ.eq_1,TQ.eq_2,kld.eq_1,klc.eq_1,kxc.eq_1,kxs.eq_1,krc.eq_1,kal.eq_1,kam.eq_1,pa.eq_1,p3.eq_1,p2.eq_1,Si.eq_1,Vr.eq_1,khi.eq_1,klo.eq_1,YR.eq_1,kxt.eq_1,krt.eq_1,krs.eq_1,Vs.eq_1,kbs.eq_1,kcp.eq_1,kw.eq_1,kr.eq_1,ky.eq_1,kn.eq_1,dr1.eq_1,dry.eq_1,ZF.eq_1,dr2.eq_1,dwy.eq_1,dra.eq_1,kq.eq_1,ks.eq_def,kc.eq_def,ki.eq_1,kb.eq_def,ke.eq_def,kl.eq_1,kR.eq_def,kx.eq_1,kz.eq_1,kf.eq_def,OJ.eq_1,YE,Ua,Sb,R8,VX,VY,V8,T0,YB,T5,V3,T9,TY,TZ,V6,V9,R1,Ub,R9,Sa,YD,YC,VT,VU,exI,exU,exB,YJ,exP,exF,exM,alI,alU,alB,Yt,alP,alF,alM,cU8,z0,z1,tb,VV,b1,b2,b3,b4,b5,b6,Uc,Ud,YH,YG,YF,VW,VZ];simp[cL,fF,jG,Me.eq_1,Me.eq_2,rg1,rg2,rg3,rg4,rg5,rg6,rg7];exact Tg.lf _) (by refine Tg.pm2.trans ?_;dsimp -zeta+instances only[↓Sp,ile,↓YP,nze,nce,HT,OG,Sh.ty,Int.cast_ofNat_Int]);trivial)
 (j:X=Tl cg Xp GL A n e c a m R:=by kernel_rfl)
 :X->aN cg f g m R:=λh=>by
 subst o
 exact ye Pr ZH ZI k (nX Prod.fst d) (nX (λx=>x.2.1) d) (nX (λx=>x.2.2) d) i (lL l) hd (j▸h)
end
section
open Tryz
variable{m:E}{R:Value->E->Prop}
variable{a b c d e f g h p q r u v w x y:O}{i j k l n o s t z A B C D F G H:Int}
def vo(a:O):=da m R A0 [a] func12
def Aa(a:O):=da m R ⟨[],[(4,[(6,.P)])],[(4,[26,25,24])]⟩ [.agg [a,b],.agg [i,j,k,l,c,d,e]] func13
def AH(a:O):=da m R A0 [.agg [a,b],.agg [i,j,k,l,c,d,e]] func14
def yP(i:Int):=da m R A0 [.agg [i,j,k,l,a,b,c],.agg [n,o,s,t,d,e,f]] func15
def An(a:O):=da m R ⟨[(4,[(5,.I)])],[],[]⟩ [a,b] func16
def yO(i:Int):=da m R A0 [.agg [i,j,k,a,b,c],.agg [l,n,o,d,e,f]] func17
end
section
open Tryz
variable{m:E}{R:Value->E->Prop}
variable{a b c d e f g h p q r u v w x y:O}{i j k l n o s t z A B C D F G H:Int}
def yG(a:O):=da m R A0 [.agg [a,b],.agg [i,j,k,l,c,d,e]] func21
def zZ(a:O):=da m R A0 [a] func22
def CD(a:O):=da m R A0 [a,b] func23
def yV(p:Nat×Nat):=da m R A0 [p] func29
def Bp(a:O):=da m R A0 [a] func30
def Cy(a:O):=da m R ⟨[(3,[(3,.I),(8,.I)])],[],[]⟩ [a] func31
def yI(i:Int):=da m R ⟨[(3,[(20,.I)])],[],[(3,[52,53])]⟩ [.agg [i,j,k,l,a,b,c]] func32
def vY(p:Nat×Nat):=da m R ⟨[],[(5,[(4,.T)])],[(5,[91])]⟩ [p] func33
def zr(a:O):=da m R ⟨[(8,[(5,.I)])],[(5,[])],[(5,[93,92]),(8,[93,92])]⟩ [.agg [a,b],.agg [i,j,k,l,c,d,e]] func34
def AW(i:Int):=da m R ⟨[(3,[(4,.I)])],[(2,[(3,.P)])],[(2,[58,57]),(3,[58,57])]⟩ [.agg [i,j,k,l,a,b,c]] func35
def wI(p:Nat×Nat):=da m R A0 [p] func36
def Am(a:O):=da m R ⟨[(4,[(5,.I)])],[],[]⟩ [a,b] func37
def xl(a:O):=da m R ⟨[(4,[(5,.I)])],[],[]⟩ [a,b] func38
def zh(p:Nat×Nat):=da m R A0 [p,a] func39
def xQ(p:Nat×Nat):=da m R A0 [p,i] func40
end
section
open Tryz
variable{m:E}{R:Value->E->Prop}
variable{a b c d e f g h p q r u v w x y:O}{i j k l n o s t z A B C D F G H:Int}
def ET(i:Int):=da m R A0 [i,j,k] func41
def xO(p:Nat×Nat):=da m R ⟨[(2,[(5,.I)])],[],[]⟩ [p,i] func42
def yF(a:O):=da m R ⟨[(5,[(20,.I)]),(13,[(66,.I)])],[(12,[])],[(5,[82,80]),(12,[85,82,80]),(13,[85,82,80])]⟩ [.agg [a,b]] func43
def yN(a:O):=da m R ⟨[(10,[(95,.I)]),(20,[(158,.I)])],[(3,[]),(16,[]),(24,[])],[(3,[191,190]),(10,[191,190]),(16,[197,191,190]),(20,[191,190]),(24,[191,190])]⟩ [.agg [a,b],.agg [i,j,k,l,c,d,e]] func44
def Ab(a:O):=da m R A0 [a] func45
def Ai(a:O):=da m R ⟨[(3,[(3,.I),(8,.I)])],[],[]⟩ [a] func46
def zo(a:O):=da m R ⟨[(4,[(3,.I)])],[],[(4,[30])]⟩ [.agg [a,b]] func51
def CH(p:Nat×Nat):=da m R A0 [p] func53
def zl(p:Nat×Nat):=da m R A0 [p,.agg [i,j,k,l,a,b,c]] func54
def Bd(p:Nat×Nat):=da m R A0 [p,.agg [a,b]] func55
def tD(a:O):=da m R A0 [a] func56
def Ae(a:O):=da m R ⟨[(3,[(10,.I)])],[],[]⟩ [a] func57
def mJ(a:O):=da m R A0 [a] func58
end
section
open Tryz
variable{m:E}{R:Value->E->Prop}
variable{a b c d e f g h p q r u v w x y:O}{i j k l n o s t z A B C D F G H:Int}
def xk(p q:Nat×Nat):=da m R ⟨[(4,[(28,.I)]),(14,[(65,.I)])],[(13,[])],[(4,[212,211]),(13,[212,211]),(14,[212,211])]⟩ [p,q,.agg [i,j,k,l,a,b]] func59
def yL(p q:Nat×Nat):=da m R ⟨[(3,[(24,.I)])],[],[(3,[353])]⟩ [p,q,.agg [i,j,k,l,a,b]] func60
def yT(a:O):=da m R ⟨[(2,[(3,.I)])],[],[]⟩ [a] func61
def BN(a:O):=da m R ⟨[(4,[(3,.I)]),(10,[(5,.I)])],[(3,[])],[]⟩ [a] func62
def zn(a:O):=da m R A0 [.agg [a,b],.agg [i,j,k,l,c,d,e],n] func63
def C0(i:Int):=da m R ⟨[(3,[(4,.I)]),(6,[(5,.I)]),(14,[(7,.I)])],[],[(3,[101]),(6,[101]),(14,[101])]⟩ [.agg [i,j,k,l,a,b,c]] func64
def xG(i:Int):=da m R ⟨[(4,[(5,.I)])],[],[(4,[44])]⟩ [.agg [i,j,k,l,a,b,c]] func65
def nE(a:O):=da m R A0 [a] func66
def CP(a:O):=da m R ⟨[(3,[(3,.S),(4,.I)])],[],[]⟩ [a] func67
def Hd(i:Int):=da m R A0 [i] func68
def Dj(i:Int):=da m R ⟨[(3,[(6,.I)])],[],[(3,[42])]⟩ [.agg [i,j,k,a,b,c],d] func69
def Fk(a:O):=da m R ⟨[(4,[(5,.S),(6,.I)])],[(3,[(30,.T)])],[(3,[70,69]),(4,[70,69])]⟩ [.agg [a,b],.agg [i,j,k,l,c,d]] func70
def um(p:Nat×Nat):=da m R ⟨[],[(3,[])],[(3,[226,225])]⟩ [p,.agg [i,j,k,a,b,c],.agg [l,n,o,s,d,e],f] func71
def tJ(p:Nat×Nat):=da m R A0 [p,.agg [i,j,k,a,b,c],.agg [l,n,o,s,d,e]] func72
def Al(i:Int):=da m R A0 [.agg [i,j,a],.agg [k,l,b]] func73
def Ah(a:O):=da m R ⟨[(5,[(18,.I)])],[],[(5,[43,42])]⟩ [.agg [a,b]] func74
def pI(a:O):=da m R ⟨[(6,[(88,.I)])],[(5,[])],[(5,[147,146,145,144]),(6,[147,146,145,144])]⟩ [.agg [a,b],.agg [c,d,i,j,e],k,.agg [l,n,o,s,f,g]] func75
def Ii(i:Int):=da m R A0 [i] func76
end
section
open Tryz
variable{m:E}{R:Value->E->Prop}
variable{a b c d e f g h p q r u v w x y:O}{i j k l n o s t z A B C D F G H:Int}
def xh(a:O):=da m R ⟨[(3,[(26,.I)]),(8,[(37,.I)]),(21,[(12,.S),(73,.I)]),(28,[(12,.S),(13,.I)]),(33,[(12,.S),(127,.I)])],[(17,[])],[(8,[165]),(33,[175])]⟩ [a] func77
def pd(s:O)(f:Fn×Array Value×Array Value):=da m R A0 [s,.c (.fv f)] func78
def we(i:Int):=da m R A0 [i] func79
def yJ(a:O):=da m R ⟨[(7,[(63,.I)])],[],[(7,[97,95,94])]⟩ [.agg [a,b],.agg [i,j,k,c,d,e]] func80
def xf(i:Int):=da m R ⟨[(2,[(17,.I)])],[(9,[])],[(2,[82]),(9,[82])]⟩ [.agg [i,j,k,a,b,c],d,e,f] func81
def CA(a:O):=da m R A0 [.agg [a,b],i,j] func83
def BT(a:O):=da m R ⟨[(4,[(3,.I)])],[],[(4,[65])]⟩ [.agg [a,b]] func84
def xT(a:O):=da m R ⟨[(3,[(4,.I)])],[],[(3,[37,36])]⟩ [.agg [a,b]] func85
def BQ(a:O):=da m R ⟨[(5,[(6,.I)])],[],[(5,[62,61])]⟩ [.agg [a,b],.agg [c,d,i,j,e]] func86
def zm(a:O):=da m R A0 [.agg [a,b],i] func87
def Bc(p:Nat×Nat):=da m R A0 [p] func90
def AM(p:Nat×Nat):=da m R ⟨[(3,[(6,.I)])],[],[(3,[57,56,55])]⟩ [p,.agg [a,b]] func91
def zj(p:Nat×Nat):=da m R A0 [p,.agg [a,b],i] func92
def sT(p:Nat×Nat):=da m R A0 [p,a] func93
def na(a:O):=da m R A0 [a] func94
end
section
open Tryz
variable{m:E}{R:Value->E->Prop}
variable{a b c d e f g h p q r u v w x y:O}{i j k l n o s t z A B C D F G H:Int}
def sI(p:Nat×Nat):=da m R ⟨[(15,[(4,.S),(5,.S),(31,.I)])],[],[(15,[62])]⟩ [p,.agg [i,j,k,l,a,b]] func95
def wc(i:Int):=da m R A0 [i] func96
def ue(p:Nat×Nat):=da m R A0 [p,i] func97
def vg(p:Nat×Nat):=da m R A0 [i,p] func98
def Ei(a:O):=da m R A0 [a] func99
def sK(p q:Nat×Nat):=da m R A0 [p,q,.agg [i,j,k,l,a,b]] func100
def rj(p q:Nat×Nat):=da m R ⟨[(14,[(10,.S),(74,.I)])],[],[(14,[125,121])]⟩ [p,q,.agg [i,j,k,l,a,b]] func101
def tq(p q:Nat×Nat):=da m R A0 [p,q,.agg [i,j,k,l,a,b]] func102
def zY(p:Nat×Nat):=da m R A0 [p,i,j,k] func103
def rT(p q:Nat×Nat):=da m R A0 [p,q,.agg [i,j,k,l,a,b]] func104
def ve(p:Nat×Nat):=da m R A0 [p,i,a] func105
def xg(p:Nat×Nat):=da m R ⟨[(3,[(13,.I)])],[],[]⟩ [p,a] func106
def Af(p:Nat×Nat):=da m R ⟨[(1,[(4,.S)])],[],[]⟩ [p,i] func107
def vX(p q:Nat×Nat):=da m R ⟨[(5,[(39,.I)])],[],[(5,[58])]⟩ [p,q,.agg [i,j,k,l,a,b]] func108
def wa(i:Int):=da m R A0 [i] func109
def tF(a:O):=da m R ⟨[(2,[(8,.I)])],[],[]⟩ [a,i] func110
def Gi(a:O):=da m R ⟨[(6,[(6,.S),(28,.I)])],[],[]⟩ [a,i] func111
def vW(p:Nat×Nat):=da m R ⟨[(9,[(63,.I)])],[(7,[(9,.I)])],[(7,[111]),(9,[114,111])]⟩ [p,i,a,.agg [j,k,l,n,b,c]] func112
end
section
open Tryz
variable{m:E}{R:Value->E->Prop}
variable{a b c d e f g h p q r u v w x y:O}{i j k l n o s t z A B C D F G H:Int}
def vf(a:Nat×Nat)(w:Int)(eB:Bool):=da m R ⟨[(13,[(69,.I)])],[(5,[])],[]⟩ [a,w,.c (.t eB)] func113
def sJ(p:Nat×Nat):=da m R A0 [p,i] func114
def BK(a:O):=da m R ⟨[(6,[(5,.I)])],[],[(6,[59])]⟩ [a,.agg [i,j,b]] func115
def Hj(a:O):=da m R ⟨[(3,[(4,.I)]),(6,[(5,.I)])],[],[]⟩ [a] func116
def Bg(a:O):=da m R ⟨[(4,[(4,.I),(5,.T)]),(7,[(4,.I),(5,.T),(6,.I)])],[],[]⟩ [a] func117
def BR(a:O):=da m R ⟨[(2,[(5,.I)])],[],[(2,[53])]⟩ [a,.agg [i,j,k,b,c,d]] func118
def Bi(i:Int):=da m R A0 [i] func119
def Dk(i:Int):=da m R ⟨[(3,[(4,.I)]),(7,[(6,.I)])],[],[(3,[61]),(7,[65,61])]⟩ [.agg [i,j,k,l,a,b,c]] func120
def sq(i:Int):=da m R A0 [i] func121
def EY(a:O):=da m R A0 [.agg [a,b],.agg [i,j,k,l,c,d],n] func122
def wK(a:O):=da m R ⟨[(2,[(3,.I)])],[],[]⟩ [a] func123
def KA(i:Int):=da m R A0 [i] func124
def yU(i:Int):=da m R ⟨[(2,[(5,.I)])],[],[(2,[26,25])]⟩ [.agg [i,j,k,a,b,c],.agg [l,n,o,s,d,e]] func125
def sR(p:Nat×Nat):=da m R A0 [p,.agg [i,j,k,a,b,c],.agg [l,n,o,s,d,e]] func126
def sP(p:Nat×Nat):=da m R ⟨[(2,[(7,.I)])],[],[(2,[51,50])]⟩ [p,.agg [i,j,k,a,b,c],.agg [l,n,o,s,d,e]] func127
def EF(a:O):=da m R ⟨[(2,[(3,.I)])],[],[]⟩ [a] func128
def sQ(p:Nat×Nat):=da m R A0 [p,i] func129
def He(a:O):=da m R A0 [a,i] func130
end
section
open Tryz
variable{m:E}{R:Value->E->Prop}
variable{a b c d e f g h p q r u v w x y:O}{i j k l n o s t z A B C D F G H:Int}
def uj(p:Nat×Nat):=da m R A0 [p,i] func131
def tI(p:Nat×Nat):=da m R A0 [p,.agg [i,j,k,a,b,c],.agg [l,n,o,s,d,e]] func132
def Ki(a:O):=da m R ⟨[(2,[(5,.I)])],[],[]⟩ [a,i] func133
def uN(a:O):=da m R ⟨[(5,[(5,.S),(6,.I)])],[],[]⟩ [a,i] func134
def uq(p:Nat×Nat):=da m R A0 [p,i,j] func135
def Kx(i:Int):=da m R A0 [i,j,k] func136
def rX(p:Nat×Nat):=da m R ⟨[],[(5,[(8,.I)])],[(5,[75,74])]⟩ [p,.agg [i,j,k,a,b,c],.agg [l,n,o,s,d,e],t] func137
def CO(a:O):=da m R ⟨[(3,[(3,.I),(4,.I)])],[],[]⟩ [a] func138
def vw(p:Nat×Nat):=da m R ⟨[],[(10,[(6,.I),(7,.S)])],[(10,[128,127])]⟩ [p,.agg [i,j,k,a,b,c],.agg [l,n,o,s,d,e]] func139
def vx(p:Nat×Nat):=da m R A0 [p,.agg [i,j,k,a,b,c],l] func140
def vy(p:Nat×Nat):=da m R ⟨[(1,[(4,.I)])],[],[]⟩ [p,a] func141
def oY(p:Nat×Nat):=da m R A0 [p,i] func142
def A2(a:O):=da m R ⟨[(2,[(5,.S)])],[],[]⟩ [a,b] func143
def sS(p:Nat×Nat):=da m R ⟨[(4,[(8,.I)])],[],[(4,[111,110])]⟩ [p,.agg [i,j,k,a,b,c],.agg [l,n,o,s,d,e]] func144
def uo(p:Nat×Nat):=da m R A0 [p,i,j] func145
def CW(a:O):=da m R ⟨[(3,[(5,.I),(6,.I)])],[],[]⟩ [a,i] func146
def Aj(a:O):=da m R ⟨[(4,[(39,.I)]),(9,[(64,.I)])],[],[(9,[108])]⟩ [a,b] func147
def oH(p q:Nat×Nat):=da m R A0 [i,p,q] func148
end
section
open Tryz
variable{m:E}{R:Value->E->Prop}
variable{a b c d e f g h p q r u v w x y:O}{i j k l n o s t z A B C D F G H:Int}
def oI(p:Nat×Nat):=da m R A0 [i,p] func149
def qD(b c:O)(d e f g:Int)(h i:O)(a:Fn×Array Value×Array Value):=da m R A0 [.agg [b,c],.agg [d,e,f,g,h,i],.c (.fv a)] func150
def rU(a:O):=da m R A0 [.agg [a,b],.agg [i,j,k,l,c,d]] func151
def Ad(a:O):=da m R ⟨[(6,[(48,.I)])],[(5,[])],[(5,[69]),(6,[69])]⟩ [a,.agg [i,j,b]] func152
def Gn(a:O):=da m R A0 [a,i] func153
def qG(s:O)(f:Fn×Array Value×Array Value):=da m R ⟨[(2,[(8,.I)])],[],[]⟩ [s,.c (.fv f)] func154
def zt(a:O):=da m R ⟨[(4,[(3,.I)])],[],[]⟩ [a] func155
def CF(a:O):=da m R ⟨[(2,[(5,.I)])],[],[]⟩ [a,b] func156
def BP(a:O):=da m R ⟨[(2,[(5,.I)])],[],[]⟩ [a,b] func157
def zp(a:O):=da m R ⟨[(4,[(9,.I)])],[(10,[])],[(4,[241,238,237]),(10,[241,238,237])]⟩ [.agg [a,b],.agg [c,d,i,j,e],k] func158
def EQ(a:O):=da m R A0 [.agg [a,b],i,j,c,d] func159
def EP(a:O):=da m R ⟨[(3,[(4,.I)])],[],[(3,[75,74])]⟩ [.agg [a,b]] func162
def wu(p:Nat×Nat):=da m R ⟨[],[(4,[]),(6,[]),(9,[]),(11,[])],[(4,[37]),(6,[37]),(9,[37]),(11,[37])]⟩ [p] func163
def BH(a:O):=da m R ⟨[(3,[(4,.I)])],[],[(3,[45,44])]⟩ [.agg [a,b]] func164
def AU(a:O):=da m R ⟨[(3,[(4,.I)]),(8,[(6,.S),(7,.I)])],[],[(3,[62,61]),(8,[65,62,61])]⟩ [.agg [a,b]] func165
def AL(p:Nat×Nat):=da m R A0 [p,.agg [i,j,k,l,a,b]] func166
end
end Go.Proofs.YtkoifinbblcbiaaGreat
