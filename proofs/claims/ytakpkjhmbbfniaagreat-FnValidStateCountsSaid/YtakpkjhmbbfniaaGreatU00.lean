/- Part of a proof, joined by a program. -/
import Derived.KernelRfl
import Derived.Laws.Append
import Derived.Laws.Cells
import Derived.Laws.Entries
import Derived.Laws.IdiomCopy
import Derived.Orders
import Derived.OrdersHeld
import Derived.Still
import Derived.Tactics
set_option linter.unusedVariables false
set_option linter.unusedSimpArgs false
set_option linter.defProp false
set_option linter.constructorNameAsVariable false
set_option maxHeartbeats 8000000
set_option maxRecDepth 100000
namespace Go.Vc
def ad:=@Nat.le_refl
def ae:=@if_neg
def ah:=@List.mem_cons_of_mem
def an:=@beq_eq_false_iff_ne
def ao:=@decide_eq_true_eq
def aq:=@if_pos
def aw:=@List.getElem?_append_left
def aF:=@List.getElem?_append_right
def aK:=@Nat.lt_of_lt_of_le
def aL:=@beq_iff_eq
def aS:=@List.mem_cons_self
def aT:=@List.mem_cons
def aX:=@Nat.lt_or_ge
def ba:=@List.length_cons
def bg:=@List.length_append
def bh:=@Nat.eq_of_beq_eq_true
def bE:=@Bool.and_eq_true
def bH:=@List.mem_append_left
def bI:=@Nat.le_trans
def bN:=@decide_eq_false_iff_not
def bP:=@Bool.or_eq_false_iff
def bQ:=@Nat.zero_add
def bW:=@List.getElem?_map
def bZ:=@List.getElem?_eq_none
def cb:=@List.map_cons
def cr:=@Bool.or_eq_true
def cw:=@List.mem_of_mem_take
def cx:=@List.mem_or_eq_of_mem_set
def cN:=@List.cons_append
def cZ:=@List.length_take
def da:=@Nat.mul_le_mul_right
def df:=@List.take_append_drop
def di:=@List.getElem?_take_of_lt
def dC:=@List.getElem?_set_self
def dD:=@List.take_of_length_le
def dE:=@Nat.add_assoc
def dG:=@Classical.byContradiction
def dO:=@List.getElem?_set_ne
def dP:=@Nat.mul_one
def dS:=@List.nil_append
def dY:=@Int.le_refl
def dZ:=@Nat.zero_le
def eG:=@List.length_nil
def eI:=@List.append_assoc
def eJ:=@List.map_nil
def eN:=@Classical.choose_spec
def eO:=@List.mem_append_right
def eP:=@List.length_map
def eQ:=@List.map_append
def eT:=@List.take_length
def fy:=@Nat.not_lt_zero
def fD:=@Nat.add_mul
def fE:=@bne_eq_false_iff_eq
def fK:=@List.ext_getElem?
def fR:=@List.getElem?_cons_succ
def gE:=@Classical.em
def gV:=@List.append_nil
def gW:=@List.dropLast_concat_getLast
def gX:=@List.length_set
def ic:=@List.set_cons_succ
def ig:=@List.set_cons_zero
def iF:=@Bool.not_eq_true'
def iG:=@List.flatten_cons
def iH:=@List.getD_eq_getElem?_getD
def iI:=@List.getElem?_set
def iJ:=@Nat.add_zero
def iK:=@Option.map_eq_some_iff
def iO:=@Nat.min_eq_left
def iW:=@Array.getElem?_setIfInBounds_ne
def ji:=@Bool.false_eq_true
def jk:=@List.not_mem_nil
def jm:=@Nat.eq_zero_or_pos
def jo:=@cond_true
def jx:=@List.mem_of_getElem?
def ka:=@List.mem_singleton
def kd:=@List.getElem?_toArray
def kj:=@Nat.le_of_ble_eq_true
def km:=@Ne.symm
def kU:=@List.flatMap_cons
def lj:=@cond_false
def lM:=@List.map_toArray
def lT:=@List.getLast?_eq_some_getLast
def lU:=@List.take_append_of_le_length
def lZ:=@List.getElem?_take
def me:=@Nat.lt_of_le_of_lt
def mq:=@Option.map_some
def mz:=@gt_iff_lt
def mS:=@List.sizeOf_lt_of_mem
def nk:=@Nat.le_succ_of_le
def oh:=@Int.tdiv_eq_ediv_of_nonneg
def om:=@Nat.succ_mul
def oC:=@List.drop_eq_getElem_cons
def oV:=@List.length_take_le
def oW:=@List.replicate_succ
def pZ:=@List.getElem?_drop
def ql:=@List.getElem?_cons_zero
def rS:=@Int.toNat_natCast
def rT:=@congrArg
def rU:=@if_false
def tB:=@Option.getD_some
def tC:=@bne_iff_ne
def tD:=@not_or
def vz:=@Option.some.inj
def vQ:=@Array.getElem?_push
def vR:=@List.flatten_append
def wO:=@Array.getD_eq_getD_getElem?
def wP:=@Int.lt_or_le
def wQ:=@List.map_set
def wR:=@Nat.le_of_eq
def wS:=@ge_iff_le
def yY:=@Array.ext_getElem?
def yZ:=@or_false
def A2:=@List.size_toArray
def CE:=@List.set_eq_of_length_le
def Er:=@Nat.add_sub_cancel_left
def Es:=@Nat.le_of_not_lt
def FY:=@List.drop_of_length_le
def GF:=@Bool.eq_iff_iff
def HD:=@Array.getElem?_modify
def JF:=@Bool.not_false
def JG:=@List.take_take
def Ke:=@List.getElem?_range
def Kf:=@List.length_reverse
def Kg:=@List.take_succ_cons
def Kh:=@Nat.testBit_two_pow
def KY:=@List.all_cons
def KZ:=@List.map_take
def K4:=@Prod.mk.injEq
def Mm:=@List.set_eq_take_append_cons_drop
def Nw:=@List.any_nil
def Nx:=@List.findIdx_lt_length_of_exists
def Ny:=@Nat.le_of_lt
def Nz:=@Nat.zero_mul
def NA:=@Option.some.injEq
def NB:=@of_decide_eq_true
def PW:=@List.range_succ
def P2:=@dif_pos
def Rg:=@List.mapM_cons
def Rh:=@Nat.eq_of_mul_eq_mul_right
def Ri:=@Nat.mul_le_mul
def Rj:=@Nat.testBit_or
def Rn:=@Array.mapM_eq_mapM_toList
def Sk:=@Array.getElem?_replicate
def Sn:=@Bool.false_or
def So:=@Bool.not_true
def Sp:=@Bool.or_false
def Sq:=@Bool.true_and
def Sr:=@List.eq_of_mem_replicate
def Uk:=@Array.getElem?_eq_none
def Ul:=@Iff.rfl
def Um:=@List.map_map
def Un:=@List.mem_map
def Uo:=@Nat.sub_zero
def Up:=@if_true
def UA:=@Array.getElem?_mapIdx
def UB:=@Array.getElem?_toList
def UC:=@List.set_append_right
def UD:=@Nat.ble_eq_true_of_le
def V0:=@Int.add_mul
def V1:=@List.mem_of_mem_drop
def V2:=@List.set_append_left
def Wj:=@Array.length_toList
def Wk:=@Array.toList_zipIdx
def Xn:=@Array.foldl_toList
def Xo:=@Bool.not_eq_false'
def Yj:=@Function.comp_def
def Yk:=@List.nodup_append
def Yl:=@List.reverse_cons
def Yv:=@List.countP_cons
def Yw:=@List.flatMap_def
def Yx:=@List.getElem_mem
def Yy:=@List.length_drop
def Yz:=@List.take_append
def YA:=@Nat.le_add_right
def YB:=@exists_eq_or_imp
def YC:=@false_iff
def YD:=@forall_eq
def YE:=@forall_eq_or_imp
def YI:=@Array.size_push
def YJ:=@List.map_const'
def YK:=@List.mem_append
def YL:=@Nat.testBit_and
theorem dit{p A B:Prop}{i:Decidable p}(f:p->A)(g:¬p->B):(decide p=true->A)/\(decide p=false->B):=⟨λh=>f (NB h),λh=>g (of_decide_eq_false h)⟩
theorem V{p:Prop}(h:p:=by omega):p:=h
theorem E{p:Prop}(h:p:=by simp):p:=h
theorem bd{p:Prop}(h:p:=by decide):p:=h
theorem bF{p:Prop}(h:p:=by simp;omega):p:=h
end Go.Vc
section
namespace Go.Vc
variable{n:Nat}{a:Act}
abbrev I:=Array Obj
def D(m:I)(b o:Nat):Option Value:=
 match m[b]? with
 |some (.cells c _ _)=>c[o]?
 |_=>none
def NX(m:I)(b o:Nat):Bool:=
 match m[b]? with
 |some (.cells _ _ (c,a))=>c<=o&&o<a
 |_=>false
def xE(m:I)(b o:Nat)(v:Value):I:=
 m.modify b λ
  | .cells c e f=>.cells (c.setIfInBounds o v) e f
  |x=>x
def xf(w:World)(b o:Nat):w.cell? ⟨b,o,none⟩=D w.heap b o:=by
 simp only[World.cell?,D];cases h:w.heap[b]? with
 |none=>rfl
 |some x=>cases x<;>simp
def NY(w:World)(b o:Nat):w.frozen? ⟨b,o,none⟩=NX w.heap b o:=by
 simp only[World.frozen?,NX];cases h:w.heap[b]? with
 |none=>rfl
 |some x=>cases x<;>simp
def LJ(w:World)(b o:Nat)(v:Value):(w.setCell ⟨b,o,none⟩ v).heap=xE w.heap b o v:=by
 simp only[World.setCell,xE];congr 1
structure nl(w w':World):Prop where
 os:w'.os=w.os
 tape:w'.tape=w.tape
 output:w'.output=w.output
def nl.aC(w:World):nl w w:=⟨rfl,rfl,rfl⟩
def nl.trans{a b c:World}(h:nl a b)(k:nl b c):nl a c:=⟨k.os.trans h.os,k.tape.trans h.tape,k.output.trans h.output⟩
def aN(P:Program)(f:FuncId)(b:List Value)(m:I)(K:Value->I->Prop):Prop:=
 ∀w:World,w.heap=m->Calls P f b.toArray w λe a=>∃v,e=.returned v/\nl w a/\K v a.heap
def aN.mono{P:Program}{f:FuncId}{b:List Value}{m:I}{K a:Value->I->Prop}(h:aN P f b m K)
 (e:∀v c,K v c->a v c):aN P f b m a:=
 λw i=>(h w i).mono λ_ _⟨v,d,g,c⟩=>⟨v,d,g,e _ _ c⟩
inductive O where
 |nil
 |mk (b o len cap:Nat)
 |Bi (b o sp:Nat)
def O.v:O->Value
 | .nil=>.slice none 0 0
 | .mk b o l c=>.slice (some ⟨b,o,none⟩) l c
 | .Bi b o a=>.slice (some ⟨b,o,some a⟩) 0 0
def O.len:O->Nat
 | .nil=>0
 | .mk _ _ l _=>l
 | .Bi _ _ _=>0
def O.cap:O->Nat
 | .nil=>0
 | .mk _ _ _ c=>c
 | .Bi _ _ _=>0
def O.F:O->Nat
 | .nil=>0
 | .mk b _ _ _=>b
 | .Bi b _ _=>b
def O.off:O->Nat
 | .nil=>0
 | .mk _ o _ _=>o
 | .Bi _ o _=>o
@[simp] theorem O.O1 (b o sp:Nat):(O.Bi b o sp).len=0:=rfl
@[simp] theorem O.RE (b o sp:Nat):(O.Bi b o sp).cap=0:=rfl
@[simp] theorem O.LC:O.nil.len=0:=rfl
@[simp] theorem O.RF:O.nil.cap=0:=rfl
@[simp] theorem O.V8:O.nil.F=0:=rfl
@[simp] theorem O.Wd:O.nil.off=0:=rfl
@[simp] theorem O.fZ (b o l c:Nat):(O.mk b o l c).len=l:=rfl
@[simp] theorem O.Ln (b o l c:Nat):(O.mk b o l c).cap=c:=rfl
@[simp] theorem O.jb (b o l c:Nat):(O.mk b o l c).F=b:=rfl
@[simp] theorem O.mN (b o l c:Nat):(O.mk b o l c).off=o:=rfl
def O.Di:O->Bool
 | .nil=>true
 | .mk _ _ _ _=>false
 | .Bi _ _ _=>false
@[simp] theorem O.Uv:O.nil.Di=true:=rfl
@[simp] theorem O.Uu (b o sp:Nat):(O.Bi b o sp).Di=false:=rfl
@[simp] theorem O.Vk (b o l c:Nat):(O.mk b o l c).Di=false:=rfl
def O.cF:O->Option Addr
 | .nil=>none
 | .mk b o _ _=>some ⟨b,o,none⟩
 | .Bi b o a=>some ⟨b,o,some a⟩
def O.Uj(s:O):s.v=.slice s.cF s.len s.cap:=by cases s<;>rfl
inductive Ce where
 |i (n:Int)
 |u (k:IntKind) (n:Int)
 |t (x:Bool)
 |s (x:O)
 |p (b o:Nat)
 |pn
 |fn (f:Fn) (first captured:Array Value)
 |fv (q:Fn×Array Value×Array Value)
 |nf
 |Ye (x:ByteArray)
 |mp (b:Nat)
 |mn
 |bp (k b o:Nat)
def Ce.v:Ce->Value
 | .i n=>.int .i64 n
 | .u k n=>.int k n
 | .t x=>.bool x
 | .s x=>x.v
 | .p b o=>.pointer (some ⟨b,o,none⟩)
 | .pn=>.pointer none
 | .fn f a c=>.func f a c
 | .fv q=>.func q.1 q.2.1 q.2.2
 | .nf=>.nilFunc
 | .Ye x=>.string x
 | .mp b=>.map (some b)
 | .mn=>.map none
 | .bp _ b o=>.pointer (some ⟨b,o,none⟩)
inductive AV where
 |c (x:Ce)
 |agg (l:List Ce)
def AV.v:AV->Value
 | .c x=>x.v
 | .agg l=>.agg (l.map Ce.v).toArray
inductive SV where
 |c (x:Ce)
 |tt
 |ff
 |agg (l:List Ce)
 |Ui (l:List AV)
 |un
 |ib
 |box (b e:Nat) (l:List Ce)
 |wZ (b e:Nat) (l:List Ce)
def SV.v:SV->Value
 | .c x=>x.v
 | .tt=>.bool true
 | .ff=>.bool false
 | .agg l=>.agg (l.map Ce.v).toArray
 | .Ui l=>.tuple (l.map AV.v).toArray
 | .un=>undef
 | .ib=>undef
 | .box _ _ _=>undef
 | .wZ _ _ _=>undef
def SV.Is:SV->Value->Prop
 | .ib,_=>True
 | .box _ _ _,_=>True
 | .wZ _ _ _,_=>True
 |s,v=>v=s.v
def AV.sv:AV->SV
 | .c x=>.c x
 | .agg l=>.agg l
def AV.Xk(x:AV):x.sv.v=x.v:=by cases x<;>rfl
abbrev Fr:=List (Nat×SV)
def fS:Fr->Nat->SV
 |[],_=>.ib
 |(u,x)::r,t=>bif Nat.beq u t then x else fS r t
def SV.nb:SV->SV
 | .box _ _ _=>.ib
 | .wZ _ _ _=>.ib
 |x=>x
def rY(a:Fr)(d:Option Nat)(x:SV):Fr:=
 match d with
 |some d=>(d,x.nb)::a
 |none=>a
def SV.QR{x:SV}{v:Value}(h:x.Is v):x.nb.Is v:=by
 cases x<;>first|exact h|trivial
def Ce.kv(x:Ce):x.v.cells=#[x.v]:=by
 cases x with
 |s y=>cases y<;>rfl
 |_=>rfl
def jF:Value->Option Ce
 | .int .i64 n=>some (.i n)
 | .int k n=>some (.u k n)
 | .bool x=>some (.t x)
 | .slice none 0 0=>some (.s .nil)
 | .pointer none=>some .pn
 | .nilFunc=>some .nf
 | .string x=>some (.Ye x)
 |_=>none
def Ky{x:Value}{c:Ce}(h:jF x=some c):c.v=x:=by
 unfold jF at h;split at h<;>simp at h<;>subst h<;>rfl
def nG:List Value->Option (List Ce)
 |[]=>some []
 |v::b=>match jF v,nG b with
  |some c,some a=>some (c::a)
  |_,_=>none
def If:∀{b:List Value}{a:List Ce},nG b=some a->a.map Ce.v=b
 |[],_,h=>by simp[nG]at h;subst h;rfl
 |v::b,a,h=>by
  simp only[nG]at h;split at h
  ·rename_i e f c d;simp at h;subst h;simp[Ky c,If d]
  ·simp at h
def CT:Value->SV
 | .bool true=>.tt
 | .bool false=>.ff
 | .agg a=>match nG a.toList with
  |some l=>.agg l
  |none=>.ib
 | .tuple a=>bif a.toList.isEmpty then .un else .ib
 |v=>match jF v with
  |some c=>.c c
  |none=>.ib
def NM(x:Value):(CT x).Is x:=by
 unfold CT;split
 ·rfl
 ·rfl
 ·rename_i a;split
  ·rename_i l b;show Value.agg a=.agg (l.map Ce.v).toArray;rw[If b]
  ·trivial
 ·rename_i a;cases h:a.toList.isEmpty
  ·trivial
  ·show Value.tuple a=undef;have:a=#[]:=by simpa using h
   rw[this];rfl
 ·split
  ·rename_i c a;exact(Ky a).symm
  ·trivial
def ev(a:Fr):Operand->SV
 | .tmp t=>(fS a t).nb
 | .const v=>CT v
 | .global g=>.c (.p g 0)
 | .func f=>.c (.fn (.func f) #[] #[])
structure jq(n:Nat)(fr:Fr)(a:Act):Prop where
 size:a.tmps.size=n
 defers:a.defers=[]
 u:∀t,(fS fr t).Is (a.tmps.getD t undef)
def jq.ev{b:Fr}(h:jq n b a)(x:Operand):(ev b x).Is (a.eval x):=by
 cases x with
 |tmp t=>exact SV.QR (h.u t)
 |const v=>exact NM v
 |global g=>rfl
 |func f=>rfl
def jq.put{n:Nat}{b:Fr}{a:Act}(h:jq n b a){d:Option Nat}{x:SV}{v:Value}(i:x.Is v)(f:∀t,d=some t->t<n):
 jq n (rY b d x) (a.put d v):=by
 cases d with
 |none=>exact h
 |some d=>
  refine⟨by simpa[Act.put]using h.size,h.defers,λt=>?_⟩
  have g:d<a.tmps.size:=by rw[h.size];exact f d rfl
  simp only[rY,fS,Act.put]
  by_cases e:d=t
  ·subst e
   simp only[Nat.beq_refl,jo]
   simpa[g]using SV.QR i
  ·have:Nat.beq d t=false:=by
    cases c:Nat.beq d t
    ·rfl
    ·exact absurd (bh c) e
   simp only[this,lj]
   have:=h.u t
   simpa[iW e]using this
def jq.cons{b:Fr}(h:jq n b a)(t:Nat){x:SV}(c:∀v,x.Is v):jq n ((t,x)::b) a:=by
 refine⟨h.size,h.defers,λu=>?_⟩;simp only[fS];cases d:Nat.beq t u
 ·exact h.u u
 ·exact c _
def jq.ib{b:Fr}(h:jq n b a)(t:Nat):jq n ((t,.ib)::b) a:=by
 refine⟨h.size,h.defers,λu=>?_⟩;simp only[fS];cases c:Nat.beq t u
 ·exact h.u u
 ·trivial
end Go.Vc
end
section
namespace Go.Vc
variable{P:Program}{t e b:Nat}
inductive Sh where
 |I
 |U (k:IntKind)
 |T
 |S
 |P
 |F
 |M
 deriving DecidableEq
abbrev Sh.ty:Sh->Type
 | .I=>Int
 | .U _=>Int
 | .T=>Bool
 | .S=>O
 | .P=>Nat×Nat
 | .F=>Fn×Array Value×Array Value
 | .M=>Nat
abbrev Sh.mk:(s:Sh)->s.ty->Ce
 | .I,n=>.i n
 | .U k,n=>.u k n
 | .T,x=>.t x
 | .S,x=>.s x
 | .P,q=>.p q.1 q.2
 | .F,v=>.fv v
 | .M,b=>.mp b
def Sh.zero:Sh->Ce
 | .I=>.i 0
 | .U k=>.u k 0
 | .T=>.t false
 | .S=>.s .nil
 | .P=>.pn
 | .F=>.nf
 | .M=>.mn
inductive TK where
 |cell
 |slice (elem:Nat)
 |struct (offs:List (Nat×Nat))
 |tuple (ts:List Nat)
 |map (key elem:Nat)
structure TI where
 EN:TK
 sh:List Sh
 bytes:Nat
abbrev TT:=List (Nat×TI)
def fm:TT->Nat->Option TI
 |[],_=>none
 |(u,x)::r,t=>bif Nat.beq u t then some x else fm r t
def LO:Sh->Value->Bool
 | .I,.int .i64 0=>true
 | .U k,.int a 0=>decide (k=a)
 | .T,.bool false=>true
 | .S,.slice none 0 0=>true
 | .P,.pointer none=>true
 | .F,.nilFunc=>true
 | .M,.map none=>true
 |_,_=>false
def LP{s:Sh}{v:Value}(h:LO s v=true):v=s.zero.v:=by
 unfold LO at h;split at h<;>first|rfl|(simp at h;subst h;rfl)|simp at h
def CD:List Value->List Sh->Bool
 |[],[]=>true
 |v::b,s::a=>LO s v&&CD b a
 |_,_=>false
def yX:∀{b:List Value}{a:List Sh},CD b a=true->b=a.map λs=>s.zero.v
 |[],[],_=>rfl
 |v::b,s::a,h=>by
  simp only[CD,bE]at h;simp[LP h.1,yX h.2]
 |[],_::_,h=>by simp[CD]at h
 |_::_,[],h=>by simp[CD]at h
def KF:List Field->List (Nat×Nat)->Bool
 |[],[]=>true
 |f::a,(o,t)::r=>Nat.beq f.offset o&&Nat.beq f.type t&&KF a r
 |_,_=>false
def IK:∀{a:List Field}{b:List (Nat×Nat)},KF a b=true->a.map (λf=>(f.offset,f.type))=b
 |[],[],_=>rfl
 |f::a,(o,t)::r,h=>by
  simp only[KF,bE]at h;simp[bh h.1.1,bh h.1.2,IK h.2]
 |[],_::_,h=>by simp[KF]at h
 |_::_,[],h=>by simp[KF]at h
def Bt:TypeDesc->List Sh->Bool
 | .bool,[.T]=>true
 | .int .i64,[.I]=>true
 | .int k,[.U k']=>decide (k=k')
 | .pointer _,[.P]=>true
 | .func ..,[.F]=>true
 |_,_=>false
def zg(i:TypeInfo)(a:TI)(b:Bool):Bool:=
 Nat.beq i.size a.sh.length&&Nat.beq i.bytes a.bytes&&
 (match i.zero with
  |some (.agg c)=>b&&CD c.toList a.sh
  |some z=>!b&&CD [z] a.sh
  |none=>false)
def zq(P:Program)(t:Nat)(a:TI):Bool:=
 match a.EN with
 | .tuple _=>true
 | .slice e=>match P.info? t,P.underlying t with
  |some i,some (.slice b)=>Nat.beq e b&&zg i a false
  |_,_=>false
 | .struct d=>match P.info? t,P.underlying t with
  |some i,some (.struct c)=>KF c.toList d&&zg i a true
  |_,_=>false
 | .map k e=>match P.info? t,P.underlying t with
  |some i,some (.map c b)=>Nat.beq k c&&Nat.beq e b&&zg i a false
  |_,_=>false
 | .cell=>match P.info? t,P.underlying t with
  |some i,some d=>Bt d a.sh&&zg i a false
  |_,_=>false
def uA(P:Program)(T:TT):Prop:=T.all (λx=>zq P x.1 x.2)=true
def Nn:∀{T:TT}{t:Nat}{b:TI},fm T t=some b->(t,b)∈T
 |[],_,_,h=>by simp[fm]at h
 |(u,x)::r,t,b,h=>by
  simp only[fm]at h;cases a:Nat.beq u t
  ·rw[a]at h;exact ah _ (Nn h)
  ·rw[a]at h;have:=bh a;simp at h;subst h;subst this;exact aS
def uA.zq{T:TT}(h:uA P T){a:TI}(b:fm T t=some a):zq P t a=true:=
 List.all_eq_true.1 h _ (Nn b)
structure HQ(P:Program)(t:Nat)(ti:TI)(agg:Bool):Prop where
 Ys:∃i,P.info? t=some i/\i.size=ti.sh.length/\i.bytes=ti.bytes/\
  ∃z,i.zero=some z/\z.cells.toList=(ti.sh.map λs=>s.zero.v)/\(agg=false->∀cs,z≠.agg cs)
def qx{g:TI}{i:TypeInfo}{c:Bool}(j:P.info? t=some i)(h:zg i g c=true):HQ P t g c:=by
 simp only[zg,bE]at h;refine⟨i,j,bh h.1.1,bh h.1.2,?_⟩;have a:=h.2;split at a
 ·rename_i d b;simp only[bE]at a;exact⟨_,b,by simpa[Value.cells]using yX a.2,λf=>by rw[f]at a;simp at a⟩
 ·rename_i z f b;simp only[bE]at a;refine⟨_,b,?_,λ_ d e=>f d (by rw[e])⟩;have:=yX a.2;rw[<-this];cases z<;>first|rfl|exact(f _ rfl).elim
 ·simp at a
def js{a:List Sh}(h:zq P t ⟨.slice e,a,b⟩=true):P.underlying t=some (.slice e)/\HQ P t ⟨.slice e,a,b⟩ false:=by
 simp only[zq]at h;split at h
 ·rename_i i f c d;simp only[bE]at h;have:=bh h.1;subst this;exact⟨d,qx c h.2⟩
 ·simp at h
def zr{k:Nat}{a:List Sh}(h:zq P t ⟨.map k e,a,b⟩=true):P.underlying t=some (.map k e)/\HQ P t ⟨.map k e,a,b⟩ false:=by
 simp only[zq]at h;split at h
 ·rename_i j l i f g;simp only[bE]at h;have c:=bh h.1.1;have d:=bh h.1.2;subst c;subst d;exact⟨g,qx f h.2⟩
 ·simp at h
def mQ{c:List (Nat×Nat)}{d:List Sh}(h:zq P t ⟨.struct c,d,b⟩=true):
 (∃a,P.underlying t=some (.struct a)/\a.toList.map (λf=>(f.offset,f.type))=c)/\HQ P t ⟨.struct c,d,b⟩ true:=by
 simp only[zq]at h
 split at h
 ·rename_i i a e f
  simp only[bE]at h
  exact⟨⟨a,f,IK h.1⟩,qx e h.2⟩
 ·simp at h
def nZ{a:List Sh}(h:zq P t ⟨.cell,a,b⟩=true):
 (∃d,P.underlying t=some d/\Bt d a=true)/\HQ P t ⟨.cell,a,b⟩ false:=by
 simp only[zq]at h
 split at h
 ·rename_i i d c e
  simp only[bE]at h
  exact⟨⟨d,e,h.1⟩,qx c h.2⟩
 ·simp at h
def TI.agg(a:TI):Bool:=match a.EN with| .struct _=>true|_=>false
def TI.sJ(a:TI):Bool:=match a.EN with| .tuple _=>true|_=>false
def jv{T:TT}(f:uA P T){d:TI}(g:fm T t=some d)(j:d.sJ=false)(w:World):
 (sizeOf t).run P w=.ok d.sh.length w:=by
 have h:=f.zq g
 obtain⟨EN,k,b⟩:=d
 have:∃i,P.info? t=some i/\i.size=k.length:=by
  cases EN with
  |cell=>obtain⟨_,⟨i,a,c,_⟩⟩:=nZ h;exact⟨i,a,c⟩
  |slice e=>obtain⟨_,⟨i,a,c,_⟩⟩:=js h;exact⟨i,a,c⟩
  |map l e=>obtain⟨_,⟨i,a,c,_⟩⟩:=zr h;exact⟨i,a,c⟩
  |struct o=>obtain⟨_,⟨i,a,c,_⟩⟩:=mQ h;exact⟨i,a,c⟩
  |tuple l=>simp[TI.sJ]at j
 obtain⟨i,a,c⟩:=this
 simp[sizeOf,typeInfo,a,c]
def Ds{T:TT}(g:uA P T){f:TI}(j:fm T t=some f)(k:f.sJ=false):
 ∃i,i.bytes=f.bytes/\i.size=f.sh.length/\(∀w,(typeInfo t).run P w=.ok i w)/\P.info? t=some i:=by
 have h:=g.zq j
 obtain⟨EN,l,b⟩:=f
 have:∃i,P.info? t=some i/\i.size=l.length/\i.bytes=b:=by
  cases EN with
  |cell=>obtain⟨_,⟨i,a,c,d,_⟩⟩:=nZ h;exact⟨i,a,c,d⟩
  |slice e=>obtain⟨_,⟨i,a,c,d,_⟩⟩:=js h;exact⟨i,a,c,d⟩
  |map m e=>obtain⟨_,⟨i,a,c,d,_⟩⟩:=zr h;exact⟨i,a,c,d⟩
  |struct o=>obtain⟨_,⟨i,a,c,d,_⟩⟩:=mQ h;exact⟨i,a,c,d⟩
  |tuple m=>simp[TI.sJ]at k
 obtain⟨i,a,c,d⟩:=this
 exact⟨i,d,c,λw=>by simp[typeInfo,a],a⟩
def tV{T:TT}(m:uA P T){k:TI}(n:fm T t=some k)(o:k.sJ=false):
 ∃z,z.cells.toList=k.sh.map (λs=>s.zero.v)/\(∀w,(zeroValue t).run P w=.ok z w)/\(k.agg=false->∀a,z≠.agg a):=by
 have h:=m.zq n
 obtain⟨EN,l,b⟩:=k
 have:∃i,P.info? t=some i/\∃z,i.zero=some z/\z.cells.toList=(l.map λs=>s.zero.v)/\((TI.mk EN l b).agg=false->∀a,z≠.agg a):=by
  cases EN with
  |cell=>obtain⟨_,⟨i,a,g,j,z,c,d,f⟩⟩:=nZ h;exact⟨i,a,z,c,d,λ_=>f rfl⟩
  |slice e=>obtain⟨_,⟨i,a,g,j,z,c,d,f⟩⟩:=js h;exact⟨i,a,z,c,d,λ_=>f rfl⟩
  |map p e=>obtain⟨_,⟨i,a,g,j,z,c,d,f⟩⟩:=zr h;exact⟨i,a,z,c,d,λ_=>f rfl⟩
  |struct p=>obtain⟨_,⟨i,a,g,j,z,c,d,f⟩⟩:=mQ h;exact⟨i,a,z,c,d,λh=>by simp[TI.agg]at h⟩
  |tuple d=>simp[TI.sJ]at o
 obtain⟨i,a,z,g,j,c⟩:=this
 exact⟨z,j,λw=>by simp[zeroValue,typeInfo,a,g],c⟩
def KR{T:TT}(f:uA P T){c:TI}(g:fm T t=some c)(i:c.sJ=false)(w:World):
 (isAgg t).run P w=.ok c.agg w:=by
 have h:=f.zq g
 obtain⟨EN,l,b⟩:=c
 cases EN with
 |cell=>
  obtain⟨⟨j,a,d⟩,_⟩:=nZ h
  unfold Bt at d
  split at d<;>first|(simp at d;done)|simp[isAgg,run_underlying a,TI.agg]
 |slice e=>obtain⟨a,_⟩:=js h;simp[isAgg,run_underlying a,TI.agg]
 |map k e=>obtain⟨a,_⟩:=zr h;simp[isAgg,run_underlying a,TI.agg]
 |struct o=>obtain⟨⟨d,a,_⟩,_⟩:=mQ h;simp[isAgg,run_underlying a,TI.agg]
 |tuple a=>simp[TI.sJ]at i
end Go.Vc
end
section
namespace Go.Vc
def jX:SV->Option Bool
 | .tt=>some true
 | .ff=>some false
 | .c (.t x)=>some x
 |_=>none
def SV.iL:SV->Bool
 | .ib=>false
 | .box _ _ _=>false
 | .wZ _ _ _=>false
 |_=>true
def cO(n:Int):Int:=IntKind.i64.wrap n
def ER{α:Type}:List α->Nat->Option α
 |[],_=>none
 |x::_,0=>some x
 |_::r,n+1=>ER r n
def nN{α:Type}:∀(l:List α)(n:Nat),ER l n=l[n]?
 |[],_=>by simp[ER]
 |x::_,0=>by simp[ER]
 |_::r,n+1=>by simp[ER,nN r n]
def SX(m:I)(b o:Nat):Nat->List Sh->(List Ce->Prop)->Prop
 |_,[],k=>k []
 |j,s::r,k=>∃x:s.ty,D m b (o+j)=some (s.mk x).v/\SX m b o (j+1) r λl=>k (s.mk x::l)
def Si(a b:Int):Int:=cO ((a%18446744073709551616).toNat^^^(b%18446744073709551616).toNat:Nat)
def pN(c:BinOp)(a b:Int)(k:SV->Prop):Prop:=
 match c with
 | .add=>k (.c (.i (cO (a+b))))
 | .sub=>k (.c (.i (cO (a -b))))
 | .mul=>k (.c (.i (cO (a*b))))
 | .quo=>b≠0/\k (.c (.i (cO (a.tdiv b))))
 | .rem=>b≠0/\k (.c (.i (a.tmod b)))
 | .xor=>k (.c (.i (Si a b)))
 | .eql=>k (.c (.t (a==b)))
 | .neq=>k (.c (.t (a !=b)))
 | .lss=>k (.c (.t (decide (a<b))))
 | .leq=>k (.c (.t (decide (a<=b))))
 | .gtr=>k (.c (.t (decide (a>b))))
 | .geq=>k (.c (.t (decide (a>=b))))
 |_=>False
def Rz(c:BinOp)(a b:Bool)(k:SV->Prop):Prop:=
 match c with
 | .eql=>k (.c (.t (a==b)))
 | .neq=>k (.c (.t (!(a==b))))
 |_=>False
def RY(a:BinOp)(s:O)(k:SV->Prop):Prop:=
 match a with
 | .eql=>k (.c (.t s.Di))
 | .neq=>k (.c (.t (!s.Di)))
 |_=>False
def Wh(a:UnOp)(x:SV)(k:SV->Prop):Prop:=
 match a,x with
 | .not,.tt=>k .ff
 | .not,.ff=>k .tt
 | .not,.c (.t b)=>k (.c (.t (!b)))
 | .neg,.c (.i n)=>k (.c (.i (cO (0 -n))))
 |_,_=>False
def O.cut(x:O)(a d e:Nat):O:=
 match x with
 | .nil=>.nil
 | .mk b o _ c=>.mk b (if c=a then o else o+a*e) (d -a) (c -a)
 | .Bi b o c=>.Bi b o c
def SV.cells:SV->Option (List Ce)
 | .c x=>some [x]
 | .tt=>some [.t true]
 | .ff=>some [.t false]
 | .agg l=>some l
 |_=>none
def kM(l:List Ce)(b:Nat)(a:List Ce):List Ce:=
 match b,l with
 |0,l=>match a,l with
  |[],l=>l
  |n::a,_::l=>n::kM l 0 a
  |_::_,[]=>[]
 |b+1,x::l=>x::kM l b a
 |_+1,[]=>[]
termination_by structural l
def CR(T:TT)(c:Fr)(e:List (Nat×Nat)):List Ce->List (Nat×Operand)->(List Ce->Prop)->Prop
 |a,[],k=>k a
 |a,(i,x)::r,k=>
  match ER e i,(ev c x).cells with
  |some (d,t),some b=>
   match fm T t with
   |some f=>bif !f.sJ&&Nat.beq b.length f.sh.length&&Nat.ble (d+b.length) a.length then CR T c e (kM a d b) r k else False
   |none=>False
  |_,_=>False
def th(T:TT):List (Nat×Nat)->Bool
 |[]=>true
 |(_,t)::r=>(match fm T t with|some a=>!a.sJ|none=>false)&&th T r
def JY(a:Fr)(x:Option Operand)(d:Int)(k:Int->Prop):Prop:=
 match x with
 |none=>k d
 |some x=>match ev a x with
  | .c (.i n)=>k n
  |_=>False
def T9(T:TT)(t:Nat)(s:O)(n:Int)(k:SV->Prop):Prop:=
 match fm T t with
 |some ⟨.slice e,_,_⟩=>match fm T e with
  |some a=>bif a.sJ then False else 0<=n/\n<(s.len:Int)/\k (.c (.p s.F (s.off+n.toNat*a.sh.length)))
  |none=>False
 |_=>False
def MS(T:TT)(m:I)(t b o:Nat)(k:SV->Prop):Prop:=
 match fm T t with
 |some ⟨.struct _,a,_⟩=>SX m b o 0 a λl=>k (.agg l)
 |some ⟨.cell,[s],_⟩=>∃x:s.ty,D m b o=some (s.mk x).v/\k (.c (s.mk x))
 |some ⟨.slice _,[_],_⟩=>∃x:O,D m b o=some x.v/\k (.c (.s x))
 |_=>False
def Oq(T:TT)(a:Fr)(t:Nat)(s:O)(d c:Option Operand)(k:SV->Prop):Prop:=
 match fm T t with
 |some ⟨.slice e,_,_⟩=>match fm T e with
  |some b=>bif b.sJ then False else
   JY a d 0 λl=>JY a c (s.len:Int) λh=>0<=l/\l<=h/\h<=(s.cap:Int)/\k (.c (.s (s.cut l.toNat h.toNat b.sh.length)))
  |none=>False
 |_=>False
def Lz(T:TT)(t f:Nat)(l:List Ce)(k:SV->Prop):Prop:=
 match fm T t with
 |some ⟨.struct c,_,_⟩=>match ER c f with
  |some (b,u)=>match fm T u with
   |some a=>bif a.sJ then False else bif a.agg then k (.agg ((l.drop b).take a.sh.length))else(match ER l b with|some x=>k (.c x)|none=>False)
   |none=>False
  |none=>False
 |_=>False
def CX(T:TT)(t f o:Nat)(mk:Nat->SV)(k:SV->Prop):Prop:=
 match fm T t with
 |some ⟨.struct c,_,_⟩=>match ER c f with
  |some (b,u)=>match fm T u with
   |some a=>bif a.sJ||Nat.beq a.sh.length 0 then False else k (mk (o+b))
   |none=>False
  |none=>False
 |_=>False
def Ly(a b:Nat)(k:Prop):Prop:=a=b/\k
def aE(b:Nat)(k:Prop):Ly b b k=k:=by simp[Ly]
def Ei:List Ce->Nat->Nat->Option (List Ce)
 |_,_,0=>some []
 |l,o,n+1=>match ER l o,Ei l (o+1) n with
  |some c,some r=>some (c::r)
  |_,_=>none
def Kw(T:TT)(t:Nat)(a:List Ce)(o:Nat)(k:SV->Prop):Prop:=
 match fm T t with
 |some ⟨.struct _,b,_⟩=>match Ei a o b.length with
  |some l=>k (.agg l)
  |none=>False
 |some ⟨.cell,[_],_⟩=>match ER a o with
  |some c=>k (.c c)
  |none=>False
 |some ⟨.slice _,[_],_⟩=>match ER a o with
  |some c=>k (.c c)
  |none=>False
 |some ⟨.map _ _,[_],_⟩=>match ER a o with
  |some c=>k (.c c)
  |none=>False
 |_=>False
def Qj(T:TT)(c:Fr)(d:Builtin)(e:List Nat)(f:List Operand)(k:SV->Prop):Prop:=
 match d,e,f with
 | .len,[t],[x]=>match fm T t,ev c x with
  |some ⟨.slice _,_,_⟩,.c (.s s)=>k (.c (.i (s.len:Int)))
  |_,_=>False
 | .max,_,[x,y]=>match ev c x,ev c y with
  | .c (.i a),.c (.i b)=>k (.c (.i (if b>a then b else a)))
  |_,_=>False
 | .min,_,[x,y]=>match ev c x,ev c y with
  | .c (.i a),.c (.i b)=>k (.c (.i (if b<a then b else a)))
  |_,_=>False
 |_,_,_=>False
def rd(T:TT)(a:Fr)(m:I)(k:SV->Prop):Op->Prop
 | .move x| .assign x=>k (ev a x)
 | .pick d c b=>match ev a d with
  | .tt=>k (ev a c)
  | .ff=>k (ev a b)
  | .c (.t x)=>match jX (ev a c),jX (ev a b)with
   |some y,some z=>k (.c (.t (bif x then y else z)))
   |_,_=>False
  |_=>False
 | .nilCheck x=>match ev a x with
  | .c (.p b o)=>k (.c (.p b o))
  | .c (.bp q b o)=>k (.c (.bp q b o))
  | .c (.fn (.func f) c d)=>k (.c (.fn (.func f) c d))
  | .c (.fv q)=>∃g,q.1=.func g/\k (.c (.fv q))
  |_=>False
 | .binOp d t x y _=>match ev a x,ev a y with
  | .c (.i c),.c (.i b)=>pN d c b k
  | .c (.s s),.c (.s .nil)=>match fm T t with
   |some ⟨.slice _,_,_⟩=>RY d s k
   |_=>False
  |e,g=>match fm T t,jX e,jX g with
   |some ⟨.cell,[.T],_⟩,some c,some b=>Rz d c b k
   |_,_,_=>False
 | .unOp d _ x=>Wh d (ev a x) k
 | .convert s t x=>match fm T s,fm T t,ev a x with
  |some ⟨.cell,[_],_⟩,some ⟨.cell,[.I],_⟩,.c (.u _ n)=>k (.c (.i (cO n)))
  |_,_,_=>False
 | .fieldAddr t x f=>match ev a x with
  | .c (.p b o)=>CX T t f o (λo=>.c (.p b o)) k
  | .c (.bp q b o)=>CX T t f o (λo=>.c (.bp q b o)) k
  |_=>False
 | .field t x f=>match ev a x with
  | .agg l=>Lz T t f l k
  |_=>False
 | .indexAddr t x i=>match ev a x,ev a i with
  | .c (.s s),.c (.i n)=>T9 T t s n k
  |_,_=>False
 | .load t x=>match ev a x with
  | .c (.p b o)=>MS T m t b o k
  | .c (.bp q b o)=>match fS a q with
   | .box c _ d=>Ly c b (Kw T t d o k)
   | .wZ c _ d=>Ly c b (Kw T t d o k)
   |_=>MS T m t b o k
  |_=>False
 | .extract x i=>match ev a x with
  | .Ui l=>match ER l i with
   |some y=>k y.sv
   |none=>False
  |_=>False
 | .slice t x c b none=>match ev a x with
  | .c (.s s)=>Oq T a t s c b k
  |_=>False
 | .build t c=>match fm T t with
  |some ⟨.struct b,d,_⟩=>bif th T b then CR T a b (d.map Sh.zero) c.toList λl=>k (.agg l)else False
  |_=>False
 | .call ⟨.builtin c,b,d⟩=>Qj T a c d.toList b.toList k
 |_=>False
def ku(a:Fr)(q b e:Nat)(l:List Ce):Prop:=fS a q=.box b e l\/fS a q=.wZ b e l
structure Bx(n:Nat)(fr:Fr)(m:I):Prop where
 F:∀q b e l,ku fr q b e l->m[b]? =some (.cells (l.map Ce.v).toArray e)
 Lq:∀q q' b e l b' e' l',q≠q'->ku fr q b e l->ku fr q' b' e' l'->b≠b'
 key:∀q b e l,ku fr q b e l->n<=q
def PZ(T:TT)(c:Fr):Op->List (Nat×Nat)
 | .load t x=>match ev c x,fm T t with
  | .c (.p b o),some a=>(List.range a.sh.length).map λj=>(b,o+j)
  | .c (.bp _ b o),some a=>(List.range a.sh.length).map λj=>(b,o+j)
  |_,_=>[]
 |_=>[]
end Go.Vc
end
section
namespace Go.Vc
variable{s:SV}{b:Bool}
def SV.Is.eq{v:Value}(h:s.Is v)(a:s.iL=true):v=s.v:=by
 cases s<;>first|exact h|simp[SV.iL]at a
def mJ(s:SV):s.Is s.v:=by cases s<;>first|rfl|trivial
def jq.eq{n:Nat}{b:Fr}{a:Act}(h:jq n b a){x:Operand}{s:SV}(c:Vc.ev b x=s)(d:s.iL=true):a.eval x=s.v:=by
 have:=h.ev x;rw[c]at this;exact this.eq d
def uD(h:jX s=some b):s.iL=true/\s.v=.bool b:=by
 unfold jX at h;split at h<;>simp_all [SV.iL,SV.v,Ce.v]
def jq.Wb{n:Nat}{c:Fr}{a:Act}(h:jq n c a){x:Operand}(d:jX (Vc.ev c x)=some b):a.eval x=.bool b:=by
 rw[h.eq rfl (uD d).1,(uD d).2]
def tH(b o n:Nat):(⟨b,o,none⟩:Addr).add n=⟨b,o+n,none⟩:=by
 unfold Addr.add;split
 ·rename_i h;subst h;rfl
 ·rfl
def zm:∀(l:List Ce)(a:Nat)(b:List Ce)(i:Nat),a+b.length<=l.length->
 (kM l a b)[i]? =if a<=i/\i<a+b.length then b[i -a]? else l[i]?
 |[],0,[],i,_=>by simp[kM]
 |[],0,_::_,_,h=>by simp at h
 |[],_+1,_,_,h=>by simp at h
 |x::l,0,[],i,_=>by simp[kM]
 |x::l,0,n::b,i,h=>by
  simp only[kM];cases i with
  |zero=>simp
  |succ i=>
   have:=zm l 0 b i (by simp at h;omega);simp only[fR,this];simp
 |x::l,a+1,b,i,h=>by
  simp only[kM];cases i with
  |zero=>simp
  |succ i=>
   have:=zm l a b i (by simp at h;omega);simp only[fR,this];have e:(i+1 -(a+1))=i -a:=V;simp only[e];congr 1;simp;omega
def KA(c:List Value):∀(k a:Nat)(b:Array Value)(i:Nat),
 ((c.zipIdx k).foldl (λ(d:Array Value)(p:Value×Nat)=>d.setIfInBounds (a+p.2) p.1) b)[i]? =
  if a+k<=i/\i<a+k+c.length/\i<b.size then c[i -(a+k)]? else b[i]? :=by
 induction c with
 |nil=>intro k a b i;simp;intro h;omega
 |cons v c g=>
  intro k a b i
  simp only[List.zipIdx_cons,List.foldl_cons,g,Array.size_setIfInBounds,ba]
  by_cases d:i=a+k
  ·subst d
   by_cases e:a+k<b.size
   ·simp[e];try omega
   ·simp[e];try omega
  ·have:¬(a+k=i):=λf=>d f.symm
   rw[iW this]
   by_cases e:a+k<=i/\i<a+k+(c.length+1)/\i<b.size
   ·rw[aq e,aq V]
    have:i -(a+k)=(i -(a+(k+1)))+1:=V
    rw[this,fR]
   ·rw[ae e,ae V]
def nF{l:List Ce}(h:s.cells=some l):s.iL=true/\s.v.cells=(l.map Ce.v).toArray:=by
 cases s with
 |c x=>simp[SV.cells]at h;subst h;exact⟨rfl,by simp[SV.v,Ce.kv]⟩
 |tt=>simp[SV.cells]at h;subst h;exact⟨rfl,rfl⟩
 |ff=>simp[SV.cells]at h;subst h;exact⟨rfl,rfl⟩
 |agg a=>simp[SV.cells]at h;subst h;exact⟨rfl,rfl⟩
 |Ui _=>simp[SV.cells]at h
 |un=>simp[SV.cells]at h
 |ib=>simp[SV.cells]at h
 |box _ _ _=>simp[SV.cells]at h
 |wZ _ _ _=>simp[SV.cells]at h
end Go.Vc
end
section
namespace Go.Vc
variable{x y:Operand}{c:BinOp}{t:TypeId}{f b o:Nat}
variable{P:Program}{T:TT}
def mW(P:Program)(T:TT)(b:Fr)(m:I)(a:Act)(o:Oper)(k:SV->Prop):Prop:=
 ∃x v,k x/\x.Is v/\∀w:World,(∀q∈PZ T b o.op,D w.heap q.1 q.2=D m q.1 q.2)->(execOp a.eval o).run P w=.ok (.value v) w
section
variable{n:Nat}{e:Fr}{a:Act}{m:I}{k:SV->Prop}{h:Option Tmp}{p:TypeId}{j:String}{g:Array Edge}{i:Option (Nat×Bool)}
def QD(c:jq n e a)(b:k (ev e x)):mW P T e m a ⟨h,.move x,p,j,g,i⟩ k:=
 ⟨_,_,b,c.ev x,λw _=>by simp[execOp]⟩
def PC(c:jq n e a)(b:k (ev e x)):mW P T e m a ⟨h,.assign x,p,j,g,i⟩ k:=
 ⟨_,_,b,c.ev x,λw _=>by simp[execOp]⟩
def N6(d:jq n e a){l:Operand}(c:rd T e m k (.pick l x y)):mW P T e m a ⟨h,.pick l x y,p,j,g,i⟩ k:=by
 simp only[rd]at c;split at c
 ·rename_i f;exact⟨_,_,c,d.ev x,λw _=>by simp[execOp,d.eq f rfl,SV.v,asBool]⟩
 ·rename_i f;exact⟨_,_,c,d.ev y,λw _=>by simp[execOp,d.eq f rfl,SV.v,asBool]⟩
 ·rename_i b f;split at c
  ·rename_i r s o q;refine⟨_,_,c,mJ _,λw _=>?_⟩;simp[execOp,d.eq f rfl,SV.v,Ce.v,asBool,d.Wb o,d.Wb q];try (cases b<;>rfl)
  ·exact c.elim
 ·exact c.elim
def It(l:jq n e a)(c:rd T e m k (.nilCheck x)):mW P T e m a ⟨h,.nilCheck x,p,j,g,i⟩ k:=by
 simp only[rd]at c;split at c
 ·rename_i b o d;exact⟨_,_,c,mJ _,λw _=>by simp[execOp,l.eq d rfl,SV.v,Ce.v]⟩
 ·rename_i s b o d;exact⟨_,_,c,mJ _,λw _=>by simp[execOp,l.eq d rfl,SV.v,Ce.v]⟩
 ·rename_i f q r d;exact⟨_,_,c,mJ _,λw _=>by simp[execOp,l.eq d rfl,SV.v,Ce.v]⟩
 ·rename_i s d;obtain⟨t,q,r⟩:=c;exact⟨_,_,r,mJ _,λw _=>by simp[execOp,l.eq d rfl,SV.v,Ce.v,q]⟩
 ·exact c.elim
def RB{x y:Int}(h:pN c x y k):∃s v,k s/\s.Is v/\∀w:World,(binOp c t (.int .i64 x) (.int .i64 y)).run P w=.ok v w:=by
 cases c<;>simp only[pN]at h
 case quo=>exact⟨_,_,h.2,mJ _,λw=>by simp[binOp,Op.intDiv,h.1,SV.v,Ce.v,cO]⟩
 case rem=>exact⟨_,_,h.2,mJ _,λw=>by simp[binOp,Op.intDiv,h.1,SV.v,Ce.v]⟩
 case xor=>exact⟨_,_,h,mJ _,λw=>by simp[binOp,Op.intBits,SV.v,Ce.v,cO,Si,IntKind.bits];rfl⟩
 all_goals exact⟨_,_,h,mJ _,λw=>by simp[binOp,Op.intArith,Op.intCmp,SV.v,Ce.v,cO]⟩
def MI(c:BinOp)(t:TypeId)(b d:Operand)(a:IntKind)(x:Int)(y:Value)(w:World):(eqGuard c t b d (.int a x) y).run P w=.ok () w:=by
 cases c<;>simp[eqGuard]
def Lv(c:BinOp)(t:TypeId)(a b:Operand)(x:Bool)(y:Value)(w:World):(eqGuard c t a b (.bool x) y).run P w=.ok () w:=by
 cases c<;>simp[eqGuard]
def NR(a:P.underlying t=some .bool)(x y:Bool)(w:World):(Op.equal t (.bool x) (.bool y)).run P w=.ok (x==y) w:=by
 have:Op.equal t (.bool x) (.bool y)=Op.equalIn (9999+1) t (.bool x) (.bool y):=rfl;rw[this];generalize 9999=d;simp[Op.equalIn,run_underlying a]
def GM{e:TypeId}(a:P.underlying t=some (.slice e))(s:O)(w:World):(Op.equal t s.v (.slice none 0 0)).run P w=.ok s.Di w:=by
 have:Op.equal t s.v (.slice none 0 0)=Op.equalIn (9999+1) t s.v (.slice none 0 0):=rfl;rw[this];generalize 9999=d;cases s<;>simp[Op.equalIn,run_underlying a,O.v]
def JM(c:BinOp)(t:TypeId)(a b:Operand)(s:O)(y:Value)(w:World):(eqGuard c t a b s.v y).run P w=.ok () w:=by
 cases s<;>cases c<;>simp[eqGuard,O.v]
def ML(r:uA P T)(d:jq n e a){u:TypeId}(b:rd T e m k (.binOp c t x y u)):mW P T e m a ⟨h,.binOp c t x y u,p,j,g,i⟩ k:=by
 simp only[rd]at b;split at b
 ·rename_i D F f l;obtain⟨s,A,v,q,z⟩:=RB (P:=P) (t:=t) b;refine⟨s,A,v,q,λw _=>?_⟩;simp only[execOp,d.eq f rfl,d.eq l rfl,SV.v,Ce.v,Sem.run_bind];simp[MI,z]
 ·rename_i s f l;split at b
  ·rename_i H I G z;have A:=(js (r.zq z)).1;have B:a.eval x=s.v:=d.eq f rfl;have C:a.eval y=.slice none 0 0:=d.eq l rfl;cases c<;>simp only[RY]at b
   all_goals
    first
    |exact b.elim
    |exact⟨_,_,b,mJ _,λw _=>by
     have q:∀o:BinOp,o=.eql\/o=.neq->binOp o t s.v (.slice none 0 0)=(if o=.eql then(do pure (.bool (<-Op.equal t s.v (.slice none 0 0))))else(do pure (.bool (!(<-Op.equal t s.v (.slice none 0 0)))))):=by
      intro o v;rcases v with rfl|rfl<;>cases s<;>rfl
     simp only[execOp,B,C,Sem.run_bind,JM,Result.andThen_ok];rw[q _ E];simp[GM A,SV.v,Ce.v]⟩
  ·exact b.elim
 ·split at b
  ·rename_i D F z f l;obtain⟨⟨q,s,A⟩,_⟩:=nZ (r.zq z);have v:q=.bool:=by
    cases q<;>simp_all [Bt]
   subst v;cases c<;>simp only[Rz]at b
   all_goals
    first
    |exact b.elim
    |exact⟨_,_,b,mJ _,λw _=>by
     simp only[execOp,d.Wb f,d.Wb l,Sem.run_bind,Lv,Result.andThen,binOp,NR s];rfl⟩
  ·exact b.elim
def JP(c:uA P T)(l:jq n e a){s:TypeId}(b:rd T e m k (.convert s t x)):mW P T e m a ⟨h,.convert s t x,p,j,g,i⟩ k:=by
 simp only[rd]at b;split at b
 ·rename_i D y z B C u v w;obtain⟨⟨A,o,_⟩,_⟩:=nZ (c.zq u);obtain⟨⟨f,q,d⟩,_⟩:=nZ (c.zq v);have r:f=.int .i64:=by unfold Bt at d;split at d<;>simp_all
  subst r;exact⟨_,_,b,mJ _,λE _=>by
   simp only[execOp,l.eq w rfl,SV.v,Ce.v,Sem.run_bind];simp[convert,run_underlying o,run_underlying q,Conv.intToInt,cO]⟩
 ·exact b.elim
def N7(d:jq n e a){c:UnOp}(b:rd T e m k (.unOp c t x)):mW P T e m a ⟨h,.unOp c t x,p,j,g,i⟩ k:=by
 simp only[rd]at b;generalize f:ev e x=sx at b;unfold Wh at b;split at b
 ·exact⟨_,_,b,mJ _,λw _=>by simp[execOp,d.eq f rfl,SV.v,Op.unary]⟩
 ·exact⟨_,_,b,mJ _,λw _=>by simp[execOp,d.eq f rfl,SV.v,Op.unary]⟩
 ·exact⟨_,_,b,mJ _,λw _=>by simp[execOp,d.eq f rfl,SV.v,Ce.v,Op.unary]⟩
 ·exact⟨_,_,b,mJ _,λw _=>by simp[execOp,d.eq f rfl,SV.v,Ce.v,Op.unary,Op.intArith,cO]⟩
 ·exact b.elim
def AH(q:uA P T)(K:jq n e a){mk:Nat->SV}(D:∀o,(mk o).v=.pointer (some ⟨b,o,none⟩))(I:a.eval x=.pointer (some ⟨b,o,none⟩))(c:CX T t f o mk k):
 mW P T e m a ⟨h,.fieldAddr t x f,p,j,g,i⟩ k:=by
 unfold CX at c
 split at c
 ·rename_i M N J G
  split at c
  ·rename_i L O s
   split at c
   ·rename_i l H
    cases d:(l.sJ||Nat.beq l.sh.length 0)
    ·rw[d]at c
     simp only[bP]at d
     obtain⟨⟨y,B,C⟩,_⟩:=mQ (q.zq G)
     rw[nN,<-C,bW]at s
     obtain⟨v,z,r⟩:=Option.map_eq_some_iff.1 s
     simp only[K4]at r
     obtain⟨rfl,rfl⟩:=r
     have F:=λw=>jv q H d.1 w
     have E:l.sh.length≠0:=λu=>by rw[u]at d;simp at d
     refine⟨_,_,c,mJ _,λw _=>?_⟩
     have A:y[f]? =some v:=by simpa using z
     rw[D]
     simp[execOp,Instr.fieldAt,I,run_underlying B,A,Instr.sureAddr,fieldPlace,F,E,tH]
    ·rw[d]at c;exact c.elim
   ·exact c.elim
  ·exact c.elim
 ·exact c.elim
def GO(q:uA P T)(d:jq n e a)(c:rd T e m k (.fieldAddr t x f)):mW P T e m a ⟨h,.fieldAddr t x f,p,j,g,i⟩ k:=by
 simp only[rd]at c;split at c
 ·rename_i b o l;exact AH q d (λo=>rfl) (d.eq l rfl) c
 ·rename_i r b o l;exact AH q d (λo=>rfl) (d.eq l rfl) c
 ·exact c.elim
def MN(l:uA P T)(o:jq n e a)(b:rd T e m k (.field t x f)):mW P T e m a ⟨h,.field t x f,p,j,g,i⟩ k:=by
 simp only[rd]at b;split at b
 ·rename_i K A;unfold Lz at b;split at b
  ·rename_i M N J I;split at b
   ·rename_i L O v;split at b
    ·rename_i C z;cases c:C.sJ
     ·rw[c]at b;obtain⟨⟨E,u,G⟩,_⟩:=mQ (l.zq I);rw[nN,<-G,bW]at v;obtain⟨D,F,r⟩:=Option.map_eq_some_iff.1 v;simp only[K4]at r;obtain⟨rfl,rfl⟩:=r;have H:=λw=>jv l z c w;have q:=λw=>KR l z c w;have s:E[f]? =some D:=by simpa using F
      cases d:C.agg
      ·simp only[d,lj]at b;split at b
       ·rename_i y B;refine⟨_,_,b,mJ _,λw _=>?_⟩;rw[nN]at B;simp[execOp,Instr.field,o.eq A rfl,SV.v,run_underlying u,s,asAgg,part,q,d,B]
       ·exact b.elim
      ·simp only[d,lj,jo]at b;refine⟨_,_,b,mJ _,λw _=>?_⟩;simp[execOp,Instr.field,o.eq A rfl,SV.v,run_underlying u,s,asAgg,part,q,d,H,List.map_drop,KZ]
     ·rw[c]at b;exact b.elim
    ·exact b.elim
   ·exact b.elim
  ·exact b.elim
 ·exact b.elim
def GQ(q:uA P T)(l:jq n e a)(c:rd T e m k (.indexAddr t x y)):mW P T e m a ⟨h,.indexAddr t x y,p,j,g,i⟩ k:=by
 simp only[rd]at c;split at c
 ·rename_i D I B C;unfold T9 at c;split at c
  ·rename_i H K F z;split at c
   ·rename_i E u;cases f:E.sJ
    ·rw[f]at c;obtain⟨r,d,s⟩:=c;have A:=(js (q.zq z)).1;have v:=λw=>jv q u f w;cases D with
     |nil=>simp[O.len]at d;omega
     |Bi _ _ _=>simp[O.len]at d;omega
     |mk b o J G=>
      refine⟨_,_,s,mJ _,λw _=>?_⟩;simp only[O.len]at d;simp[execOp,Instr.indexAt,l.eq B rfl,l.eq C rfl,SV.v,Ce.v,O.v,asIntOf,run_underlying A,r,d,v,tH,O.F,O.off]
    ·rw[f]at c;exact c.elim
   ·exact c.elim
  ·exact c.elim
 ·exact c.elim
def MR:∀(c:List Sh)(b o j:Nat)(k:List Ce->Prop),SX m b o j c k->∃l,k l/\l.length=c.length/\∀i,i<c.length->D m b (o+j+i)=(l[i]?).map Ce.v
 |[],_,_,_,_,h=>⟨[],h,rfl,λi a=>by simp at a⟩
 |s::r,b,o,j,k,h=>by
  obtain⟨x,n,h⟩:=h;obtain⟨l,f,g,d⟩:=MR r b o (j+1) _ h;refine⟨s.mk x::l,f,by simp[g],λi a=>?_⟩;cases i with
  |zero=>simpa using n
  |succ i=>
   have:=d i (by simpa using a);have e:o+(j+1)+i=o+j+(i+1):=V;rw[e]at this;simpa using this
def lF(A:uA P T)(S:jq n e a)(I:a.eval x=.pointer (some ⟨b,o,none⟩)){d:TI}(H:fm T t=some d)(G:d.sJ=false)
 (K:∀c,c<d.sh.length->(b,o+c)∈PZ T e (.load t x)){l:List Ce}(E:l.length=d.sh.length)(L:∀y,y<d.sh.length->D m b (o+y)=(l[y]?).map Ce.v)
 {s:SV}(U:s.iL=true)(O:(d.agg=true/\s.v=.agg (l.map Ce.v).toArray)\/(d.agg=false/\∃r,l=[r]/\s.v=r.v))(N:k s):
 mW P T e m a ⟨h,.load t x,p,j,g,i⟩ k:=by
 refine⟨s,s.v,N,mJ _,λq R=>?_⟩
 have Q:=jv A H G q
 have B:=KR A H G q
 have C:∀c,c<d.sh.length->D q.heap b (o+c)=(l[c]?).map Ce.v:=λc f=>by rw[R (b,o+c) (K c f),L c f]
 rcases O with⟨u,v⟩|⟨u,r,v,J⟩
 ·have F:=run_loadCells_list (P:=P) (w:=q) ⟨b,o,none⟩ (l.map Ce.v) (λc V f=>by
   rw[tH,xf];have M:c<d.sh.length:=by
    rcases aX c d.sh.length with z|z
    ·exact z
    ·rw[bZ bF]at f;simp at f
   rw[C c M,<-bW,f])
  simp only[eP]at F
  simp only[execOp,Instr.loadAt,I,Instr.sureAddr,loadVar,Sem.run_bind,Sem.run_pure,B,u,Result.andThen_ok,Q,Up]
  simp[<-E,F,v]
 ·subst v
  have z:=C 0 (by rw[<-E];simp)
  simp at z
  simp only[execOp,Instr.loadAt,I,Instr.sureAddr,loadVar,Sem.run_bind,Sem.run_pure,B,u,Result.andThen_ok]
  simp[xf,z,J]
def Gg(A:uA P T)(z:jq n e a)(B:a.eval x=.pointer (some ⟨b,o,none⟩))
 (w:∀c d,fm T t=some c->d<c.sh.length->(b,o+d)∈PZ T e (.load t x))(f:MS T m t b o k):mW P T e m a ⟨h,.load t x,p,j,g,i⟩ k:=by
 unfold MS at f
 split at f
 ·rename_i G H D c
  obtain⟨F,u,E,C⟩:=MR _ _ _ _ _ f
  exact lF A z B c rfl (λd r=>w _ d c r) E (λv q=>by simpa using C v q) (s:=.agg F) rfl (Or.inl ⟨rfl,rfl⟩) u
 ·rename_i E D c
  obtain⟨y,C,u⟩:=f
  exact lF A z B c rfl (λd r=>w _ d c r) (l:=[E.mk y]) rfl (λv q=>by
   have:v=0:=by simpa using q
   subst this;exact C) (s:=.c (E.mk y)) rfl (Or.inr ⟨rfl,_,rfl,rfl⟩) u
 ·rename_i E F D c
  obtain⟨y,C,u⟩:=f
  exact lF A z B c rfl (λd r=>w _ d c r) (l:=[.s y]) rfl (λv q=>by
   have:v=0:=by simpa using q
   subst this;exact C) (s:=.c (.s y)) rfl (Or.inr ⟨rfl,_,rfl,rfl⟩) u
 ·exact f.elim
def JB:∀{a:List Ce}{b o:Nat}{l:List Ce},Ei a o b=some l->l.length=b/\∀i,i<b->a[o+i]? =l[i]?
 |a,0,o,l,h=>by simp[Ei]at h;subst h;simp
 |a,b+1,o,l,h=>by
  simp only[Ei]at h;split at h
  ·rename_i g r c f;simp at h;subst h;obtain⟨d,e⟩:=JB f;refine⟨by simp[d],λi j=>?_⟩;cases i with
   |zero=>rw[nN]at c;simpa using c
   |succ i=>
    have:=e i V;rw[show o+(i+1)=o+1+i by omega];simpa using this
  ·simp at h
def Gf(A:uA P T)(z:jq n e a){G:Nat}{F:List Ce}(C:a.eval x=.pointer (some ⟨b,o,none⟩))
 (y:∀c q,fm T t=some c->q<c.sh.length->(b,o+q)∈PZ T e (.load t x))(H:m[b]? =some (.cells (F.map Ce.v).toArray G))(c:Kw T t F o k):
 mW P T e m a ⟨h,.load t x,p,j,g,i⟩ k:=by
 have B:∀f,D m b f=(F[f]?).map Ce.v:=λf=>by simp[D,H]
 unfold Kw at c
 split at c
 ·rename_i K L E d
  split at c
  ·rename_i J I
   obtain⟨r,u⟩:=JB I
   exact lF A z C d rfl (λq w=>y _ q d w) r (λf v=>by rw[B,u f v]) (s:=.agg J) rfl (Or.inl ⟨rfl,rfl⟩) c
  ·exact c.elim
 ·rename_i I E d
  split at c
  ·rename_i r u
   rw[nN]at u
   exact lF A z C d rfl (λq w=>y _ q d w) (l:=[r]) rfl (λf v=>by
    have:f=0:=by simpa using v
    subst this;rw[B];simp[u]) (s:=.c r) rfl (Or.inr ⟨rfl,_,rfl,rfl⟩) c
  ·exact c.elim
 ·rename_i G I E d
  split at c
  ·rename_i r u
   rw[nN]at u
   exact lF A z C d rfl (λq w=>y _ q d w) (l:=[r]) rfl (λf v=>by
    have:f=0:=by simpa using v
    subst this;rw[B];simp[u]) (s:=.c r) rfl (Or.inr ⟨rfl,_,rfl,rfl⟩) c
  ·exact c.elim
 ·rename_i K J I E d
  split at c
  ·rename_i r u
   rw[nN]at u
   exact lF A z C d rfl (λq w=>y _ q d w) (l:=[r]) rfl (λf v=>by
    have:f=0:=by simpa using v
    subst this;rw[B];simp[u]) (s:=.c r) rfl (Or.inr ⟨rfl,_,rfl,rfl⟩) c
  ·exact c.elim
 ·exact c.elim
def N4(q:uA P T)(d:jq n e a)(A:Bx n e m)(c:rd T e m k (.load t x)):mW P T e m a ⟨h,.load t x,p,j,g,i⟩ k:=by
 simp only[rd]at c;split at c
 ·rename_i b o f;exact Gg q d (d.eq f rfl) (λr l z y=>by simp only[PZ,f,z];exact List.mem_map.2 ⟨l,List.mem_range.2 y,rfl⟩) c
 ·rename_i B b o f;have v:∀r l,fm T t=some r->l<r.sh.length->(b,o+l)∈PZ T e (.load t x):=λr l z y=>by simp only[PZ,f,z];exact List.mem_map.2 ⟨l,List.mem_range.2 y,rfl⟩
  split at c
  ·rename_i C u s w;obtain⟨rfl,c⟩:=c;exact Gf q d (d.eq f rfl) v (A.F B _ u s (Or.inl w)) c
  ·rename_i C u s w;obtain⟨rfl,c⟩:=c;exact Gf q d (d.eq f rfl) v (A.F B _ u s (Or.inr w)) c
  ·exact Gg q d (d.eq f rfl) v c
 ·exact c.elim
end
end Go.Vc
end
section
namespace Go.Vc
variable{x:Operand}{t:TypeId}
variable{P:Program}{T:TT}
section
variable{n:Nat}{b:Fr}{a:Act}{m:I}{k:SV->Prop}{d:Option Tmp}{g:TypeId}{f:String}{c:Array Edge}{e:Option (Nat×Bool)}
def JQ(l:jq n b a){j:Nat}(h:rd T b m k (.extract x j)):mW P T b m a ⟨d,.extract x j,g,f,c,e⟩ k:=by
 simp only[rd]at h;split at h
 ·rename_i p o;split at h
  ·rename_i y i;refine⟨_,_,h,mJ _,λw _=>?_⟩;rw[nN]at i;rw[AV.Xk];have:a.eval x=.tuple (p.map AV.v).toArray:=l.eq o rfl;simp[execOp,Instr.extract,this,i]
  ·exact h.elim
 ·exact h.elim
def KH(c:jq n b a){x:Option Operand}{d:Int}{k:Int->Prop}(h:JY b x d k):
 (x=none/\k d)\/∃y i,x=some y/\a.eval y=.int .i64 i/\k i:=by
 unfold JY at h
 split at h
 ·exact Or.inl ⟨rfl,h⟩
 ·rename_i y
  split at h
  ·rename_i i e
   exact Or.inr ⟨y,i,rfl,c.eq e rfl,h⟩
  ·exact h.elim
def nR(k:IntKind)(i:Int)(y:Nat)(c:BoundsCode)(a:0<=i)(b:i<=y)(w:World):(Instr.sliceBound (.int k i) y c).run P w=.ok i.toNat w:=by
 simp[Instr.sliceBound,asIntOf,a,b]
def UY(b o l c a d e:Nat):(O.cut (.mk b o l c) a d e).v=.slice (if c=a then some ⟨b,o,none⟩else(some (⟨b,o,none⟩:Addr)).map (·.add (a*e))) (d -a) (c -a):=by
 show Value.slice _ _ _=_;simp only[tH,mq];split<;>rfl
def MO(J:uA P T)(r:jq n b a){A y:Option Operand}(i:rd T b m k (.slice t x A y none)):mW P T b m a ⟨d,.slice t x A y none,g,f,c,e⟩ k:=by
 simp only[rd]at i;split at i
 ·rename_i s G;unfold Oq at i;split at i
  ·rename_i v N M L;split at i
   ·rename_i B K;cases D:B.sJ
    ·rw[D]at i;have F:=(js (J.zq L)).1;have E:=λw=>jv J K D w;have z:∀(l h:Int),0<=l->l<=h->h<=(s.cap:Int)->
      (∀w:World,(Instr.sliceBounds true s.len s.cap (A.map a.eval) (y.map a.eval) none).run P w=.ok (l.toNat,h.toNat,s.cap) w)->
      ∀w:World,(execOp a.eval ⟨d,.slice t x A y none,g,f,c,e⟩).run P w=.ok (.value (Ce.s (s.cut l.toNat h.toNat B.sh.length)).v) w:=by
      intro l h o p j q w
      cases s with
      |nil=>
       simp only[O.cap,O.len]at q j
       have:h=0:=V
       have:l=0:=V
       subst this;subst h
       simp[execOp,Instr.sliceAt,r.eq G rfl,SV.v,Ce.v,O.v,run_underlying F,Instr.slice,q,E,O.cut]
      |Bi u C H=>
       simp only[O.cap,O.len]at q j
       have:h=0:=V
       have:l=0:=V
       subst this;subst h
       simp[execOp,Instr.sliceAt,r.eq G rfl,SV.v,Ce.v,O.v,run_underlying F,Instr.slice,q,E,O.cut]
      |mk u I H C=>
       simp only[O.cap,O.len]at q
       have v:(Ce.s ((O.mk u I H C).cut l.toNat h.toNat B.sh.length)).v=_:=UY u I H C l.toNat h.toNat B.sh.length
       rw[v]
       have:a.eval x=.slice (some ⟨u,I,none⟩) H C:=r.eq G rfl
       simp[execOp,Instr.sliceAt,this,run_underlying F,Instr.slice,q,E]
     simp only[lj]at i;rcases KH r i with⟨rfl,C⟩|⟨Q,l,rfl,H,C⟩<;>rcases KH r C with⟨rfl,o,p,j,u⟩|⟨R,h,rfl,I,o,p,j,u⟩
     ·exact⟨_,_,u,mJ _,λw _=>z _ _ o p j (λw=>by simp[Instr.sliceBounds]) w⟩
     ·exact⟨_,_,u,mJ _,λw _=>z _ _ o p j (λw=>by simp[Instr.sliceBounds,I,nR _ _ _ _ (by omega:0<=h) j]) w⟩
     ·exact⟨_,_,u,mJ _,λw _=>z _ _ o p j (λw=>by simp[Instr.sliceBounds,H,nR _ _ _ _ o p]) w⟩
     ·exact⟨_,_,u,mJ _,λw _=>z _ _ o p j (λw=>by
       have v:l<=(h.toNat:Int):=V;simp[Instr.sliceBounds,I,H,nR _ _ _ _ (by omega:0<=h) j,nR _ _ _ _ o v]) w⟩
    ·rw[D]at i;exact i.elim
   ·exact i.elim
  ·exact i.elim
 ·exact i.elim
def Ia(w:uA P T)(q:jq n b a)(p:List (Nat×Nat))(lp:Nat->Option (Nat×Nat))
 (r:∀i d t f,ER p i=some (d,t)->fm T t=some f->f.sJ=false->lp i=some (d,f.sh.length)):
 ∀(s:List (Nat×Operand))(c:List Ce)(k:List Ce->Prop),CR T b p c s k->
  ∃l,k l/\Instr.fill lp (c.map Ce.v).toArray (s.map λe=>(e.1,a.eval e.2))=some (l.map Ce.v).toArray
 |[],c,k,h=>⟨c,h,rfl⟩
 |(i,x)::H,c,k,h=>by
  simp only[CR]at h;split at h
  ·rename_i d t e E D;split at h
   ·rename_i f F;cases g:(!f.sJ&&Nat.beq e.length f.sh.length&&Nat.ble (d+e.length) c.length)
    ·rw[g]at h;exact h.elim
    ·rw[g]at h;simp only[bE,iF]at g;obtain⟨⟨y,m⟩,o⟩:=g;have m:=bh m;have o:=kj o;obtain⟨l,A,C⟩:=Ia w q p lp r H (kM c d e) k h;refine⟨l,A,?_⟩;obtain⟨B,z⟩:=nF D;have G:a.eval x=(ev b x).v:=q.eq rfl B;simp only[cb,Instr.fill,r i d t f E F y,G,z,A2,eP,m];rw[ae bF,<-C];congr 1;apply yY;intro j;have u:=KA (e.map Ce.v) 0 d (c.map Ce.v).toArray j;rw[<-Xn,Wk];have v:=zm c d e j o;rw[show((List.map Ce.v (kM c d e)).toArray)[j]? =((kM c d e)[j]?).map Ce.v by simp,v];rw[u];simp;split<;>split<;>first|rfl|(exfalso;omega)|(congr 1;omega)
   ·exact h.elim
  ·exact h.elim
def Vt(T:TT)(t:Nat):Nat:=match fm T t with|some a=>a.sh.length|none=>0
def Gl(c:uA P T)(w:World):∀(a:List Field),(∀f∈a,∃b,fm T f.type=some b/\b.sJ=false)->
 (a.mapM (λf=>do pure (f.offset,<-sizeOf f.type):Field->Sem (Nat×Nat))).run P w=.ok (a.map λf=>(f.offset,Vt T f.type)) w
 |[],_=>E
 |f::a,h=>by
  obtain⟨b,d,j⟩:=h f E;have e:=Gl c w a (λg i=>h g (by simp[i]));simp only[Rg,Sem.run_bind,jv c d j,Result.andThen_ok,Sem.run_pure]at e⊢;rw[e];simp[Vt,d]
def Gn:∀{d:List (Nat×Nat)},th T d=true->∀p∈d,∃a,fm T p.2=some a/\a.sJ=false
 |[],_,_,h=>by simp at h
 |(o,t)::r,h,p,c=>by
  simp only[th,bE]at h;rcases List.mem_cons.1 c with rfl|c
  ·have b:=h.1;split at b
   ·rename_i a e;exact⟨a,e,by simpa using b⟩
   ·simp at b
  ·exact Gn h.2 p c
def MM(l:uA P T)(z:jq n b a){o:Array (Nat×Operand)}(i:rd T b m k (.build t o)):mW P T b m a ⟨d,.build t o,g,f,c,e⟩ k:=by
 simp only[rd]at i;split at i
 ·rename_i y L N v;cases q:th T y
  ·rw[q]at i;exact i.elim
  rw[q]at i;obtain⟨⟨j,D,s⟩,_⟩:=mQ (l.zq v);obtain⟨M,J,K,R⟩:=tV l v rfl;have A:∀h∈j.toList,∃r,fm T h.type=some r/\r.sJ=false:=λh B=>
   Gn q (h.offset,h.type) (by rw[<-s];exact List.mem_map.2 ⟨h,B,rfl⟩)
  have H:∀w:World,(j.mapM (λh=>do pure (h.offset,<-sizeOf h.type):Field->Sem (Nat×Nat))).run P w=.ok (j.toList.map λh=>(h.offset,Vt T h.type)).toArray w:=by
   intro w;rw[Rn,Sem.run_map,Gl l w j.toList A];rfl
  obtain⟨S,F,G⟩:=Ia l z y (λx=>((j.toList.map λh=>(h.offset,Vt T h.type)).toArray)[x]?) (λx U t r u I Q=>by
   rw[nN,<-s,bW]at u;obtain⟨O,C,p⟩:=Option.map_eq_some_iff.1 u;simp only[K4]at p;obtain⟨rfl,rfl⟩:=p;simp only[kd,bW,C,mq,Vt,I]) _ _ _ i
  refine⟨_,_,F,mJ _,λw _=>?_⟩;have u:M.cells=((L.map Sh.zero).map Ce.v).toArray:=by
   apply Array.toList_inj.1;simp[J]
  have C:(o.map λp=>(p.1,a.eval p.2)).toList=o.toList.map λp=>(p.1,a.eval p.2):=E;simp only[execOp,Instr.build,Sem.run_bind,K,Result.andThen_ok,run_underlying D,H,u,C,G];simp[SV.v]
 ·exact i.elim
def zh(d:jq n b a):∀{c:List Operand},c.all (λx=>(ev b x).iL)=true->c.map a.eval=c.map λx=>(ev b x).v
 |[],_=>rfl
 |x::c,h=>by
  simp only[KY,bE]at h;simp only[cb,d.eq rfl h.1,zh d h.2]
def JO(v:uA P T)(l:jq n b a){s:Builtin}{i:Array Operand}{r:Array TypeId}(h:rd T b m k (.call ⟨.builtin s,i,r⟩)):
 mW P T b m a ⟨d,.call ⟨.builtin s,i,r⟩,g,f,c,e⟩ k:=by
 simp only[rd]at h
 unfold Qj at h
 split at h
 ·rename_i t x z p
  split at h
  ·rename_i D E C q y o
   refine⟨_,_,h,mJ _,λw _=>?_⟩
   have A:=(js (v.zq y)).1
   have u:r=#[t]:=Array.toList_inj.1 (by simpa using z)
   have j:i=#[x]:=Array.toList_inj.1 (by simpa using p)
   subst u;subst j
   have B:a.eval x=q.v:=l.eq o rfl
   cases q<;>simp[execOp,resolve,invoke,builtin,Builtin.len_,run_underlying A,B,O.v,goInt,SV.v,Ce.v,O.len]
  ·exact h.elim
 ·rename_i x y p
  split at h
  ·rename_i u z o q
   refine⟨_,_,h,mJ _,λw _=>?_⟩
   have j:i=#[x,y]:=Array.toList_inj.1 (by simpa using p)
   subst j
   simp[execOp,resolve,invoke,builtin,Builtin.max_,Builtin.max2,l.eq o rfl,l.eq q rfl,SV.v,Ce.v]
  ·exact h.elim
 ·rename_i x y p
  split at h
  ·rename_i u z o q
   refine⟨_,_,h,mJ _,λw _=>?_⟩
   have j:i=#[x,y]:=Array.toList_inj.1 (by simpa using p)
   subst j
   simp[execOp,resolve,invoke,builtin,Builtin.min_,Builtin.min2,l.eq o rfl,l.eq q rfl,SV.v,Ce.v]
  ·exact h.elim
 ·exact h.elim
def IS(j:uA P T)(i:jq n b a)(s:Bx n b m)(o:Oper)(h:rd T b m k o.op):mW P T b m a o k:=by
 obtain⟨d,l,g,f,c,e⟩:=o;cases l with
 |move x=>exact QD i h
 |assign x=>exact PC i h
 |pick p x y=>exact N6 i h
 |nilCheck x=>exact It i h
 |binOp l t x y q=>exact ML j i h
 |unOp l t x=>exact N7 i h
 |convert q t x=>exact JP j i h
 |fieldAddr t x q=>exact GO j i h
 |field t x q=>exact MN j i h
 |indexAddr t x y=>exact GQ j i h
 |load t x=>exact N4 j i s h
 |extract x r=>exact JQ i h
 |slice t x v u r=>cases r with
  |none=>exact MO j i h
  |some y=>exact h.elim
 |build t r=>exact MM j i h
 |call p=>
  obtain⟨r,u,w⟩:=p;cases r with
  |builtin v=>exact JO j i h
  |value q=>exact h.elim
  |invoke v q=>exact h.elim
 |_=>exact h.elim
end
end Go.Vc
end
section
namespace Go.Vc
variable{m m':I}{b o e n q:Nat}{l:List Ce}{a:Fr}
def aj(m:I)(b o:Nat):List Ce->I
 |[]=>m
 |c::r=>aj (xE m b o c.v) b (o+1) r
def fu(m:I)(b o n:Nat):Prop:=∀j,j<n->(D m b (o+j)).isSome=true/\NX m b (o+j)=false
def fU(m:I)(b o:Nat)(l:List Ce):Prop:=∀(i:Nat)(c:Ce),l[i]? =some c->D m b (o+i)=some c.v
def lS(a:List Ce)(n:Nat):List Ce:=(List.replicate n a).flatten
def br(l:List Ce):Array Value:=(l.map Ce.v).toArray
def On(m:I)(b o:Nat)(v:Value):(xE m b o v).size=m.size:=by simp[xE]
def Q1(m:I)(b o:Nat)(v:Value){j:Nat}(h:j≠b):(xE m b o v)[j]? =m[j]? :=by
 simp only[xE,HD];rw[ae (λe=>h e.symm)]
def az:∀(l:List Ce)(m:I)(b o:Nat),(aj m b o l).size=m.size
 |[],_,_,_=>rfl
 |c::r,m,b,o=>by simp only[aj];rw[az r,On]
def bn:∀(l:List Ce)(m:I)(b o:Nat){j:Nat},j≠b->(aj m b o l)[j]? =m[j]?
 |[],_,_,_,_,_=>rfl
 |c::r,m,b,o,j,h=>by simp only[aj];rw[bn r _ _ _ h,Q1 m b o _ h]
def tJ{v:Value}(h:D m b o=some v):b<m.size:=by
 rcases aX b m.size with a|a
 ·exact a
 ·simp[D,Uk a]at h
def aJ(h:m'[b]? =m[b]?)(o:Nat):D m' b o=D m b o:=by simp only[D,h]
def cD(m:I)(b:Nat)(e:Nat)(l:List Ce):Prop:=m[b]? =some (.cells (br l) e)
def Q9(l:List Ce)(i:Nat):(br l)[i]? =(l[i]?).map Ce.v:=by simp[br]
def cD.cy(h:cD m b e l)(o:Nat):D m b o=(l[o]?).map Ce.v:=by
 have a:m[b]? =some (.cells (br l) e (0,0)):=h;simp only[D,a,Q9]
def cD.jA(h:cD m b e l):fU m b 0 l:=λi c a=>by rw[h.cy,bQ,a];rfl
def cD.lt(h:cD m b e l):b<m.size:=(Array.getElem?_eq_some_iff.1 h).1
def cD.NX{m:I}{b e:Nat}{l:List Ce}(h:cD m b e l)(o:Nat):NX m b o=false:=by
 have a:m[b]? =some (.cells (br l) e (0,0)):=h;simp[Vc.NX,a]
def cD.fu(h:cD m b e l)(c:o+n<=l.length):fu m b o n:=λj a=>by
 refine⟨?_,h.NX _⟩;rw[h.cy];simp;omega
def cD.push(m:I)(l:List Ce)(e:Nat):cD (m.push (.cells (br l) e)) m.size e l:=by simp[cD]
def cD.congr(a:cD m b e l)(h:m'[b]? =m[b]?):cD m' b e l:=by
 unfold cD at*;rw[h];exact a
def cD.xE{m:I}{b e:Nat}{l:List Ce}(h:cD m b e l)(o:Nat)(c:Ce):cD (xE m b o c.v) b e (l.set o c):=by
 have d:m[b]? =some (.cells (br l) e (0,0)):=h;have f:=h.lt;simp only[cD,Vc.xE,HD,Up,d,mq];congr 2;apply yY;intro i;simp only[br,Array.getElem?_setIfInBounds,kd,bW,iI,A2,eP];by_cases e:o=i
 ·subst e;by_cases a:o<l.length
  ·simp[a]
  ·simp[a]
 ·simp[e]
def iD(l:List Ce)(o:Nat):List Ce->List Ce
 |[]=>l
 |c::r=>iD (l.set o c) (o+1) r
def ng:∀(r l:List Ce)(o:Nat),(iD l o r).length=l.length
 |[],_,_=>rfl
 |c::r,l,o=>by simp only[iD];rw[ng r];simp
def tW:∀(r l:List Ce)(o i:Nat),(iD l o r)[i]? =if o<=i/\i<o+r.length/\i<l.length then r[i -o]? else l[i]?
 |[],l,o,i=>by simp[iD];intro h;omega
 |c::r,l,o,i=>by
  simp only[iD];rw[tW r,iI];simp only[gX,ba];by_cases b:o=i
  ·subst b;by_cases a:o<l.length
   ·simp[a];try omega
   ·simp[a];try omega
  ·by_cases a:o<=i/\i<o+(r.length+1)/\i<l.length
   ·rw[aq a,aq V,show i -o=(i -(o+1))+1 by omega,fR]
   ·rw[ae a,ae V];simp[b]
def cD.aj{m:I}{b e:Nat}:∀{r l:List Ce}{m:I}{o:Nat},cD m b e l->cD (aj m b o r) b e (iD l o r)
 |[],_,_,_,h=>h
 |c::r,l,m,o,h=>by
  simp only[Vc.aj,iD];exact cD.aj (m:=m) (h.xE o c)
def tg(t:Nat):List Nat->Bool
 |[]=>false
 |u::r=>Nat.beq u t||tg t r
def EP{t:Nat}:∀{M:List Nat},tg t M=true->t∈M
 |[],h=>by simp[tg]at h
 |u::r,h=>by
  simp only[tg,cr]at h;rcases h with h|h
  ·rw[bh h];exact aS
  ·exact ah _ (EP h)
def JH(n:Nat):Fr->List Nat->List Nat
 |[],_=>[]
 |(q,x)::r,a=>bif Nat.ble n q&&!tg q a then
  match x with
  | .box b _ _=>b::JH n r (q::a)
  | .wZ b _ _=>b::JH n r (q::a)
  |_=>JH n r (q::a)
  else JH n r a
def dV(l:List Nat)(m m':I):Prop:=∀b∈l,m'[b]? =m[b]?
def xD(l:List Nat)(m m':I)(k:Prop):Prop:=
 match l with
 |[]=>k
 |_=>dV l m m'/\k
def kV{l:List Nat}{k:Prop}(h:xD l m m' k):dV l m m'/\k:=by
 unfold xD at h;split at h
 ·exact⟨(λb a=>by cases a),h⟩
 ·exact h
def El{n:Nat}{q b e:Nat}{l:List Ce}(d:n<=q):∀{a:Fr}{c:List Nat},q∉c->ku a q b e l->b∈JH n a c
 |[],c,_,h=>by rcases h with h|h<;>simp[fS]at h
 |(u,x)::r,c,i,h=>by
  simp only[JH];cases g:Nat.beq u q
  ·have k:u≠q:=λe=>by subst e;simp at g
   have f:ku r q b e l:=by
    unfold ku at h⊢;simpa only[fS,g,lj]using h
   have j:q∉u::c:=by
    simp only[aT,tD];exact⟨λe=>k e.symm,i⟩
   cases(Nat.ble n u&&!tg u c)
   ·exact El d i f
   ·simp only[jo];split
    ·exact ah _ (El d j f)
    ·exact ah _ (El d j f)
    ·exact El d j f
  ·have:=bh g;subst this;have j:tg u c=false:=by
    cases k:tg u c
    ·rfl
    ·exact absurd (EP k) i
   have f:Nat.ble n u=true:=UD d;simp only[j,f,JF,Bool.and_self,jo];unfold ku at h;simp only[fS,g,jo]at h;rcases h with h|h<;>rw[h]<;>exact aS
def Bx.ib(h:Bx n a m){x:SV}(i:∀b e l,x≠.box b e l/\x≠.wZ b e l):Bx n ((q,x)::a) m:=by
 have d:∀{u b e l},ku ((q,x)::a) u b e l->ku a u b e l:=by
  intro u b e l c;unfold ku at c⊢;simp only[fS]at c;cases g:Nat.beq q u
  ·rw[g]at c;exact c
  ·rw[g]at c;rcases c with c|c
   ·exact absurd c (i b e l).1
   ·exact absurd c (i b e l).2
 exact⟨λq b e l f=>h.F q b e l (d f),λq t b e l j k s r o p=>h.Lq q t b e l j k s r (d o) (d p),λq b e l f=>h.key q b e l (d f)⟩
def SV.Vn(x:SV)(b e:Nat)(l:List Ce):x.nb≠.box b e l/\x.nb≠.wZ b e l:=by
 cases x<;>exact⟨by simp[SV.nb],by simp[SV.nb]⟩
def Bx.put(h:Bx n a m)(d:Option Nat)(x:SV):Bx n (rY a d x) m:=by
 cases d with
 |none=>exact h
 |some d=>exact h.ib (SV.Vn x)
def Bx.de(h:Bx n a m)(d:dV (JH n a []) m m'):Bx n a m':=
 ⟨λq b e l c=>by rw[d b (El (h.key q b e l c) E c)];exact h.F q b e l c,h.Lq,h.key⟩
def Bx.push(h:Bx n a m)(o:Obj):Bx n a (m.push o):=
 ⟨λq b e l d=>by
  have c:=h.F q b e l d;have f:=(Array.getElem?_eq_some_iff.1 c).1;rw[vQ,ae V];exact c,h.Lq,h.key⟩
def Bx.new(h:Bx n a m)(x:n<=q)(t:Nat)(l:List Ce):Bx n ((q,.box m.size t l)::a) (m.push (.cells (br l) t)):=by
 have w:=h.push (.cells (br l) t);have p:∀{u b e l},ku a u b e l->b<m.size:=λc=>(Array.getElem?_eq_some_iff.1 (h.F _ _ _ _ c)).1;have g:∀{u b e d},ku ((q,.box m.size t l)::a) u b e d->(u=q/\b=m.size/\e=t/\d=l)\/(u≠q/\ku a u b e d):=by
  intro u b e d c;unfold ku at c⊢;simp only[fS]at c;cases f:Nat.beq q u
  ·rw[f]at c;exact Or.inr ⟨λe=>by subst e;simp at f,c⟩
  ·rw[f]at c;have:=bh f;subst this;rcases c with c|c
   ·simp at c;exact Or.inl ⟨rfl,c.1.symm,c.2.1.symm,c.2.2.symm⟩
   ·simp at c
 refine⟨λu b e d c=>?_,λu B b e z r s A o v k=>?_,λu b e d c=>?_⟩
 ·rcases g c with⟨rfl,rfl,rfl,rfl⟩|⟨_,c⟩
  ·simp[br]
  ·exact w.F u b e d c
 ·rcases g v with⟨rfl,rfl,rfl,rfl⟩|⟨f,j⟩
  ·rcases g k with⟨rfl,rfl,rfl,rfl⟩|⟨y,i⟩
   ·exact absurd rfl o
   ·have:=p i;omega
  ·rcases g k with⟨rfl,rfl,rfl,rfl⟩|⟨y,i⟩
   ·have:=p j;omega
   ·exact h.Lq u B b e z r s A o j i
 ·rcases g c with⟨rfl,rfl,rfl,rfl⟩|⟨_,c⟩
  ·exact x
  ·exact h.key u b e d c
def Bx.uz(i:Bx n a m){g:List Ce}(G:fS a q=.box b e g)(o:Nat)(l:List Ce):Bx n ((q,.box b e (iD g o l))::a) (aj m b o l):=by
 have k:ku a q b e g:=Or.inl G;have F:cD m b e g:=i.F q b e g k;have p:∀{u d f h},ku ((q,.box b e (iD g o l))::a) u d f h->(u=q/\d=b/\f=e/\h=iD g o l)\/(u≠q/\ku a u d f h):=by
  intro u d f h c;unfold ku at c⊢;simp only[fS]at c;cases j:Nat.beq q u
  ·rw[j]at c;exact Or.inr ⟨λe=>by subst e;simp at j,c⟩
  ·rw[j]at c;have:=bh j;subst this;rcases c with c|c
   ·simp at c;exact Or.inl ⟨rfl,c.1.symm,c.2.1.symm,c.2.2.symm⟩
   ·simp at c
 refine⟨λu d f h c=>?_,λu s t w C v x D A E z=>?_,λu d f h c=>?_⟩
 ·rcases p c with⟨rfl,rfl,rfl,rfl⟩|⟨j,c⟩
  ·exact cD.aj (m:=m) F
  ·rw[bn l m b o (i.Lq u q d f h b e g j c k)];exact i.F u d f h c
 ·rcases p E with⟨rfl,rfl,rfl,rfl⟩|⟨j,y⟩
  ·rcases p z with⟨rfl,rfl,rfl,rfl⟩|⟨B,r⟩
   ·exact absurd rfl A
   ·exactλe=>i.Lq s u v x D _ _ _ B r k e.symm
  ·rcases p z with⟨rfl,rfl,rfl,rfl⟩|⟨B,r⟩
   ·exact i.Lq u s t w C _ _ _ j y k
   ·exact i.Lq u s t w C v x D A y r
 ·rcases p c with⟨rfl,rfl,rfl,rfl⟩|⟨_,c⟩
  ·exact i.key u d f g k
  ·exact i.key u d f h c
def CV(a:Fr):List Ce->Option Fr
 |[]=>some a
 | .bp q _ _::r=>match fS a q with
  | .wZ _ _ _=>none
  |_=>CV ((q,.ib)::a) r
 |_::r=>CV a r
def AV.RG:AV->List Ce
 | .c x=>[x]
 | .agg l=>l
def SV.RG:SV->List Ce
 | .c x=>[x]
 | .agg l=>l
 | .Ui l=>l.flatMap AV.RG
 |_=>[]
def QB(a:Fr)(l:List SV):Option Fr:=CV a (l.flatMap SV.RG)
def oH{n:Nat}{f:Act}{m:I}:∀{l:List Ce}{a c:Fr},CV a l=some c->jq n a f->Bx n a m->jq n c f/\Bx n c m
 |[],a,c,h,e,d=>by simp[CV]at h;subst h;exact⟨e,d⟩
 |g::r,a,c,h,e,d=>by
  cases g with
  |bp q b o=>
   simp only[CV]at h;split at h
   ·simp at h
   ·exact oH h (e.ib q) (d.ib E)
  |_=>exact oH (l:=r) (by simpa[CV]using h) e d
end Go.Vc
end
section
namespace Go.Vc
variable{P:Program}{T:TT}
def LF(m:I)(k:I->Prop):Prop:=k m
def iP(m:I)(f:Nat)(b:List Ce)(e:Nat)(s x:O)(k:O->I->Prop):Prop:=
 ∃a:List Ce,a.length=x.len*b.length/\fU m x.F x.off a/\
  (s.len+x.len<=s.cap->fu m s.F (s.off+s.len*b.length) a.length/\
   k (match s with| .nil=>.nil| .mk d o l c=>.mk d o (l+x.len) c| .Bi d o g=>.Bi d o g) (aj m s.F (s.off+s.len*b.length) a))/\
  (s.cap<s.len+x.len->(s.len+x.len)*e<=140737488355328/\∃old:List Ce,old.length=s.len*b.length/\fU m s.F s.off old/\
   ∀c,s.len+x.len<=c->k (.mk m.size 0 (s.len+x.len) c) (m.push (.cells (br (old++a++lS b (c -(s.len+x.len)))) f)))
def TV(m:I)(c:Nat)(s x:O)(k:SV->I->Prop):Prop:=
 ∃a:List Ce,a.length=Nat.min x.len s.len*c/\fU m x.F x.off a/\fu m s.F s.off a.length/\
  LF (aj m s.F s.off a) λb=>k (.c (.i (Nat.min x.len s.len:Nat))) b
def Rm:List Sh->(List Ce->Prop)->Prop
 |[],k=>k []
 |s::r,k=>∃x:s.ty,Rm r λl=>k (s.mk x::l)
def PA(T:TT):List Nat->(List AV->Prop)->Prop
 |[],k=>k []
 |t::r,k=>match fm T t with
  |some ⟨.struct _,b,_⟩=>Rm b λl=>PA T r λa=>k (.agg l::a)
  |some ⟨.cell,[s],_⟩=>∃x:s.ty,PA T r λa=>k (.c (s.mk x)::a)
  |some ⟨.slice _,[_],_⟩=>∃x:O,PA T r λa=>k (.c (.s x)::a)
  |_=>False
def MZ(T:TT)(t:Nat)(v:Value)(k:SV->Prop):Prop:=
 match fm T t with
 |some ⟨.tuple [],_,_⟩=>k .ib
 |some ⟨.tuple a,_,_⟩=>PA T a λl=>v=.tuple (l.map AV.v).toArray/\k (.Ui l)
 |some ⟨.struct _,a,_⟩=>Rm a λl=>v=.agg (l.map Ce.v).toArray/\k (.agg l)
 |some ⟨.cell,[s],_⟩=>∃x:s.ty,v=(s.mk x).v/\k (.c (s.mk x))
 |some ⟨.slice _,[_],_⟩=>∃x:O,v=x.v/\k (.c (.s x))
 |_=>False
def Qm(P:Program)(T:TT)(G:List Nat)(n:Nat)(a:Fr)(m:I)(e:Nat)(h:Operand)(b:List Operand)(k:Fr->SV->I->Prop):Prop:=
 match QB a (b.map (ev a))with
 |none=>False
 |some d=>match ev a h with
  | .c (.fn (.func g) first f)=>bif G.elem g&&b.all (λx=>(ev a x).iL)then
   aN P g (first.toList++(b.map λx=>(ev a x).v)++f.toList) m λv c=>xD (JH n d []) m c (MZ T e v λx=>k d x c)
   else False
  | .c (.fv q)=>bif b.all (λx=>(ev a x).iL)then
   ∃g,q.1=.func g/\G.elem g=true/\aN P g (q.2.1.toList++(b.map λx=>(ev a x).v)++q.2.2.toList) m λv c=>xD (JH n d []) m c (MZ T e v λx=>k d x c)
   else False
  |_=>False
def QP(m:I)(b:Nat)(l:List (Int×Int)):Prop:=
 ∃a c,m[b]? =some (.map a c)/\a.toList.map (λe=>(e.key,e.val))=l.map λp=>(Value.int .i64 p.1,Value.int .i64 p.2)
def LG(l:List (Int×Int))(k:Int):Int:=
 match l with
 |[]=>0
 |(j,v)::r=>if k=j then v else LG r k
def Oc(l:List (Int×Int))(k v:Int):List (Int×Int):=
 match l with
 |[]=>[(k,v)]
 |(j,u)::r=>if k=j then(j,v)::r else(j,u)::Oc r k v
def uP(T:TT)(d:Fr)(b:Nat):List Ce->List (Nat×Operand)->(List Ce->Prop)->Prop
 |a,[],k=>k a
 |a,(i,x)::r,k=>
  match(ev d x).cells with
  |some c=>bif Nat.beq c.length b&&Nat.ble (i*b+c.length) a.length then uP T d b (kM a (i*b) c) r k else False
  |none=>False
def PJ(n:Nat)(b:Fr)(d:Option Nat)(m:I)(t:Nat)(l:List Ce)(k:Fr->SV->I->Prop):Prop:=
 match d with
 |some a=>match fS b (n+a)with
  | .wZ _ _ _=>False
  |_=>LF (m.push (.cells (br l) t)) λc=>k ((n+a,.box m.size t l)::b) (.c (.bp (n+a) m.size 0)) c
 |none=>LF (m.push (.cells (br l) t)) λc=>k b (.c (.p m.size 0)) c
def LZ(n:Nat)(c:Fr)(m:I)(x:SV)(l:List Ce)(k:Fr->SV->I->Prop):Prop:=
 match x with
 | .c (.p b o)=>fu m b o l.length/\LF (aj m b o l) λa=>xD (JH n c []) m a (k c .un a)
 | .c (.bp q b o)=>match fS c q with
  | .box d f e=>bif Nat.ble (o+l.length) e.length then Ly d b (LF (aj m b o l) λa=>k ((q,.box d f (iD e o l))::c) .un a)else False
  | .wZ _ _ _=>False
  |_=>fu m b o l.length/\LF (aj m b o l) λa=>xD (JH n c []) m a (k c .un a)
 |_=>False
def wr(P:Program)(T:TT)(G:List Nat)(n:Nat)(a:Fr)(m:I)(h:Option Nat)(o:Nat)(k:Fr->SV->I->Prop):Op->Prop
 | .alloc t=>match fm T t with
  |some f=>bif f.sJ then False else PJ n a h m t (f.sh.map Sh.zero) k
  |none=>False
 | .box t x=>match(ev a x).cells with
  |some l=>match CV a l with
   |some d=>PJ n d h m t l k
   |none=>False
  |none=>False
 | .buildSlice t g i=>match fm T t with
  |some ⟨.slice e,_,_⟩=>match fm T e with
   |some c=>bif c.sJ||!(Nat.ble (g*c.sh.length) 16777216)then False else
    uP T a c.sh.length (lS (c.sh.map Sh.zero) g) i.toList λl=>match CV a l with
     |some d=>LF (m.push (.cells (br l) e)) λb=>k d (.c (.s (.mk m.size 0 g g))) b
     |none=>False
   |none=>False
  |_=>False
 | .store t x y=>match(ev a y).cells,fm T t with
  |some l,some f=>bif f.sJ||!(Nat.beq l.length f.sh.length)then False else match CV a l with
   |some d=>LZ n d m (ev a x) l k
   |none=>False
  |_,_=>False
 | .makeSlice t x y=>match fm T t,ev a x,ev a y with
  |some ⟨.slice e,_,_⟩,.c (.i l),.c (.i f)=>match fm T e with
   |some c=>bif c.sJ then False else 0<=l/\l<=f/\(c.bytes:Int)*f<=281474976710656/\f<=9223372036854775807/\
    LF (m.push (.cells (br (lS (c.sh.map Sh.zero) f.toNat)) e)) λb=>k a (.c (.s (.mk m.size 0 l.toNat f.toNat))) b
   |none=>False
  |_,_,_=>False
 | .makeFunc g first f=>bif first.toList.all (λx=>(ev a x).iL)&&f.toList.all (λx=>(ev a x).iL)then
  match QB a (first.toList.map (ev a)++f.toList.map (ev a))with
  |some d=>k d (.c (.fn g (first.toList.map λx=>(ev a x).v).toArray (f.toList.map λx=>(ev a x).v).toArray)) m
  |none=>False
  else False
 | .makeMap _ none=>LF (m.push (.map #[] 0)) λb=>k a (.c (.mp m.size)) b
 | .lookup t x y false=>match fm T t,ev a x,ev a y with
  |some ⟨.map f g,_,_⟩,.c (.mp d),.c (.i n)=>match fm T f,fm T g with
   |some ⟨.cell,[.I],_⟩,some ⟨.cell,[.I],_⟩=>∃l,QP m d l/\k a (.c (.i (LG l n))) m
   |_,_=>False
  |_,_,_=>False
 | .mapUpdate t x y z=>match fm T t,ev a x,ev a y,ev a z with
  |some ⟨.map f _,_,_⟩,.c (.mp d),.c (.i g),.c (.i v)=>match fm T f with
   |some ⟨.cell,[.I],_⟩=>∃l,QP m d l/\∀b,QP b d (Oc l g v)->b.size=m.size->(∀j,j≠d->b[j]? =m[j]?)->xD (JH n a []) m b (k a .un b)
   |_=>False
  |_,_,_,_=>False
 | .call ⟨.value f,d,_⟩=>Qm P T G n a m o f d.toList k
 | .call ⟨.builtin .append,d,f⟩=>match d.toList,f.toList with
  |[x,y],[t,u]=>match fm T t,fm T u,ev a x,ev a y with
   |some ⟨.slice e,_,_⟩,some ⟨.slice _,_,_⟩,.c (.s s),.c (.s z)=>match fm T e with
    |some c=>bif c.sJ||Nat.beq c.bytes 0 then False else iP m e (c.sh.map Sh.zero) c.bytes s z λr b=>xD (JH n a []) m b (k a (.c (.s r)) b)
    |none=>False
   |_,_,_,_=>False
  |_,_=>False
 | .call ⟨.builtin .copy,d,f⟩=>match d.toList,f.toList with
  |[x,y],t::_=>match fm T t,ev a x,ev a y with
   |some ⟨.slice e,_,_⟩,.c (.s s),.c (.s z)=>match fm T e with
    |some c=>bif c.sJ then False else TV m c.sh.length s z λx b=>xD (JH n a []) m b (k a x b)
    |none=>False
   |_,_,_=>False
  |_,_=>False
 |_=>False
def EG(P:Program)(g:Nat):Bool:=
 match P.funcs[g]? with
 |some a=>!(a.name== "runtime.NumGoroutine")&&a.body.isSome
 |none=>false
def Rt(P:Program)(G:List Nat):Prop:=G.all (EG P)=true
def Nv(a:List Ce):∀(n i:Nat),i<n*a.length->(lS a n)[i]? =a[i%a.length]?
 |0,i,h=>by simp at h
 |n+1,i,h=>by
  have c:0<a.length:=by
   rcases jm a.length with e|e
   ·rw[e]at h;simp at h
   ·exact e
  have e:lS a (n+1)=a++lS a n:=by simp[lS,oW]
  rw[e,List.getElem?_append];split
  ·rename_i b;rw[Nat.mod_eq_of_lt b]
  ·rename_i b;rw[Nv a n (i -a.length) (by rw[fD,Nat.one_mul]at h;omega)];congr 1;rw[Nat.mod_eq_sub_mod (by omega:i>=a.length)]
def pK(a:List Ce)(n:Nat):(lS a n).length=n*a.length:=by
 simp[lS]
def FX(a:List Ce)(z:Array Value)(d:z.toList=a.map Ce.v)(n:Nat):
 (Array.range (n*a.length)).map (λi=>z[i%z.size]!)=br (lS a n):=by
 apply yY
 intro i
 have j:z.size=a.length:=by rw[<-Wj,d];simp
 by_cases b:i<n*a.length
 ·have f:=Nv a n i b
  have h:0<a.length:=by
   rcases jm a.length with e|e
   ·rw[e]at b;simp at b
   ·exact e
  have g:i%a.length<a.length:=Nat.mod_lt _ h
  have c:(br (lS a n))[i]? =((lS a n)[i]?).map Ce.v:=by simp[br]
  rw[c,f,<-bW,<-d]
  simp[b,j,g]
 ·have c:(br (lS a n))[i]? =none:=by simp[br,pK];omega
  rw[c]
  simp[b]
end Go.Vc
end
section
namespace Go.Vc
variable{x:SV}{l:List Ce}{t:TypeId}
variable{P:Program}{T:TT}{G:List Nat}
def Ce.RZ(x:Ce):x.v.oneCell'=true:=by
 cases x with
 |s y=>cases y<;>rfl
 |_=>rfl
def jP:∀(l:List Ce)(w:World)(b o:Nat),(w.setCells b o (l.map Ce.v)).heap=aj w.heap b o l
 |[],_,_,_=>rfl
 |c::r,w,b,o=>by
  simp only[cb,World.setCells,aj];rw[jP r,LJ]
def pp:∀(l:List Value)(w:World)(a o:Nat),nl w (w.setCells a o l)
 |[],w,_,_=>nl.aC w
 |c::r,w,a,o=>by
  simp only[World.setCells];exact nl.trans (b:=w.setCell ⟨a,o,none⟩ c) ⟨rfl,rfl,rfl⟩ (pp r _ a (o+1))
def Bw(l:List Ce)(b o:Nat)(w:World)(h:fu w.heap b o l.length):
 (storeCells ⟨b,o,none⟩ (l.map Ce.v)).run P w=.ok () (w.setCells b o (l.map Ce.v)):=by
 have:=run_storeCells_cells (P:=P) b o (l.map Ce.v) 0 w
  (λj a=>by have:=(h j (by simpa using a)).1;rw[xf];simpa using this)
  (λj a=>by have:=(h j (by simpa using a)).2;rw[NY];simpa using this)
  (λv a=>by obtain⟨c,_,rfl⟩:=List.mem_map.1 a;exact c.RZ)
 simpa using this
def Nb(l:List Ce)(b o:Nat)(a:World)(h:fU a.heap b o l):(loadCells ⟨b,o,none⟩ l.length).run P a=.ok (br l) a:=by
 have:=run_loadCells_list (P:=P) (w:=a) ⟨b,o,none⟩ (l.map Ce.v) (λj v c=>by
  rw[tH,xf];rw[bW]at c;obtain⟨d,e,rfl⟩:=Option.map_eq_some_iff.1 c;exact h j d e)
 simpa[br]using this
section
variable{n:Nat}{b:Fr}{a:Act}{m:I}{k:Fr->SV->I->Prop}{c:Option Tmp}{d:TypeId}{g:String}{e:Array Edge}{f:Option (Nat×Bool)}
def CH(P:Program)(n:Nat)(a:Act)(m:I)(o:Oper)(k:Fr->SV->I->Prop):Prop:=
 ∀(w:World),w.heap=m->∀(d:Act->World->Prop)(Q:Exit->Act->World->Prop),
  (∀c x v b,k c x b.heap->jq n c a->Bx n c b.heap->x.Is v->nl w b->d (a.put o.dst v) b)->o.wp P a w d Q
def iQ{o:Oper}{c:Fr}{v:Value}{w b:World}(f:jq n c a)(e:Bx n c b.heap)(l:x.Is v)(j:nl w b)(g:k c x b.heap)(i:(execOp a.eval o).run P w=.ok (.value v) b)
 {d:Act->World->Prop}{Q:Exit->Act->World->Prop}(h:∀c x v b,k c x b.heap->jq n c a->Bx n c b.heap->x.Is v->nl w b->d (a.put o.dst v) b):o.wp P a w d Q:=by
 unfold Oper.wp
 rw[i]
 exact h c x v b g f e l j
def KE{g:Option Nat}{t:Nat}(f:jq n b a)(e:Bx n b m)(h:PJ n b g m t l k):
 ∃c x,jq n c a/\Bx n c (m.push (.cells (br l) t))/\x.Is (.pointer (some ⟨m.size,0,none⟩))/\k c x (m.push (.cells (br l) t)):=by
 unfold PJ at h
 split at h
 ·split at h
  ·exact h.elim
  ·rename_i d _ i
   exact⟨(n+d,.box m.size t l)::b,.c (.bp (n+d) m.size 0),f.cons _ (λ_=>trivial),e.new (YA _ _) t l,rfl,h⟩
 ·exact⟨b,.c (.p m.size 0),f,e.push _,rfl,h⟩
def Nm(r:jq n b a)(f:Bx n b m)(h:LZ n b m x l k):
 ∃j c o,jq n j a/\Bx n j (aj m c o l)/\(∀v,x.Is v->v=.pointer (some ⟨c,o,none⟩))/\fu m c o l.length/\k j .un (aj m c o l):=by
 unfold LZ at h
 split at h
 ·obtain⟨p,q⟩:=kV h.2
  exact⟨_,_,_,r,f.de p,λv d=>d,h.1,q⟩
 ·split at h
  ·rename_i u c o _ g i e t
   cases s:Nat.ble (o+l.length) e.length
   ·rw[s]at h;exact h.elim
   ·rw[s]at h
    obtain⟨rfl,h⟩:=h
    have w:cD m g i e:=f.F u g i e (Or.inl t)
    exact⟨(u,.box g i (iD e o l))::b,_,_,r.cons _ (λ_=>trivial),f.uz t o l,λv d=>d,w.fu (kj s),h⟩
  ·exact h.elim
  ·obtain⟨p,q⟩:=kV h.2
   exact⟨_,_,_,r,f.de p,λv d=>d,h.1,q⟩
 ·exact h.elim
def NN(s:uA P T)(q:jq n b a)(o:Bx n b m)(h:wr P T G n b m c d k (.alloc t)):CH P n a m ⟨c,.alloc t,d,g,e,f⟩ k:=by
 intro i B J Q z
 subst B;simp only[wr]at h;split at h
 ·rename_i l A;cases j:l.sJ
  ·rw[j]at h;obtain⟨F,D,E,I⟩:=tV s A j;have u:F.cells=br (l.sh.map Sh.zero):=by apply Array.toList_inj.1;simp[D,br]
   obtain⟨H,x,r,p,C,y⟩:=KE q o h;refine iQ (w:=i) (x:=x) (v:=.pointer (some ⟨i.heap.size,0,none⟩)) (b:={i with heap:=i.heap.push (.cells (br (l.sh.map Sh.zero)) t)}) r p C ⟨rfl,rfl,rfl⟩ y ?_ z;simp[execOp,Instr.alloc,E,newVar,newRow,u]
  ·rw[j]at h;exact h.elim
 ·exact h.elim
def Qp(j:jq n b a)(o:Bx n b m){x:Operand}(h:wr P T G n b m c d k (.box t x)):CH P n a m ⟨c,.box t x,d,g,e,f⟩ k:=by
 intro i D J Q C
 subst D;simp only[wr]at h;split at h
 ·rename_i l B;split at h
  ·rename_i I y;obtain⟨s,q⟩:=oH y j o;obtain⟨z,u⟩:=nF B;obtain⟨H,F,r,p,E,A⟩:=KE s q h;refine iQ (w:=i) (x:=F) (v:=.pointer (some ⟨i.heap.size,0,none⟩)) (b:={i with heap:=i.heap.push (.cells (br l) t)}) r p E ⟨rfl,rfl,rfl⟩ A ?_ C;simp[execOp,Instr.box,newVar,newRow,j.eq rfl z,u,br]
  ·exact h.elim
 ·exact h.elim
def JL(o:jq n b a)(u:Bx n b m){j:Fn}{first i:Array Operand}(h:wr P T G n b m c d k (.makeFunc j first i)):CH P n a m ⟨c,.makeFunc j first i,d,g,e,f⟩ k:=by
 intro p C E Q B
 subst C;simp only[wr]at h;cases l:(first.toList.all (λx=>(ev b x).iL)&&i.toList.all (λx=>(ev b x).iL))
 ·rw[l]at h;exact h.elim
 ·rw[l]at h;simp only[bE]at l;obtain⟨s,t⟩:=l;have q:(first.toList.map λx=>(ev b x).v).toArray=first.map a.eval:=by
   apply Array.toList_inj.1;simp[zh o s]
  have r:(i.toList.map λx=>(ev b x).v).toArray=i.map a.eval:=by
   apply Array.toList_inj.1;simp[zh o t]
  simp only[jo]at h;split at h
  ·rename_i D A;obtain⟨z,y⟩:=oH A o u;refine iQ (w:=p) (b:=p) z y (v:=.func j (first.map a.eval) (i.map a.eval)) ?_ (nl.aC p) h ?_ B
   ·show Value.func j (first.map a.eval) (i.map a.eval)=Value.func j _ _;rw[q,r]
   ·simp[execOp,Instr.makeFunc]
  ·exact h.elim
def Gt(o:jq n b a)(d:Nat):
 ∀(q:List (Nat×Operand))(c:List Ce)(k:List Ce->Prop),uP T b d c q k->
  ∃l,k l/\Instr.fill (λi=>some (i*d,d)) (c.map Ce.v).toArray (q.map λp=>(p.1,a.eval p.2))=some (l.map Ce.v).toArray
 |[],c,k,h=>⟨c,h,rfl⟩
 |(i,x)::z,c,k,h=>by
  simp only[uP]at h;split at h
  ·rename_i e w;cases f:(Nat.beq e.length d&&Nat.ble (i*d+e.length) c.length)
   ·rw[f]at h;exact h.elim
   ·rw[f]at h;simp only[bE]at f;obtain⟨g,m⟩:=f;have g:=bh g;have m:=kj m;obtain⟨l,t,v⟩:=Gt o d z (kM c (i*d) e) k h;refine⟨l,t,?_⟩;obtain⟨u,s⟩:=nF w;have y:a.eval x=(ev b x).v:=o.eq rfl u;simp only[cb,Instr.fill,y,s,A2,eP,g];rw[ae bF,<-v];congr 1;apply yY;intro j;have p:=KA (e.map Ce.v) 0 (i*d) (c.map Ce.v).toArray j;rw[<-Xn,Wk];have r:=zm c (i*d) e j m;rw[show((List.map Ce.v (kM c (i*d) e)).toArray)[j]? =((kM c (i*d) e)[j]?).map Ce.v by simp,r];rw[p];simp;split<;>split<;>first|rfl|(exfalso;omega)|(congr 1;omega)
  ·exact h.elim
def GJ(z:uA P T)(B:jq n b a)(N:Bx n b m){h:Nat}{u:Array (Nat×Operand)}(i:wr P T G n b m c d k (.buildSlice t h u)):CH P n a m ⟨c,.buildSlice t h u,d,g,e,f⟩ k:=by
 intro o W ae aa R
 subst W;simp only[wr]at i;split at i
 ·rename_i L sh ab U;split at i
  ·rename_i j H;cases p:(j.sJ||!(Nat.ble (h*j.sh.length) 16777216))
   ·rw[p]at i;simp only[bP,Xo]at p;have ac:=kj p.2;have I:=(js (z.zq U)).1;obtain⟨K,X,Y,ad⟩:=tV z H p.1;have F:=λo=>jv z H p.1 o;obtain⟨l,s,q⟩:=Gt B _ _ _ _ i;cases A:CV b l with
    |none=>rw[A]at s;exact s.elim
    |some r=>
    rw[A]at s;obtain⟨Q,O⟩:=oH A B N;refine iQ (w:=o) (x:=.c (.s (.mk o.heap.size 0 h h))) (v:=.slice (some ⟨o.heap.size,0,none⟩) h h) (b:={o with heap:=o.heap.push (.cells (br l) L)}) Q (O.push _) rfl ⟨rfl,rfl,rfl⟩ s ?_ R;have C:(u.map λr=>(r.1,a.eval r.2)).toList=u.toList.map λr=>(r.1,a.eval r.2):=E;have Z:K.cells.toList=(j.sh.map Sh.zero).map Ce.v:=by simp[X]
    have J:(j.sh.map Sh.zero).length=j.sh.length:=E;have D:=FX (j.sh.map Sh.zero) K.cells Z h;rw[J]at D;by_cases y:h*j.sh.length=0
    ·have S:lS (j.sh.map Sh.zero) h=[]:=by
      apply List.length_eq_zero_iff.1;rw[pK,J,y]
     rw[S]at q;simp only[execOp,Instr.buildSlice,Sem.run_bind,run_underlying I,Result.andThen_ok,F,y];simp only[C];have M:(Array.map (λx=>(default:Value)) (Array.range 0))=#[]:=E;simp at q⊢;rw[M,q];simp[newRow,br]
    ·simp only[execOp,Instr.buildSlice,Sem.run_bind,run_underlying I,Result.andThen_ok,F,y,rU];have:¬(h*j.sh.length>2^24):=V;simp only[this,rU,Y,Sem.run_bind,Sem.run_pure,Result.andThen_ok,C];rw[D];simp only[br]at q⊢;simp[q,newRow]
   ·rw[p]at i;exact i.elim
  ·exact i.elim
 ·exact i.elim
def NO(B:uA P T)(o:jq n b a)(s:Bx n b m){x y:Operand}(h:wr P T G n b m c d k (.store t x y)):CH P n a m ⟨c,.store t x y,d,g,e,f⟩ k:=by
 intro w Q X V J
 subst Q;simp only[wr]at h;split at h
 ·rename_i l q H O;cases i:(q.sJ||!(Nat.beq l.length q.sh.length))
  ·rw[i]at h;simp only[lj]at h;simp only[bP,Xo]at i;split at h
   ·rename_i W D;obtain⟨A,v⟩:=oH D o s;obtain⟨r,j,p,z,u,R,K,E⟩:=Nm A v h;have I:=bh i.2;obtain⟨F,C⟩:=nF H;have N:=λw=>jv B O i.1 w;unfold Oper.wp;have L:(execOp a.eval ⟨c,.store t x y,d,g,e,f⟩).run P w=.ok .skip (w.setCells j p (l.map Ce.v)):=by
     have M:=Bw (P:=P) l j p w K;have S:a.eval x=.pointer (some ⟨j,p,none⟩):=R _ (o.ev x);have U:(a.eval y).cells=(l.map Ce.v).toArray:=by rw[o.eq rfl F,C]
     simp only[execOp,Instr.storeAt,S,Instr.sureAddr,storeVar,Sem.run_bind,Sem.run_pure,Result.andThen_ok,N,U,A2,eP,I];simp[M]
    rw[L];exact J r .un undef _ (by rw[jP];exact E) z (by rw[jP];exact u) rfl (pp _ _ _ _)
   ·exact h.elim
  ·rw[i]at h;exact h.elim
 ·exact h.elim
end
end Go.Vc
end
section
namespace Go.Vc
variable{x y f:Operand}{t:TypeId}{b:Array Operand}{c:Array TypeId}
variable{P:Program}{T:TT}{G:List Nat}
section
variable{n:Nat}{e:Fr}{a:Act}{m:I}{k:Fr->SV->I->Prop}{h:Option Tmp}{g:TypeId}{l:String}{i:Array Edge}{j:Option (Nat×Bool)}
def Mf{x:Int}(d: -9223372036854775808<=x)(e:x<=9223372036854775807):IntKind.i64.wrap x=x:=by
 have a:((2:Int)^IntKind.i64.bits)=18446744073709551616:=bd;have b:((2:Int)^(IntKind.i64.bits -1))=9223372036854775808:=bd;have c:IntKind.i64.signed=true:=rfl;simp only[IntKind.wrap,a,b,c,Sq,ao];split<;>omega
def aP{x:Int}(a: -9223372036854775808<=x)(b:x<=9223372036854775807):cO x=x:=Mf a b
def Ij(q:uA P T)(r:jq n e a)(F:Bx n e m)(b:wr P T G n e m h g k (.makeSlice t x y)):CH P n a m ⟨h,.makeSlice t x y,g,l,i,j⟩ k:=by
 intro o W ai ae J
 subst W;simp only[wr]at b;split at b
 ·rename_i C sh af f c R Z hy;split at b
  ·rename_i d s;cases p:d.sJ
   ·rw[p]at b;obtain⟨h0,h1,h2,h3,I⟩:=b;have U:=(js (q.zq R)).1;obtain⟨B,hz,ac,ah⟩:=tV q s p;obtain⟨ti,H,ag,S,_⟩:=Ds q s p;have Q:=λo=>jv q s p o;refine iQ (w:=o) (x:=.c (.s (.mk o.heap.size 0 f.toNat c.toNat))) (v:=.slice (some ⟨o.heap.size,0,none⟩) f.toNat c.toNat) (b:={o with heap:=o.heap.push (.cells (br (lS (d.sh.map Sh.zero) c.toNat)) C)}) r (F.push _) rfl ⟨rfl,rfl,rfl⟩ I ?_ J;have ad:B.cells.toList=(d.sh.map Sh.zero).map Ce.v:=by simp[hz]
    have A:(d.sh.map Sh.zero).length=d.sh.length:=E;have z:=FX (d.sh.map Sh.zero) B.cells ad c.toNat;rw[A]at z;have aa:a.eval x=.int .i64 f:=r.eq Z rfl;have ab:a.eval y=.int .i64 c:=r.eq hy rfl;have Y:IntKind.i64.wrap f=f:=Mf V V;have X:IntKind.i64.wrap c=c:=Mf V V;have K:¬c<0:=V;have L:¬((d.bytes:Int)*c>2^48):=by
     have:(2:Int)^48=281474976710656:=bd;omega
    have M:¬f<0:=V;have N:¬f>c:=V;simp only[execOp,Instr.makeSlice,Sem.run_bind,run_underlying U,Result.andThen_ok,asInt,asIntOf,aa,ab,Sem.run_pure,S,Y,X,H];simp only[K,L,M,N,decide_false,Sp,ji,rU];simp only[Sem.run_bind,Sem.run_pure,Result.andThen_ok,run_askRoom,Q];by_cases u:c.toNat*d.sh.length=0
    ·have O:lS (d.sh.map Sh.zero) c.toNat=[]:=by
      apply List.length_eq_zero_iff.1;rw[pK,A,u]
     rw[O];have D:(Array.map (λx=>(default:Value)) (Array.range 0))=#[]:=E;simp[u,newRow,br];rw[D]
    ·simp only[u,rU,Sem.run_bind,ac,Result.andThen_ok,Sem.run_pure];rw[z];simp[newRow]
   ·rw[p]at b;exact b.elim
  ·exact b.elim
 ·exact b.elim
def Im:∀{b:List Sh}{k:List Ce->Prop},Rm b k->∃l,k l
 |[],_,h=>⟨_,h⟩
 |_::_,_,⟨x,h⟩=>let⟨_,a⟩:=Im h;⟨_,a⟩
def CW:∀{c:List Nat}{k:List AV->Prop},PA T c k->∃l,k l
 |[],_,h=>⟨_,h⟩
 |t::c,k,h=>by
  simp only[PA]at h;split at h
  ·obtain⟨l,b⟩:=Im h;obtain⟨d,a⟩:=CW b;exact⟨_,a⟩
  ·obtain⟨x,b⟩:=h;obtain⟨d,a⟩:=CW b;exact⟨_,a⟩
  ·obtain⟨x,b⟩:=h;obtain⟨d,a⟩:=CW b;exact⟨_,a⟩
  ·exact h.elim
def PM{t:Nat}{v:Value}{k:SV->Prop}(h:MZ T t v k):∃x:SV,x.Is v/\k x:=by
 unfold MZ at h;split at h
 ·exact⟨.ib,trivial,h⟩
 ·obtain⟨l,b,a⟩:=CW h;exact⟨.Ui l,b,a⟩
 ·obtain⟨l,b,a⟩:=Im h;exact⟨.agg l,b,a⟩
 ·rename_i s _ _;obtain⟨x,b,a⟩:=h;exact⟨.c (s.mk x),b,a⟩
 ·obtain⟨x,b,a⟩:=h;exact⟨.c (.s x),b,a⟩
 ·exact h.elim
def Ii(y:Rt P G)(z:jq n e a){o:Fr}(A:jq n o a)(u:Bx n o m){d:Nat}{first q:Array Value}(D:a.eval f=.func (.func d) first q)
 (F:G.elem d=true)(I:b.toList.all (λx=>(ev e x).iL)=true)
 (t:aN P d (first.toList++(b.toList.map λx=>(ev e x).v)++q.toList) m λv p=>xD (JH n o []) m p (MZ T g v λx=>k o x p)):
 CH P n a m ⟨h,.call ⟨.value f,b,c⟩,g,l,i,j⟩ k:=by
 intro w N V R J
 subst N
 have p:EG P d=true:=List.all_eq_true.1 y d (by simpa using F)
 have B:b.map a.eval=(b.toList.map λx=>(ev e x).v).toArray:=by
  apply Array.toList_inj.1;simp[<-zh z I]
 unfold EG at p
 split at p
 ·rename_i s E
  simp only[bE,iF]at p
  have C:s.body.isNone=false:=by cases U:s.body<;>simp_all
  have K:(execOp a.eval ⟨h,.call ⟨.value f,b,c⟩,g,l,i,j⟩).run P w=
   .ok (.enter d (first.toList++(b.toList.map λx=>(ev e x).v)++q.toList).toArray) w:=by
   simp only[execOp,resolve,D,B,Deferred.ofValue,Sem.run_bind,Sem.run_pure,Result.andThen_ok,invoke,callFunc,run_program,E,p.1,C,ji,rU]
   simp
  unfold Oper.wp
  rw[K]
  show Calls P d _ w _
  refine(t w rfl).mono ?_
  rintro S Q ⟨v,rfl,L,r⟩
  obtain⟨M,r⟩:=kV r
  obtain⟨x,O,H⟩:=PM r
  exact J o x v Q H A (u.de M) O L
 ·simp at p
def Py(t:Rt P G)(p:jq n e a)(w:Bx n e m)(d:wr P T G n e m h g k (.call ⟨.value f,b,c⟩)):CH P n a m ⟨h,.call ⟨.value f,b,c⟩,g,l,i,j⟩ k:=by
 simp only[wr,Qm]at d;split at d
 ·exact d.elim
 rename_i C y;obtain⟨u,s⟩:=oH y p w;split at d
 ·rename_i q first captured r
  cases o:(G.elem q&&b.toList.all (λx=>(ev e x).iL))
  ·rw[o]at d;exact d.elim
  ·rw[o]at d;simp only[bE]at o;exact Ii t p u s (p.eq r rfl) o.1 o.2 d
 ·rename_i v r;cases o:(b.toList.all (λx=>(ev e x).iL))
  ·rw[o]at d;exact d.elim
  ·rw[o]at d;obtain⟨q,z,A,d⟩:=d;have B:a.eval f=.func (.func q) v.2.1 v.2.2:=by
    rw[<-z];exact p.eq r rfl
   exact Ii t p u s B A o d
 ·exact d.elim
def qu(a:P.underlying t=some (.int .i64))(e:Bool)(x:Int)(w:World):(Instr.checkKey e 10000 t (.int .i64 x)).run P w=.ok () w:=by
 have:Instr.checkKey e 10000 t (.int .i64 x)=Instr.checkKey e (9999+1) t (.int .i64 x):=rfl;rw[this];generalize 9999=d;simp[Instr.checkKey,run_underlying a]
def xk(x:Int):∀(a:List MapEntry)(l:List (Int×Int))(i:Nat),a.map (λe=>(e.key,e.val))=l.map (λp=>(Value.int .i64 p.1,Value.int .i64 p.2))->
 (Instr.findNow (.int .i64) (.int .i64 x) a i=some none/\LG l x=0/\(∀v,Oc l x v=l++[(x,v)]))\/
 ∃j u,Instr.findNow (.int .i64) (.int .i64 x) a i=some (some (i+j,.int .i64 u))/\LG l x=u/\j<a.length/\l[j]? =some (x,u)/\∀v,Oc l x v=l.set j (x,v)
 |[],[],i,_=>Or.inl ⟨rfl,rfl,λv=>rfl⟩
 |[],_::_,i,h=>by simp at h
 |_::_,[],i,h=>by simp at h
 |e::a,(j,u)::l,i,h=>by
  simp only[cb,List.cons.injEq,K4]at h;obtain⟨⟨p,r⟩,h⟩:=h;have g:Instr.sameNow (.int .i64) (.int .i64 x) e.key=some (x==j):=by rw[p];simp[Instr.sameNow]
  by_cases b:x=j
  ·subst b;refine Or.inr ⟨0,u,?_,?_,E,E,?_⟩
   ·simp[Instr.findNow,g,r]
   ·simp[LG]
   ·intro v;simp[Oc]
  ·have k:(x==j)=false:=by simpa using b
   rcases xk x a l (i+1) h with⟨c,d,f⟩|⟨q,s,c,d,f,n,o⟩
   ·refine Or.inl ⟨?_,?_,?_⟩
    ·simp[Instr.findNow,g,k,c]
    ·simp[LG,b,d]
    ·intro v;simp[Oc,b,f]
   ·refine Or.inr ⟨q+1,s,?_,?_,by simpa using f,by simpa using n,?_⟩
    ·have m:i+1+q=i+(q+1):=V;simp[Instr.findNow,g,k,c,m]
    ·simp[LG,b,d]
    ·intro v;simp[Oc,b,o]
def Lr(f:jq n e a)(d:Bx n e m){r:Option Operand}(c:wr P T G n e m h g k (.makeMap t r)):CH P n a m ⟨h,.makeMap t r,g,l,i,j⟩ k:=by
 intro b p q Q o
 subst p;cases r with
 |some r=>exact c.elim
 |none=>
  refine iQ (w:=b) (x:=.c (.mp b.heap.size)) (v:=.map (some b.heap.size)) (b:={b with heap:=b.heap.push (.map #[] 0)}) f (d.push _) rfl ⟨rfl,rfl,rfl⟩ c ?_ o;simp[execOp,Instr.makeMap]
def MH(r:uA P T)(q:jq n e a)(K:Bx n e m){u:Bool}(b:wr P T G n e m h g k (.lookup t x y u)):CH P n a m ⟨h,.lookup t x y u,g,l,i,j⟩ k:=by
 intro c W ag ad S
 subst W;cases u with
 |true=>exact b.elim
 |false=>
  simp only[wr]at b;split at b
  ·rename_i kt et sh ae A f V X Y;split at b
   ·rename_i b1 b2 R O;obtain⟨s,⟨B,I,N,M⟩,Q⟩:=b;have E:=(zr (r.zq V)).1;obtain⟨⟨J,d,D⟩,_⟩:=nZ (r.zq R);have L:J=.int .i64:=by
     unfold Bt at D;split at D<;>simp_all
    subst L;obtain⟨z,Z,ac,ab⟩:=tV r O rfl;have aa:z=.int .i64 0:=by
     have:z.cells.toList=[Value.int .i64 0]:=Z;have U:=ab rfl;cases z<;>first|(simp[Value.cells]at this;done)|(simp[Value.cells]at this;rw[this.1,this.2])|exact absurd rfl (U _)
    have F:a.eval x=.map (some A):=q.eq X rfl;have H:a.eval y=.int .i64 f:=q.eq Y rfl;have C:(getObj A).run P c=.ok (.map B I) c:=by simp[getObj,Sem.run,N]
    refine iQ (w:=c) (x:=.c (.i (LG s f))) (v:=.int .i64 (LG s f)) (b:=c) q K rfl (nl.aC c) Q ?_ S;rcases xk f B.toList s 0 M with⟨o,p,_⟩|⟨af,ah,o,p,_⟩
    ·simp[execOp,Instr.lookup,run_underlying E,F,H,C,qu d,Instr.findKey,run_underlying d,o,ac,aa,p]
    ·simp[execOp,Instr.lookup,run_underlying E,F,H,C,qu d,Instr.findKey,run_underlying d,o,p]
   ·exact b.elim
  ·exact b.elim
def Ik(M:uA P T)(q:jq n e a)(L:Bx n e m){z:Operand}(p:wr P T G n e m h g k (.mapUpdate t x y z)):CH P n a m ⟨h,.mapUpdate t x y z,g,l,i,j⟩ k:=by
 intro w hw ak ai S
 subst hw;simp only[wr]at p;split at p
 ·rename_i kt et sh aj c b s ht hx hy hz;split at p
  ·rename_i b1 ag;obtain⟨aa,⟨f,o,F,v⟩,R⟩:=p;have W:=(zr (M.zq ht)).1;obtain⟨⟨ab,u,U⟩,_⟩:=nZ (M.zq ag);have ac:ab=.int .i64:=by
    unfold Bt at U;split at U<;>simp_all
   subst ac;have X:a.eval x=.map (some c):=q.eq hx rfl;have Y:a.eval y=.int .i64 b:=q.eq hy rfl;have Z:a.eval z=.int .i64 s:=q.eq hz rfl;have O:(getObj c).run P w=.ok (.map f o) w:=by simp[getObj,Sem.run,F]
   have V:∀J,(setObj c J).run P w=.ok () {w with heap:=w.heap.setIfInBounds c J}:=λJ=>by simp[setObj,Sem.run,F]
   have N:c<w.heap.size:=(Array.getElem?_eq_some_iff.1 F).1;unfold Oper.wp;rcases xk b f.toList aa 0 v with⟨C,h2,D⟩|⟨d,al,C,h2,D,K,h5⟩
   ·have I:(execOp a.eval ⟨h,.mapUpdate t x y z,g,l,i,j⟩).run P w=.ok .skip {w with heap:=w.heap.setIfInBounds c (.map (f.push {key:=.int .i64 b,val:=.int .i64 s,born:=o}) (o+1))}:=by
     simp[execOp,Instr.mapUpdate,run_underlying W,X,Y,Z,O,qu u,Instr.findKey,run_underlying u,C,V]
    rw[I];have r:=kV (R {w with heap:=w.heap.setIfInBounds c (.map (f.push {key:=.int .i64 b,val:=.int .i64 s,born:=o}) (o+1))}.heap ?_ E ?_)
    ·exact S e .un undef _ r.2 q (L.de r.1) rfl ⟨rfl,rfl,rfl⟩
    ·refine⟨_,_,by simp[N];exact⟨rfl,rfl⟩,?_⟩;rw[D];simp[v]
    ·intro d H;simp[iW (km H)]
   ·have af:(f[d]?).map (·.key)=some (.int .i64 b):=by
     have:=rT (λA=>(A[d]?).map (·.1)) v;simpa[K]using this
    have ah:(Instr.keyThatStays (.int .i64 b) (.int .i64 b)).run P w=.ok (.int .i64 b) w:=by
     simp[Instr.keyThatStays,Instr.sameBits]
    have I:(execOp a.eval ⟨h,.mapUpdate t x y z,g,l,i,j⟩).run P w=.ok .skip {w with heap:=w.heap.setIfInBounds c (.map (f.modify d λB=>{B with key:=.int .i64 b,val:=.int .i64 s}) o)}:=by
     simp only[execOp,Instr.mapUpdate,run_underlying W,X,Y,Z,O,qu u,Instr.findKey,run_underlying u,C,Sem.run_bind,Result.andThen_ok,Sem.run_pure,bQ,af,tB,ah,V]
    rw[I];have r:=kV (R {w with heap:=w.heap.setIfInBounds c (.map (f.modify d λB=>{B with key:=.int .i64 b,val:=.int .i64 s}) o)}.heap ?_ E ?_)
    ·exact S e .un undef _ r.2 q (L.de r.1) rfl ⟨rfl,rfl,rfl⟩
    ·refine⟨_,_,by simp[N];exact⟨rfl,rfl⟩,?_⟩;rw[h5];apply fK;intro A;have B:=rT (λ(q':List (Value×Value))=>q'[A]?) v;simp only[bW]at B;simp only[bW,iI,UB,HD]at B⊢;by_cases Q:d=A
     ·subst Q;have ae:d<aa.length:=(List.getElem?_eq_some_iff.1 K).1;have ad:d<f.size:=by simpa using D
      simp[ae,ad]
     ·simp only[Q,rU];exact B
    ·intro d H;simp[iW (km H)]
  ·exact p.elim
 ·exact p.elim
def rq(l:List Ce)(z:O)(c e:Nat)(b:l.length=c*e)(w:World)(h:fU w.heap z.F z.off l)(d:c<=z.len):
 (Builtin.firstCells e c z.v).run P w=.ok (br l) w:=by
 cases z with
 |nil=>
  have a:c=0:=by simp at d;omega
  have:l=[]:=List.length_eq_zero_iff.1 (by rw[b,a];simp)
  subst this
  simp[Builtin.firstCells,O.v,br]
 |Bi f g i=>
  have a:c=0:=by simp at d;omega
  have:l=[]:=List.length_eq_zero_iff.1 (by rw[b,a];simp)
  subst this
  simp[Builtin.firstCells,O.v,br,a,loadCells,loadCellsFrom]
 |mk a o g f=>
  simp only[Builtin.firstCells,O.v,<-b]
  exact Nb l a o w h
def Mg(a:List Ce)(z:Array Value)(b:z.toList=a.map Ce.v)(n:Nat):Builtin.zeroCells z n=br (lS a n):=by
 have c:z.size=a.length:=by rw[<-Wj,b];simp
 rw[<-FX a z b n,Builtin.zeroCells,c]
def Nr(l r:List Ce):br (l++r)=br l++br r:=by simp[br]
def MG(H:uA P T)(C:jq n e a)(L:Bx n e m)(p:wr P T G n e m h g k (.call ⟨.builtin .append,b,c⟩)):CH P n a m ⟨h,.call ⟨.builtin .append,b,c⟩,g,l,i,j⟩ k:=by
 intro d hw aL aE N
 subst hw;simp only[wr]at p;split at p
 ·rename_i x y t aD al az;split at p
  ·rename_i A sh aF e2 aM aG s z ht aA hx hy;split at p
   ·rename_i f ab;cases r:(f.sJ||Nat.beq f.bytes 0)
    ·rw[r]at p;simp only[bP]at r;obtain⟨u,Q,ar,ag,ah⟩:=p;have e1:b=#[x,y]:=Array.toList_inj.1 (by simpa using al);have ak:c=#[t,aD]:=Array.toList_inj.1 (by simpa using az);subst e1;subst ak;have U:=(js (H.zq ht)).1;have W:=(js (H.zq aA)).1;obtain⟨zv,hz,aj,aK⟩:=tV H ab r.1;obtain⟨ti,hb,aJ,ac,_⟩:=Ds H ab r.1;have S:=λd=>jv H ab r.1 d;have X:a.eval x=s.v:=C.eq hx rfl;have Y:a.eval y=z.v:=C.eq hy rfl;have F:(Builtin.lenOf z.v).run P d=.ok z.len d:=by cases z<;>simp[Builtin.lenOf,O.v,O.len]
     have ai:(f.sh.map Sh.zero).length=f.sh.length:=E;rw[ai]at Q;simp only[ai]at ag ah;have M:∀q:World,q.heap=d.heap->(Builtin.firstCells f.sh.length z.len z.v).run P q=.ok (br u) q:=λq af=>
      rq u z z.len f.sh.length Q q (by rw[af];exact ar) (ad _)
     have ay:=s.Uj;by_cases D:s.len+z.len<=s.cap
     ·obtain⟨R,o⟩:=ag D;cases s with
      |nil=>
       simp only[O.LC,O.RF]at D R o;have J:z.len=0:=V;have:u=[]:=List.length_eq_zero_iff.1 (by rw[Q,J];simp);subst this;obtain⟨aa,o⟩:=kV o;refine iQ (w:=d) (x:=.c (.s .nil)) (v:=.slice none 0 0) (b:=d) C L rfl (nl.aC d) o ?_ N;have I:a.eval x=.slice none 0 0:=X;have B:=M d rfl;simp only[execOp,resolve,Sem.run_bind,Sem.run_pure,Result.andThen_ok,invoke,builtin,Builtin.append_,lM,cb,eJ,I,Y];rw[J]at F B;simp[run_underlying U,run_underlying W,S,F,B]
      |Bi K Z sp=>
       simp only[O.O1,O.RE]at D R o;have J:z.len=0:=V;have:u=[]:=List.length_eq_zero_iff.1 (by rw[Q,J];simp);subst this;obtain⟨aa,o⟩:=kV o;refine iQ (w:=d) (x:=.c (.s (.Bi K Z sp))) (v:=.slice (some ⟨K,Z,some sp⟩) 0 0) (b:=d) C L rfl (nl.aC d) o ?_ N;have I:a.eval x=.slice (some ⟨K,Z,some sp⟩) 0 0:=X;have B:=M d rfl;simp only[execOp,resolve,Sem.run_bind,Sem.run_pure,Result.andThen_ok,invoke,builtin,Builtin.append_,lM,cb,eJ,I,Y];rw[J]at F B;simp[run_underlying U,run_underlying W,S,F,B,br,storeCells]
      |mk B K J Z=>
       simp only[O.fZ,O.Ln,O.jb,O.mN]at D R o;obtain⟨aa,o⟩:=kV o;refine iQ (w:=d) (x:=.c (.s (.mk B K (J+z.len) Z))) (v:=.slice (some ⟨B,K,none⟩) (J+z.len) Z) (b:=d.setCells B (K+J*f.sh.length) (u.map Ce.v)) C (by rw[jP];exact L.de aa) rfl (pp _ _ _ _) (by rw[jP];exact o) ?_ N;have am:=Bw (P:=P) u B (K+J*f.sh.length) d R;have I:a.eval x=.slice (some ⟨B,K,none⟩) J Z:=X;simp only[execOp,resolve,Sem.run_bind,Sem.run_pure,Result.andThen_ok,invoke,builtin,Builtin.append_,lM,cb,eJ,I,Y];simp[run_underlying U,run_underlying W,S,F,D,M d rfl,tH,br,am]
     ·obtain⟨am,old,av,ax,o⟩:=ah V;have aH:=growslice_fits (need:=s.len+z.len) (old:=s.cap) (bytes:=f.bytes) V am;have R:f.bytes≠0:=λA=>by rw[A]at r;simp at r
      have aI:¬(((s.len+z.len:Nat):Int)>IntKind.i64.max/\f.bytes=0):=λhh=>R hh.2;have aw:∀q:World,q.heap=d.heap->(Builtin.firstCells f.sh.length s.len s.v).run P q=.ok (br old) q:=λq af=>
       rq old s s.len f.sh.length av q (by rw[af];exact ax) (ad _)
      let J:Question:=.appendCap (s.len+z.len) s.cap A;let B:=J.cut (d.tape d.drawn J);let K:World:={d with drawn:=d.drawn+1};have ap:s.len+z.len<=B:=YA _ _;refine iQ (w:=d) (x:=.c (.s (.mk d.heap.size 0 (s.len+z.len) B))) (v:=.slice (some ⟨d.heap.size,0,none⟩) (s.len+z.len) B)
       (b:={K with heap:=d.heap.push (.cells (br (old++u++lS (f.sh.map Sh.zero) (B -(s.len+z.len)))) A)}) C (L.push _) rfl ⟨rfl,rfl,rfl⟩ (kV (o B ap)).2 ?_ N
      have aC:zv.cells.toList=(f.sh.map Sh.zero).map Ce.v:=by simp[hz]
      have aa:=Mg (f.sh.map Sh.zero) zv.cells aC (B -(s.len+z.len));have an:J.forced=false:=rfl;have aq:¬(Builtin.nextslicecap (s.len+z.len) s.cap*f.bytes>2^48):=by
       have:(2:Nat)^48=281474976710656:=bd;omega
      simp only[execOp,resolve,Sem.run_bind,Sem.run_pure,Result.andThen_ok,invoke,builtin,Builtin.append_,lM,cb,eJ,X,Y];have I:=aw K rfl;have Z:=M K rfl;rw[ay]at I⊢;simp only[kd,ql,fR,Sem.run_bind,run_underlying U,run_underlying W,Result.andThen_ok,S,Sem.run_pure,F,ji,rU,D,ac,hb,false_or];simp only[R,and_false,rU,aq,Sem.run_bind,run_choose,an,ji,Result.andThen_ok,ac,run_askRoom,I,JF,Up,Z,aj,aa,newRow,run_newObj,Sem.run_pure];simp[Nr];rw[hb,ae V,ae (show¬(Question.appendCap (s.len+z.len) s.cap A).forced=true by simp[Question.forced])];have au:(Builtin.firstCells f.sh.length s.len (Value.slice s.cF s.len s.cap)).run P d.drew=.ok (br old) d.drew:=I;have ao:(Builtin.firstCells f.sh.length z.len z.v).run P d.drew=.ok (br u) d.drew:=Z;simp only[ac,Result.andThen_ok,au,ao,aj];have aB:Builtin.zeroCells zv.cells ((Question.appendCap (s.len+z.len) s.cap A).cut (d.tape d.drawn (Question.appendCap (s.len+z.len) s.cap A)) -(s.len+z.len))=br (lS (f.sh.map Sh.zero) (B -(s.len+z.len))):=aa;rw[aB];rfl
    ·rw[r]at p;exact p.elim
   ·exact p.elim
  ·exact p.elim
 ·exact p.elim
end
end Go.Vc
end
section
namespace Go.Vc
variable{P:Program}{T:TT}{G:List Nat}
section
variable{n:Nat}{b:Fr}{a:Act}{m:I}{k:Fr->SV->I->Prop}{c:Option Tmp}{d:TypeId}{g:String}{e:Array Edge}{f:Option (Nat×Bool)}
def Pz(M:uA P T)(r:jq n b a)(U:Bx n b m){q:Array Operand}{K:Array TypeId}(h:wr P T G n b m c d k (.call ⟨.builtin .copy,q,K⟩)):CH P n a m ⟨c,.call ⟨.builtin .copy,q,K⟩,d,g,e,f⟩ k:=by
 intro i hw ah ae W
 subst hw;simp only[wr]at h;split at h
 ·rename_i p R ad ai V ab;split at h
  ·rename_i ag sh af s z ht hx hy;split at h
   ·rename_i J aa;cases t:J.sJ
    ·rw[t]at h;obtain⟨l,B,X,Y,u⟩:=h;obtain⟨Z,u⟩:=kV u;have S:q=#[p,R]:=Array.toList_inj.1 (by simpa using V);subst S;have D:K[0]? =some ad:=by rw[<-UB,ab];rfl
     have F:=(js (M.zq ht)).1;have C:=λi=>jv M aa t i;have H:a.eval p=s.v:=r.eq hx rfl;have I:a.eval R=z.v:=r.eq hy rfl;have y:(Builtin.lenOf z.v).run P i=.ok z.len i:=by cases z<;>simp[Builtin.lenOf,O.v,O.len]
     have j:(Builtin.firstCells J.sh.length (Nat.min z.len s.len) z.v).run P i=.ok (br l) i:=
      rq l z _ J.sh.length B i X (Nat.min_le_left _ _)
     refine iQ (w:=i) (x:=.c (.i (Nat.min z.len s.len:Nat))) (v:=.int .i64 (Nat.min z.len s.len:Nat)) (b:=i.setCells s.F s.off (l.map Ce.v)) r (by rw[jP];exact U.de Z) rfl (pp _ _ _ _) (by rw[jP];exact u) ?_ W;cases s with
     |nil=>
      have A:Nat.min z.len O.nil.len=0:=E;have:l=[]:=List.length_eq_zero_iff.1 (by rw[B,A];simp);subst this;have o:a.eval p=.slice none 0 0:=H;simp only[O.LC]at j⊢;simp only[execOp,resolve,Sem.run_bind,Sem.run_pure,Result.andThen_ok,invoke,builtin,Builtin.copy_,lM,cb,eJ,o,I,D];simp only[kd,ql,fR,Sem.run_bind,run_underlying F,Result.andThen_ok,y,C,j,Sem.run_pure];rfl
     |Bi L N Q=>
      have A:Nat.min z.len (O.Bi L N Q).len=0:=E;have:l=[]:=List.length_eq_zero_iff.1 (by rw[B,A];simp);subst this;have o:a.eval p=.slice (some ⟨L,N,some Q⟩) 0 0:=H;simp only[O.O1]at j⊢;simp only[execOp,resolve,Sem.run_bind,Sem.run_pure,Result.andThen_ok,invoke,builtin,Builtin.copy_,lM,cb,eJ,o,I,D];simp only[kd,ql,fR,Sem.run_bind,run_underlying F,Result.andThen_ok,y,C,j,Sem.run_pure,br];rfl
     |mk A L ac N=>
      have Q:=Bw (P:=P) l A L i Y;have o:a.eval p=.slice (some ⟨A,L,none⟩) ac N:=H;simp only[O.fZ]at j⊢;simp only[execOp,resolve,Sem.run_bind,Sem.run_pure,Result.andThen_ok,invoke,builtin,Builtin.copy_,lM,cb,eJ,o,I,D];simp only[kd,ql,fR,Sem.run_bind,run_underlying F,Result.andThen_ok,y,C,j,Sem.run_pure,br,Q];rfl
    ·rw[t]at h;exact h.elim
   ·exact h.elim
  ·exact h.elim
 ·exact h.elim
def Nt(l:uA P T)(s:Rt P G)(j:jq n b a)(i:Bx n b m)(o:Oper)(h:wr P T G n b m o.dst o.type k o.op):CH P n a m o k:=by
 obtain⟨c,u,d,g,e,f⟩:=o;cases u with
 |alloc t=>exact NN l j i h
 |box t x=>exact Qp j i h
 |buildSlice t p q=>exact GJ l j i h
 |store t x y=>exact NO l j i h
 |makeSlice t x y=>exact Ij l j i h
 |makeFunc q first p=>exact JL j i h
 |makeMap t v=>exact Lr j i h
 |lookup t x y p=>exact MH l j i h
 |mapUpdate t x y z=>exact Ik l j i h
 |call q=>
  obtain⟨r,t,w⟩:=q;cases r with
  |builtin p=>
   cases p with
   |append=>exact MG l j i h
   |copy=>exact Pz l j i h
   |_=>exact h.elim
  |value p=>exact Py s j i h
  |invoke v p=>exact h.elim
 |_=>exact h.elim
end
end Go.Vc
end
section
namespace Go.Vc
variable{b:Array Bool}{j:Nat}{L:List (Nat×(World->Prop))}{a:Act}{w:World}
section
variable{P:Program}{c:Array Oper}{Q:Exit->Act->World->Prop}{d:Region.Mode}{e:Nat->Nat->Bool}
def tA(P:Program)(d:Region.Mode)(c:Array Oper)(Q:Exit->Act->World->Prop)(e:Nat->Nat->Bool)(L:List (Nat×(World->Prop))):Nat->Array Bool->Act->World->Prop
 |0,b,a,w=>Region.ready d c b=[]/\Q .normal a w
 |h+1,b,a,w=>
  (Region.ready d c b=[]->Q .normal a w)/\
  ∀i∈Region.ready d c b,wpOp P c Q i (λg f=>(∀x∈L,e i x.1=false->x.2 w->x.2 f)/\tA P d c Q e L h (b.setIfInBounds i true) g f) a w
def JD{L:List (Nat×(World->Prop))}:∀(f:Nat)(b:Array Bool)(a:Act)(w:World),tA P d c Q e L f b a w->wpAny P d c Q f b a w
 |0,_,_,_,h=>h
 |f+1,_,_,_,h=>⟨h.1,λk j=>wpOp_mono (λg l i=>JD f _ g l i.2) (h.2 k j)⟩
def AZ{L g:List (Nat×(World->Prop))}(j:∀x∈g,x∈L):∀(f:Nat)(b:Array Bool)(a:Act)(w:World),tA P d c Q e L f b a w->tA P d c Q e g f b a w
 |0,_,_,_,h=>h
 |f+1,_,_,_,h=>⟨h.1,λn l=>wpOp_mono (λk o i=>⟨λx m=>i.1 x (j x m),AZ j f _ k o i.2⟩) (h.2 n l)⟩
def Et(e:Nat->Nat->Bool)(b:Array Bool):Prop:=∀i,b.getD i false=true->∀r,e i r=true->b.getD r false=true
def Ro(d:Region.Mode)(c:Array Oper)(e:Nat->Nat->Bool):Prop:=
 ∀(i r:Nat)(o:Oper),c[i]? =some o->e i r=true->∃a∈o.after,Region.binds d a=true/\(a.on=r\/e a.on r=true)
def uR(k:Ro d c e)(l:Et e b)(n:j∈Region.ready d c b){r:Nat}(p:e j r=true):b.getD r false=true:=by
 obtain⟨_,q,o,g⟩:=mem_ready.1 n;obtain⟨f,m,i,h⟩:=k j r q o p;have a:=g f m i;rcases h with rfl|h
 ·exact a
 ·exact l _ a r h
def Et.set(k:Ro d c e)(a:Et e b)(l:j∈Region.ready d c b):Et e (b.setIfInBounds j true):=by
 intro i f r h;by_cases g:j=i
 ·subst g;exact getD_set_true (uR k a l h)
 ·rw[getD_set_ne false g]at f;exact getD_set_true (a i f r h)
def Ep{i:Nat}{l:Oper}{F:Value}{S:World->Prop}(I:Ro d c e)(C:c[i]? =some l)(O:∀(j:Nat)(R:Oper) q p,c[j]? =some R->R.op≠.select q p)
 (V:∀f a w,Q (.panic f) (a.put l.dst F) w->Q (.panic f) a w):
 ∀(r:Nat)(b:Array Bool)(a:Act)(w:World),Et e b->
  (∀j m,c[j]? =some m->j≠i->b.getD j true=false->(∀f∈m.after,Region.binds d f=true->f.on≠i)->l.apart c m=true)->
  i∈Region.ready d c b->YieldsIf P c S l F a->S w->
  tA P d c Q e ((i,S)::L) r (b.setIfInBounds i true) (a.put l.dst F) w->tA P d c Q e L (r+1) b a w:=by
 intro r
 induction r with
 |zero=>
  intro b a w _ _ k y x H
  refine⟨λh=>(by rw[h]at k;cases k),λj n=>?_⟩
  by_cases g:j=i
  ·subst g;exact y.wpOp C x ⟨λz _ _ h=>h,H⟩
  ·have:=ready_mono n g
   rw[H.1]at this
   cases this
 |succ r ih=>
  intro b a w J K k y x H
  refine⟨λh=>(by rw[h]at k;cases k),λj n=>?_⟩
  by_cases g:j=i
  ·subst g;exact y.wpOp C x ⟨λz _ _ h=>h,AZ (λz E=>ah _ E) _ _ _ _ H⟩
  ·have u:=H.2 j (ready_mono n g)
   obtain⟨N,m,D,W⟩:=mem_ready.1 n
   have s:b.getD i false=false:=by
    have G:=(mem_ready.1 k).1;rcases aX i b.size with A|A
    ·simp[A]at G⊢;exact G
    ·simp[Uk A]
   have ad:∀f∈m.after,Region.binds d f=true->f.on≠i:=λf Y B Z=>by
    have u:=W f Y B;rw[Z,s]at u;cases u
   have X:e j i=false:=by
    cases B:e j i
    ·rfl
    ·have:=uR I J n B;rw[s]at this;cases this
   have U:=wpOp_putIf D (K j m D g N ad) (λq p=>O i l q p C) (λq p=>O j m q p D) V y u
   have aa:∀o t,c[o]? =some t->o≠i->(b.setIfInBounds j true).getD o true=false->
    (∀f∈t.after,Region.binds d f=true->f.on≠i)->l.apart c t=true:=λo t hk ab s ac=>by
    refine K o t hk ab ?_ ac
    by_cases M:j=o
    ·subst M;exact N
    ·rw[getD_set_ne true M]at s;exact s
   refine wpOp_mono (λT w' v=>⟨λz E=>v.2.1 z (ah _ E),
    ih (b.setIfInBounds j true) T w' (J.set I n) aa (ready_mono k (km g)) v.1 (v.2.1 (i,S) aS X x) ?_⟩) U
   rw[Array.setIfInBounds_comm _ _ g]
   exact v.2.2
def Oy{f:Nat}(k:Region.ready d c b≠[])
 (j:∀i∈Region.ready d c b,wpOp P c Q i (λh g=>(∀x∈L,e i x.1=false->x.2 w->x.2 g)/\tA P d c Q e L f (b.setIfInBounds i true) h g) a w):
 tA P d c Q e L (f+1) b a w:=⟨λg=>absurd g k,j⟩
def Ns(f:Region.ready d c b=[])(h:Q .normal a w):
 ∀g,tA P d c Q e L g b a w
 |0=>⟨f,h⟩
 |_+1=>⟨λ_=>h,by rw[f];simp⟩
end
end Go.Vc
end
section
namespace Go.Vc
variable{o:Oper}{b:Fr}{a:Act}{m:I}
variable{P:Program}{T:TT}{G:List Nat}{n:Nat}
def IC:Op->Bool
 | .alloc _| .box ..| .buildSlice ..| .store ..| .makeSlice ..| .makeMap ..| .lookup ..| .mapUpdate ..| .makeFunc ..=>true
 | .call ⟨.builtin .append,_,_⟩| .call ⟨.builtin .copy,_,_⟩=>true
 | .call ⟨.builtin _,_,_⟩=>false
 | .call _=>true
 |_=>false
def p7(n:Nat):Option Nat->Bool
 |none=>true
 |some d=>Nat.blt d n
def Iv(a:List Oper)(j:Nat):Option Nat:=
 match ER a j with
 |some o=>o.dst
 |none=>none
def gd(e:List Oper)(b:Fr)(g:Option (Nat×Bool))(Ml a:Fr->Prop):Prop:=
 match g with
 |none=>Ml b
 |some (j,c)=>match Iv e j with
  |none=>False
  |some d=>match fS b d with
   | .tt=>bif c then Ml b else a b
   | .ff=>bif c then a b else Ml b
   | .un=>a b
   | .c (.t x)=>(x=true->bif c then Ml ((d,.tt)::b)else a ((d,.tt)::b))/\(x=false->bif c then a ((d,.ff)::b)else Ml ((d,.ff)::b))
   |_=>False
def qj(P:Program)(T:TT)(G:List Nat)(n:Nat)(a:List Oper):List Oper->Fr->I->(Fr->I->Prop)->Prop
 |[],b,m,k=>k b m
 |o::jJ,b,m,k=>
  bif p7 n o.dst then
   gd a b o.guard
    (λb=>bif IC o.op then wr P T G n b m o.dst o.type (λc x d=>qj P T G n a jJ (rY c o.dst x) d k) o.op
     else rd T b m (λx=>qj P T G n a jJ (rY b o.dst x) m k) o.op)
    (λb=>qj P T G n a jJ (rY b o.dst .un) m k)
  else False
def xh:List Oper->List Nat
 |[]=>[]
 |o::r=>match o.dst with
  |some d=>d::xh r
  |none=>xh r
def kZ(M:List Nat)(a b:Act):Prop:=∀t,t∉M->b.tmps.getD t undef=a.tmps.getD t undef
def kZ.aC(M:List Nat)(a:Act):kZ M a a:=λ_ _=>rfl
def kZ.trans{M:List Nat}{a b c:Act}(h:kZ M a b)(k:kZ M b c):kZ M a c:=λt d=>(k t d).trans (h t d)
def kZ.put{M:List Nat}{d:Option Nat}(b:∀t,d=some t->t∈M)(v:Value)(a:Act):kZ M a (a.put d v):=by
 cases d with
 |none=>exact kZ.aC M a
 |some d=>
  intro t f;have c:d≠t:=λe=>f (e▸b d rfl);simp[Act.put,iW c]
def IF{d:Nat}(c:o.dst=some d):∀(a:List Oper),o∈a->d∈xh a:=by
 intro a;induction a with
 |nil=>intro h;cases h
 |cons x r e=>
  intro h;rcases List.mem_cons.1 h with b|b
  ·subst b;simp only[xh,c];exact aS
  ·have:=e b;unfold xh;cases x.dst with
   |none=>exact this
   |some f=>exact ah _ this
def Bh{d:Option Nat}(h:p7 n d=true):∀t,d=some t->t<n:=by
 rintro t rfl;have:Nat.blt t n=true:=h;simpa[Nat.blt,Nat.succ_le_iff]using this
def FW(k:Array Oper)(f:jq n b a)(e:Bx n b m)(o:Oper){Ml A:Fr->Prop}(h:gd k.toList b o.guard Ml A):
 (Region.wanted o (yielded k a.tmps)=true/\∃c,Ml c/\jq n c a/\Bx n c m)\/
 (Region.wanted o (yielded k a.tmps)=false/\∃c,A c/\jq n c a/\Bx n c m):=by
 unfold gd at h
 cases c:o.guard with
 |none=>
  rw[c]at h
  exact Or.inl ⟨by simp[Region.wanted,c],b,h,f,e⟩
 |some D=>
  obtain⟨s,w⟩:=D
  rw[c]at h
  simp only at h
  split at h
  ·exact h.elim
  ·rename_i g q
   have z:(k[s]?).bind (·.dst)=some g:=by
    unfold Iv at q;rw[nN]at q;have C:k.toList[s]? =k[s]? :=E;rw[C]at q;split at q
    ·rename_i i d;rw[d];exact q
    ·simp at q
   have i:=f.u g
   have y:∀j:Bool,a.tmps.getD g undef=.bool j->yielded k a.tmps s=some j:=by
    intro j l;have:a.tmps[g]? =some (.bool j):=by
     cases r:a.tmps[g]? with
     |none=>rw[wO,r]at l;simp[undef]at l
     |some u=>rw[wO,r]at l;simp at l;rw[l]
    simp[yielded,z,this]
   split at h
   ·rename_i p
    rw[p]at i
    have d:=y true i
    cases w
    ·exact Or.inr ⟨by simp[Region.wanted,c,d],b,h,f,e⟩
    ·exact Or.inl ⟨by simp[Region.wanted,c,d],b,h,f,e⟩
   ·rename_i p
    rw[p]at i
    have d:=y false i
    cases w
    ·exact Or.inl ⟨by simp[Region.wanted,c,d],b,h,f,e⟩
    ·exact Or.inr ⟨by simp[Region.wanted,c,d],b,h,f,e⟩
   ·rename_i p
    rw[p]at i
    have d:yielded k a.tmps s=none:=by
     have t:a.tmps.getD g undef=undef:=i;rw[wO]at t;unfold yielded;rw[z];cases r:a.tmps[g]? with
     |none=>simp[r]
     |some u=>rw[r]at t;simp at t;subst t;simp[r,undef]
    exact Or.inr ⟨by simp[Region.wanted,c,d],b,h,f,e⟩
   ·rename_i x p
    rw[p]at i
    have d:=y x i
    have v:∀j:Bool,x=j->jq n ((g,if j then SV.tt else SV.ff)::b) a:=by
     rintro j rfl;refine⟨f.size,f.defers,λB=>?_⟩;simp only[fS];cases l:Nat.beq g B
     ·exact f.u B
     ·have:=bh l;subst this;cases x<;>exact i
    obtain⟨t,u⟩:=h
    cases x
    ·have u:=u rfl
     cases w
     ·exact Or.inl ⟨by simp[Region.wanted,c,d],_,u,v false rfl,e.ib E⟩
     ·exact Or.inr ⟨by simp[Region.wanted,c,d],_,u,v false rfl,e.ib E⟩
    ·have t:=t rfl
     cases w
     ·exact Or.inr ⟨by simp[Region.wanted,c,d],_,t,v true rfl,e.ib E⟩
     ·exact Or.inl ⟨by simp[Region.wanted,c,d],_,t,v true rfl,e.ib E⟩
   ·exact h.elim
def Vs(f:uA P T)(e:jq n b a)(d:Bx n b m){k:SV->Prop}(h:rd T b m k o.op){w:World}(l:w.heap=m)
 {c:Act->World->Prop}{Q:Exit->Act->World->Prop}(i:∀x v,k x->x.Is v->c (a.put o.dst v) w):o.wp P a w c Q:=by
 obtain⟨x,v,g,p,j⟩:=IS (P:=P) f e d o h
 unfold Oper.wp
 rw[j w (λq _=>by rw[l])]
 exact i x v g p
def sX(j:uA P T)(r:Rt P G)(c:Array Oper){Q:Exit->Act->World->Prop}{K:World}{F:Act}:
 ∀(jJ:List Oper)(b:Fr)(m:I)(k:Fr->I->Prop)(a:Act)(w:World),(∀o∈jJ,o∈c.toList)->qj P T G n c.toList jJ b m k->jq n b a->Bx n b m->w.heap=m->nl K w->
  kZ (xh c.toList) F a->
  (∀f d e,k f e.heap->jq n f d->Bx n f e.heap->nl K e->kZ (xh c.toList) F d->Q .normal d e)->wpList P c Q jJ a w
 |[],b,m,k,a,w,_,h,v,u,d,q,l,p=>by
  subst d;exact p b a w h v u q l
 |o::jJ,b,m,k,a,w,H,h,v,u,d,q,l,p=>by
  simp only[qj]at h;cases y:p7 n o.dst
  ·rw[y]at h;exact h.elim
  ·rw[y]at h;simp only[jo]at h;have z:=Bh y;have A:∀t,o.dst=some t->t∈xh c.toList:=λt N=>IF N _ (H o aS);have B:=λU R=>H U (ah _ R);unfold wpList;rcases FW c v u o h with⟨D,f,s,i,g⟩|⟨D,f,O,i,g⟩
   ·rw[aq D];refine .inl ?_;cases J:IC o.op
    ·simp only[J,lj]at s;refine Vs j i g s d λW V E C=>?_;exact sX j r c jJ _ m k _ w B E (i.put C z) (g.put _ _) d q (l.trans (kZ.put A _ _)) p
    ·simp only[J,jo]at s;refine Nt j r i g o s w d _ _ λX W V e E M L C S=>?_;exact sX j r c jJ _ _ k _ e B E (M.put C z) (L.put _ _) rfl (q.trans S) (l.trans (kZ.put A _ _)) p
   ·rw[ae (by rw[D];simp)];exact sX j r c jJ _ m k _ w B O (i.put (x:=.un) rfl z) (g.put _ _) d q (l.trans (kZ.put A _ _)) p
end Go.Vc
end
