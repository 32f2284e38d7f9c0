/- Part of a proof. -/
import Derived.KernelRfl
import Derived.Laws.Append
import Derived.Laws.Cells
import Derived.Laws.Entries
import Derived.Laws.IdiomCopy
import Derived.Orders
import Derived.OrdersHeld
import Derived.Still
import Derived.Tactics
import Derived.Test.YtkoifinbblcbiaaGreatProg
set_option linter.all false
set_option maxHeartbeats 8000000
set_option maxRecDepth 100000
namespace Go.Vc
def ad:=@Nat.le_refl
def ae:=@if_neg
def ai:=@List.mem_cons_of_mem
def aj:=@beq_eq_false_iff_ne
def an:=@if_pos
def ar:=@decide_eq_true_eq
def ax:=@List.getElem?_append_left
def aG:=@beq_iff_eq
def aI:=@List.getElem?_append_right
def aO:=@Nat.lt_of_lt_of_le
def aV:=@List.mem_cons
def aW:=@Nat.lt_or_ge
def aZ:=@List.length_cons
def be:=@List.length_append
def bg:=@List.mem_cons_self
def bq:=@Nat.eq_of_beq_eq_true
def br:=@Bool.or_eq_false_iff
def bH:=@Nat.le_trans
def bI:=@List.mem_append_left
def bK:=@Bool.and_eq_true
def bL:=@decide_eq_false_iff_not
def bQ:=@Bool.or_eq_true
def bU:=@Nat.zero_add
def cv:=@List.getElem?_set_ne
def cB:=@List.mem_or_eq_of_mem_set
def cJ:=@List.getElem?_map
def cK:=@List.map_cons
def cN:=@List.getElem?_eq_none
def cZ:=@List.cons_append
def dg:=@Int.le_refl
def dh:=@Nat.mul_le_mul_right
def dj:=@Nat.add_assoc
def dm:=@List.take_append_drop
def dx:=@List.getElem?_set_self
def dA:=@List.mem_of_mem_take
def dH:=@List.getElem?_take_of_lt
def dN:=@Nat.zero_le
def dQ:=@Classical.byContradiction
def dR:=@Classical.em
def dY:=@List.append_nil
def dZ:=@List.length_map
def eg:=@List.length_set
def eE:=@List.mem_append_right
def eF:=@List.nil_append
def eR:=@Nat.mul_one
def eW:=@List.length_nil
def eX:=@Nat.not_lt_zero
def fq:=@List.dropLast_concat_getLast
def ft:=@List.map_append
def fu:=@List.take_length
def fC:=@List.append_assoc
def fD:=@List.map_nil
def fL:=@Classical.choose_spec
def fS:=@List.getD_eq_getElem?_getD
def gD:=@List.getLast?_eq_some_getLast
def gJ:=@List.length_take
def gN:=@Nat.add_mul
def gV:=@List.ext_getElem?
def ic:=@List.getElem?_cons_succ
def iy:=@List.mem_of_getElem?
def iz:=@List.set_cons_zero
def iK:=@bne_eq_false_iff_eq
def iN:=@Bool.not_eq_true'
def jc:=@Nat.min_eq_left
def jm:=@Bool.false_eq_true
def jq:=@List.set_cons_succ
def jD:=@List.flatten_cons
def jE:=@List.getElem?_set
def jF:=@Nat.add_zero
def jG:=@Option.map_eq_some_iff
def jH:=@cond_true
def jK:=@Option.some.inj
def jQ:=@Array.getElem?_setIfInBounds_ne
def jX:=@List.not_mem_nil
def jY:=@Nat.eq_zero_or_pos
def kE:=@Ne.symm
def kG:=@gt_iff_lt
def lF:=@List.getElem?_take
def lG:=@List.mem_singleton
def lH:=@Array.getElem?_modify
def lI:=@List.getElem?_toArray
def lJ:=@Nat.le_of_ble_eq_true
def my:=@List.flatMap_cons
def mI:=@cond_false
def mM:=@Array.getElem?_push
def mN:=@List.length_reverse
def nk:=@List.map_toArray
def nt:=@List.take_append_of_le_length
def nD:=@List.take_of_length_le
def nE:=@Nat.lt_of_le_of_lt
def nT:=@Option.map_some
def nU:=@congrArg
def om:=@ge_iff_le
def oK:=@List.sizeOf_lt_of_mem
def oX:=@Nat.le_succ_of_le
def pX:=@Int.tdiv_eq_ediv_of_nonneg
def pY:=@Nat.succ_mul
def qb:=@List.drop_eq_getElem_cons
def qJ:=@List.flatten_append
def qK:=@List.length_take_le
def qL:=@List.replicate_succ
def rH:=@List.set_eq_of_length_le
def rI:=@if_false
def rY:=@List.getElem?_drop
def sq:=@List.getElem?_cons_zero
def tS:=@Int.toNat_natCast
def tT:=@List.findIdx_lt_length_of_exists
def tU:=@List.map_set
def tV:=@Nat.le_of_eq
def vt:=@Option.getD_some
def vu:=@bne_iff_ne
def vv:=@not_or
def wG:=@List.mem_of_mem_drop
def zg:=@Array.getD_eq_getD_getElem?
def BD:=@Array.ext_getElem?
def BE:=@or_false
def DE:=@List.size_toArray
def DF:=@Option.some.injEq
def Hj:=@Nat.add_sub_cancel_left
def Hk:=@Nat.le_of_not_lt
def I5:=@Array.getElem?_eq_none
def I6:=@Int.lt_or_le
def I7:=@List.drop_of_length_le
def Jw:=@Bool.eq_iff_iff
def Mj:=@Bool.not_false
def Mk:=@List.set_append_left
def Ml:=@List.take_take
def Mm:=@Nat.mul_le_mul
def Mp:=@if_true
def Nb:=@List.getElem?_range
def Nc:=@List.replicate_zero
def Nd:=@List.take_succ_cons
def Nf:=@Nat.testBit_two_pow
def NS:=@Bool.not_true
def NU:=@Bool.true_and
def NV:=@List.all_cons
def NW:=@List.map_take
def NX:=@Prod.mk.injEq
def Pa:=@List.set_eq_take_append_cons_drop
def Qi:=@List.any_nil
def Qj:=@List.reverse_cons
def Qk:=@Nat.le_of_lt
def Ql:=@Nat.sub_self
def Qm:=@Nat.zero_mul
def Ra:=@List.prefix_refl
def Sz:=@List.range_succ
def SD:=@Iff.rfl
def SE:=@dif_pos
def Uf:=@List.mapM_cons
def Ug:=@Nat.eq_of_mul_eq_mul_right
def Uh:=@Nat.testBit_or
def Un:=@Array.mapM_eq_mapM_toList
def Uo:=@List.exists_mem_of_ne_nil
def Vd:=@Array.getElem?_replicate
def Ve:=@Bool.false_or
def Vf:=@Bool.or_false
def Vg:=@List.eq_of_mem_replicate
def Xf:=@List.map_map
def Xg:=@List.mem_map
def Xh:=@List.set_set
def Xi:=@Nat.sub_zero
def Xt:=@Array.getElem?_mapIdx
def Xu:=@Array.getElem?_toList
def Xv:=@List.set_append_right
def Xw:=@Nat.ble_eq_true_of_le
def Y1:=@Int.add_mul
def Zh:=@Array.length_toList
def Zi:=@Array.toList_zipIdx
def aab:=@Array.foldl_toList
def aac:=@Bool.not_eq_false'
theorem dit{p A B:Prop}{i:Decidable p}(f:p->A)(g:¬p->B):(decide p=true->A)/\(decide p=false->B):=⟨λh=>f (of_decide_eq_true h),λh=>g (of_decide_eq_false h)⟩
theorem V{p:Prop}(h:p:=by omega):p:=h
theorem aL{p:Prop}(h:p:=by simp):p:=h
theorem bh{p:Prop}(h:p:=by decide):p:=h
theorem bE{p:Prop}(h:p:=by simp;omega):p:=h
end Go.Vc
section
namespace Go.Vc
variable{n:Nat}{a:Act}
abbrev E:=Array Obj
def af(m:E)(b o:Nat):Option Value:=
 match m[b]? with
 |some (.cells c _ _)=>c[o]?
 |_=>none
def vE(m:E)(b o:Nat):Bool:=
 match m[b]? with
 |some (.cells _ _ (c,a))=>c<=o&&o<a
 |_=>false
def rm(m:E)(b o:Nat)(v:Value):E:=
 m.modify b λ
  | .cells c e f=>.cells (c.setIfInBounds o v) e f
  |x=>x
def zy(w:World)(b o:Nat):w.cell? ⟨b,o,none⟩=af w.heap b o:=by
 simp only[World.cell?,af];cases h:w.heap[b]? with
 |none=>rfl
 |some x=>cases x<;>simp
def QI(w:World)(b o:Nat):w.frozen? ⟨b,o,none⟩=vE w.heap b o:=by
 simp only[World.frozen?,vE];cases h:w.heap[b]? with
 |none=>rfl
 |some x=>cases x<;>simp
def OJ(w:World)(b o:Nat)(v:Value):(w.setCell ⟨b,o,none⟩ v).heap=rm w.heap b o v:=by
 simp only[World.setCell,rm];congr 1
structure pu(w w':World):Prop where
 os:w'.os=w.os
 tape:w'.tape=w.tape
 output:w'.output=w.output
def pu.az(w:World):pu w w:=⟨rfl,rfl,rfl⟩
def pu.trans{a b c:World}(h:pu a b)(k:pu b c):pu a c:=⟨k.os.trans h.os,k.tape.trans h.tape,k.output.trans h.output⟩
def aN(P:Program)(f:FuncId)(b:List Value)(m:E)(K:Value->E->Prop):Prop:=
 ∀w:World,w.heap=m->Calls P f b.toArray w λe a=>∃v,e=.returned v/\pu w a/\K v a.heap
def aN.mono{P:Program}{f:FuncId}{b:List Value}{m:E}{K a:Value->E->Prop}(h:aN P f b m K)
 (e:∀v c,K v c->a v c):aN P f b m a:=
 λw i=>(h w i).mono λ_ _⟨v,d,g,c⟩=>⟨v,d,g,e _ _ c⟩
inductive O where
 |nil
 |mk (b o len cap:Nat)
 |zC (b o sp:Nat)
def O.v:O->Value
 | .nil=>.slice none 0 0
 | .mk b o l c=>.slice (some ⟨b,o,none⟩) l c
 | .zC b o a=>.slice (some ⟨b,o,some a⟩) 0 0
def O.len:O->Nat
 | .nil=>0
 | .mk _ _ l _=>l
 | .zC _ _ _=>0
def O.cap:O->Nat
 | .nil=>0
 | .mk _ _ _ c=>c
 | .zC _ _ _=>0
def O.D:O->Nat
 | .nil=>0
 | .mk b _ _ _=>b
 | .zC b _ _=>b
def O.off:O->Nat
 | .nil=>0
 | .mk _ o _ _=>o
 | .zC _ o _=>o
@[simp] theorem O.RE (b o sp:Nat):(O.zC b o sp).len=0:=rfl
@[simp] theorem O.UC (b o sp:Nat):(O.zC b o sp).cap=0:=rfl
@[simp] theorem O.OC:O.nil.len=0:=rfl
@[simp] theorem O.UD:O.nil.cap=0:=rfl
@[simp] theorem O.Y7:O.nil.D=0:=rfl
@[simp] theorem O.Zd:O.nil.off=0:=rfl
@[simp] theorem O.gF (b o l c:Nat):(O.mk b o l c).len=l:=rfl
@[simp] theorem O.Oi (b o l c:Nat):(O.mk b o l c).cap=c:=rfl
@[simp] theorem O.jB (b o l c:Nat):(O.mk b o l c).D=b:=rfl
@[simp] theorem O.mV (b o l c:Nat):(O.mk b o l c).off=o:=rfl
def O.FV:O->Bool
 | .nil=>true
 | .mk _ _ _ _=>false
 | .zC _ _ _=>false
@[simp] theorem O.Xp:O.nil.FV=true:=rfl
@[simp] theorem O.Xo (b o sp:Nat):(O.zC b o sp).FV=false:=rfl
@[simp] theorem O.Yj (b o l c:Nat):(O.mk b o l c).FV=false:=rfl
def O.cy:O->Option Addr
 | .nil=>none
 | .mk b o _ _=>some ⟨b,o,none⟩
 | .zC b o a=>some ⟨b,o,some a⟩
def O.Xe(s:O):s.v=.slice s.cy s.len s.cap:=by cases s<;>rfl
inductive Ce where
 |i (n:Int)
 |u (k:IntKind) (n:Int)
 |t (x:Bool)
 |s (x:O)
 |p (b o:Nat)
 |pn
 |fn (f:Fn) (first captured:Array Value)
 |fv (q:Fn×Array Value×Array Value)
 |nf
 |str (x:ByteArray)
 |mp (b:Nat)
 |mn
 |bp (k b o:Nat)
def Ce.v:Ce->Value
 | .i n=>.int .i64 n
 | .u k n=>.int k n
 | .t x=>.bool x
 | .s x=>x.v
 | .p b o=>.pointer (some ⟨b,o,none⟩)
 | .pn=>.pointer none
 | .fn f a c=>.func f a c
 | .fv q=>.func q.1 q.2.1 q.2.2
 | .nf=>.nilFunc
 | .str x=>.string x
 | .mp b=>.map (some b)
 | .mn=>.map none
 | .bp _ b o=>.pointer (some ⟨b,o,none⟩)
inductive AV where
 |c (x:Ce)
 |agg (l:List Ce)
def AV.v:AV->Value
 | .c x=>x.v
 | .agg l=>.agg (l.map Ce.v).toArray
inductive SV where
 |c (x:Ce)
 |tt
 |ff
 |agg (l:List Ce)
 |Xd (l:List AV)
 |un
 |fU
 |box (b e:Nat) (l:List Ce)
 |zr (b e:Nat) (l:List Ce)
def SV.v:SV->Value
 | .c x=>x.v
 | .tt=>.bool true
 | .ff=>.bool false
 | .agg l=>.agg (l.map Ce.v).toArray
 | .Xd l=>.tuple (l.map AV.v).toArray
 | .un=>undef
 | .fU=>undef
 | .box _ _ _=>undef
 | .zr _ _ _=>undef
def SV.Is:SV->Value->Prop
 | .fU,_=>True
 | .box _ _ _,_=>True
 | .zr _ _ _,_=>True
 |s,v=>v=s.v
def AV.sv:AV->SV
 | .c x=>.c x
 | .agg l=>.agg l
def AV.Z8(x:AV):x.sv.v=x.v:=by cases x<;>rfl
abbrev Fr:=List (Nat×SV)
def ig:Fr->Nat->SV
 |[],_=>.fU
 |(u,x)::r,t=>bif Nat.beq u t then x else ig r t
def SV.nb:SV->SV
 | .box _ _ _=>.fU
 | .zr _ _ _=>.fU
 |x=>x
def tX(a:Fr)(d:Option Nat)(x:SV):Fr:=
 match d with
 |some d=>(d,x.nb)::a
 |none=>a
def SV.TN{x:SV}{v:Value}(h:x.Is v):x.nb.Is v:=by
 cases x<;>first|exact h|trivial
def Ce.lK(x:Ce):x.v.cells=#[x.v]:=by
 cases x with
 |s y=>cases y<;>rfl
 |_=>rfl
def kL:Value->Option Ce
 | .int .i64 n=>some (.i n)
 | .int k n=>some (.u k n)
 | .bool x=>some (.t x)
 | .slice none 0 0=>some (.s .nil)
 | .pointer none=>some .pn
 | .nilFunc=>some .nf
 | .string x=>some (.str x)
 |_=>none
def Nt{x:Value}{c:Ce}(h:kL x=some c):c.v=x:=by
 unfold kL at h;split at h<;>simp at h<;>subst h<;>rfl
def pC:List Value->Option (List Ce)
 |[]=>some []
 |v::b=>match kL v,pC b with
  |some c,some a=>some (c::a)
  |_,_=>none
def KD:∀{b:List Value}{a:List Ce},pC b=some a->a.map Ce.v=b
 |[],_,h=>by simp[pC]at h;subst h;rfl
 |v::b,a,h=>by
  simp only[pC]at h;split at h
  .rename_i e f c d;simp at h;subst h;simp[Nt c,KD d]
  .simp at h
def Fw:Value->SV
 | .bool true=>.tt
 | .bool false=>.ff
 | .agg a=>match pC a.toList with
  |some l=>.agg l
  |none=>.fU
 | .tuple a=>bif a.toList.isEmpty then .un else .fU
 |v=>match kL v with
  |some c=>.c c
  |none=>.fU
def Qy(x:Value):(Fw x).Is x:=by
 unfold Fw;split
 .rfl
 .rfl
 .rename_i a;split
  .rename_i l b;show Value.agg a=.agg (l.map Ce.v).toArray;rw[KD b]
  .trivial
 .rename_i a;cases h:a.toList.isEmpty
  .trivial
  .show Value.tuple a=undef;have:a=#[]:=by simpa using h
   rw[this];rfl
 .split
  .rename_i c a;exact(Nt a).symm
  .trivial
def ev(a:Fr):Operand->SV
 | .tmp t=>(ig a t).nb
 | .const v=>Fw v
 | .global g=>.c (.p g 0)
 | .func f=>.c (.fn (.func f) #[] #[])
structure jZ(n:Nat)(fr:Fr)(a:Act):Prop where
 size:a.tmps.size=n
 defers:a.defers=[]
 aF:∀t,(ig fr t).Is (a.tmps.getD t undef)
def jZ.ev{b:Fr}(h:jZ n b a)(x:Operand):(ev b x).Is (a.eval x):=by
 cases x with
 |tmp t=>exact SV.TN (h.aF t)
 |const v=>exact Qy v
 |global g=>rfl
 |func f=>rfl
def jZ.put{n:Nat}{b:Fr}{a:Act}(h:jZ n b a){d:Option Nat}{x:SV}{v:Value}(g:x.Is v)(hd:∀t,d=some t->t<n):
 jZ n (tX b d x) (a.put d v):=by
 cases d with
 |none=>exact h
 |some d=>
  refine⟨by simpa[Act.put]using h.size,h.defers,λt=>?_⟩
  have f:d<a.tmps.size:=by rw[h.size];exact hd d rfl
  simp only[tX,ig,Act.put]
  by_cases e:d=t
  .subst e
   simp only[Nat.beq_refl,jH]
   simpa[f]using SV.TN g
  .have:Nat.beq d t=false:=by
    cases c:Nat.beq d t
    .rfl
    .exact absurd (bq c) e
   simp only[this,mI]
   have:=h.aF t
   simpa[jQ e]using this
def jZ.cons{b:Fr}(h:jZ n b a)(t:Nat){x:SV}(c:∀v,x.Is v):jZ n ((t,x)::b) a:=by
 refine⟨h.size,h.defers,λu=>?_⟩;simp only[ig];cases d:Nat.beq t u
 .exact h.aF u
 .exact c _
def jZ.fU{b:Fr}(h:jZ n b a)(t:Nat):jZ n ((t,.fU)::b) a:=by
 refine⟨h.size,h.defers,λu=>?_⟩;simp only[ig];cases c:Nat.beq t u
 .exact h.aF u
 .trivial
end Go.Vc
end
section
namespace Go.Vc
variable{P:Program}{t b e:Nat}
inductive Sh where
 |I
 |U (k:IntKind)
 |T
 |S
 |P
 |F
 |M
 deriving DecidableEq
abbrev Sh.ty:Sh->Type
 | .I=>Int
 | .U _=>Int
 | .T=>Bool
 | .S=>O
 | .P=>Nat×Nat
 | .F=>Fn×Array Value×Array Value
 | .M=>Nat
abbrev Sh.mk:(s:Sh)->s.ty->Ce
 | .I,n=>.i n
 | .U k,n=>.u k n
 | .T,x=>.t x
 | .S,x=>.s x
 | .P,q=>.p q.1 q.2
 | .F,v=>.fv v
 | .M,b=>.mp b
def Sh.zero:Sh->Ce
 | .I=>.i 0
 | .U k=>.u k 0
 | .T=>.t false
 | .S=>.s .nil
 | .P=>.pn
 | .F=>.nf
 | .M=>.mn
inductive TK where
 |cell
 |slice (elem:Nat)
 |struct (offs:List (Nat×Nat))
 |tuple (ts:List Nat)
 |map (key elem:Nat)
structure TI where
 HM:TK
 sh:List Sh
 bytes:Nat
abbrev TT:=List (Nat×TI)
def fJ:TT->Nat->Option TI
 |[],_=>none
 |(u,x)::r,t=>bif Nat.beq u t then some x else fJ r t
def OL:Sh->Value->Bool
 | .I,.int .i64 0=>true
 | .U k,.int a 0=>decide (k=a)
 | .T,.bool false=>true
 | .S,.slice none 0 0=>true
 | .P,.pointer none=>true
 | .F,.nilFunc=>true
 | .M,.map none=>true
 |_,_=>false
def OM{s:Sh}{v:Value}(h:OL s v=true):v=s.zero.v:=by
 unfold OL at h;split at h<;>first|rfl|(simp at h;subst h;rfl)|simp at h
def Fe:List Value->List Sh->Bool
 |[],[]=>true
 |v::b,s::a=>OL s v&&Fe b a
 |_,_=>false
def BC:∀{b:List Value}{a:List Sh},Fe b a=true->b=a.map λs=>s.zero.v
 |[],[],_=>rfl
 |v::b,s::a,h=>by
  simp only[Fe,bK]at h;simp[OM h.1,BC h.2]
 |[],_::_,h=>by simp[Fe]at h
 |_::_,[],h=>by simp[Fe]at h
def Nz:List Field->List (Nat×Nat)->Bool
 |[],[]=>true
 |f::a,(o,t)::r=>Nat.beq f.offset o&&Nat.beq f.type t&&Nz a r
 |_,_=>false
def Lh:∀{a:List Field}{b:List (Nat×Nat)},Nz a b=true->a.map (λf=>(f.offset,f.type))=b
 |[],[],_=>rfl
 |f::a,(o,t)::r,h=>by
  simp only[Nz,bK]at h;simp[bq h.1.1,bq h.1.2,Lh h.2]
 |[],_::_,h=>by simp[Nz]at h
 |_::_,[],h=>by simp[Nz]at h
def zY:TypeDesc->List Sh->Bool
 | .bool,[.T]=>true
 | .int .i64,[.I]=>true
 | .int k,[.U k']=>decide (k=k')
 | .pointer _,[.P]=>true
 | .func ..,[.F]=>true
 |_,_=>false
def BL(i:TypeInfo)(a:TI)(b:Bool):Bool:=
 Nat.beq i.size a.sh.length&&Nat.beq i.bytes a.bytes&&
 (match i.zero with
  |some (.agg c)=>b&&Fe c.toList a.sh
  |some z=>!b&&Fe [z] a.sh
  |none=>false)
def Yu(t:Nat):Nat:=t+1000000
def UF(P:Program)(t:Nat):Bool:=
 match P.underlying t with
 |some (.struct a)=>a.toList.all (λf=>f.name != "_")&&!P.stoodInHeld t&&!P.eqGuardType P.depth t
 |_=>false
def yh(P:Program)(t:Nat)(a:TI):Bool:=
 match a.HM with
 | .tuple _=>if t<1000000 then true else UF P (t -1000000)
 | .slice e=>match P.info? t,P.underlying t with
  |some i,some (.slice b)=>Nat.beq e b&&BL i a false
  |_,_=>false
 | .struct d=>match P.info? t,P.underlying t with
  |some i,some (.struct c)=>Nz c.toList d&&BL i a true
  |_,_=>false
 | .map k e=>match P.info? t,P.underlying t with
  |some i,some (.map c b)=>Nat.beq k c&&Nat.beq e b&&BL i a false
  |_,_=>false
 | .cell=>match P.info? t,P.underlying t with
  |some i,some d=>zY d a.sh&&BL i a false
  |_,_=>false
def uj(P:Program)(T:TT):Prop:=T.all (λx=>yh P x.1 x.2)=true
def P8:∀{T:TT}{t:Nat}{b:TI},fJ T t=some b->(t,b)∈T
 |[],_,_,h=>by simp[fJ]at h
 |(u,x)::r,t,b,h=>by
  simp only[fJ]at h;cases a:Nat.beq u t
  .rw[a]at h;exact ai _ (P8 h)
  .rw[a]at h;have:=bq a;simp at h;subst h;subst this;exact bg
def uj.yh{T:TT}(h:uj P T){a:TI}(b:fJ T t=some a):yh P t a=true:=
 List.all_eq_true.1 h _ (P8 b)
def uj.cmp{T:TT}(h:uj P T){l:List Nat}{c:List Sh}(a:fJ T (Yu t)=some ⟨.tuple l,c,b⟩):UF P t=true:=by
 have:=h.yh a;simp only[Go.Vc.yh]at this;rw[ae (by unfold Yu;omega),show Yu t -1000000=t by unfold Yu;omega]at this;exact this
structure Kp(P:Program)(t:Nat)(ti:TI)(agg:Bool):Prop where
 aaf:∃i,P.info? t=some i/\i.size=ti.sh.length/\i.bytes=ti.bytes/\
  ∃z,i.zero=some z/\z.cells.toList=(ti.sh.map λs=>s.zero.v)/\(agg=false->∀cs,z≠.agg cs)
def sI{g:TI}{i:TypeInfo}{c:Bool}(j:P.info? t=some i)(h:BL i g c=true):Kp P t g c:=by
 simp only[BL,bK]at h;refine⟨i,j,bq h.1.1,bq h.1.2,?_⟩;have a:=h.2;split at a
 .rename_i d b;simp only[bK]at a;exact⟨_,b,by simpa[Value.cells]using BC a.2,λf=>by rw[f]at a;simp at a⟩
 .rename_i z f b;simp only[bK]at a;refine⟨_,b,?_,λ_ d e=>f d (by rw[e])⟩;have:=BC a.2;rw[<-this];cases z<;>first|rfl|exact(f _ rfl).elim
 .simp at a
def ka{a:List Sh}(h:yh P t ⟨.slice e,a,b⟩=true):P.underlying t=some (.slice e)/\Kp P t ⟨.slice e,a,b⟩ false:=by
 simp only[yh]at h;split at h
 .rename_i i f c d;simp only[bK]at h;have:=bq h.1;subst this;exact⟨d,sI c h.2⟩
 .simp at h
def BZ{k:Nat}{a:List Sh}(h:yh P t ⟨.map k e,a,b⟩=true):P.underlying t=some (.map k e)/\Kp P t ⟨.map k e,a,b⟩ false:=by
 simp only[yh]at h;split at h
 .rename_i j l i f g;simp only[bK]at h;have c:=bq h.1.1;have d:=bq h.1.2;subst c;subst d;exact⟨g,sI f h.2⟩
 .simp at h
def ng{c:List (Nat×Nat)}{d:List Sh}(h:yh P t ⟨.struct c,d,b⟩=true):
 (∃a,P.underlying t=some (.struct a)/\a.toList.map (λf=>(f.offset,f.type))=c)/\Kp P t ⟨.struct c,d,b⟩ true:=by
 simp only[yh]at h
 split at h
 .rename_i i a e f
  simp only[bK]at h
  exact⟨⟨a,f,Lh h.1⟩,sI e h.2⟩
 .simp at h
def nR{a:List Sh}(h:yh P t ⟨.cell,a,b⟩=true):
 (∃d,P.underlying t=some d/\zY d a=true)/\Kp P t ⟨.cell,a,b⟩ false:=by
 simp only[yh]at h
 split at h
 .rename_i i d c e
  simp only[bK]at h
  exact⟨⟨d,e,h.1⟩,sI c h.2⟩
 .simp at h
def TI.agg(a:TI):Bool:=match a.HM with| .struct _=>true|_=>false
def TI.ux(a:TI):Bool:=match a.HM with| .tuple _=>true|_=>false
def kv{T:TT}(f:uj P T){d:TI}(g:fJ T t=some d)(j:d.ux=false)(w:World):
 (sizeOf t).run P w=.ok d.sh.length w:=by
 have h:=f.yh g
 obtain⟨HM,k,b⟩:=d
 have:∃i,P.info? t=some i/\i.size=k.length:=by
  cases HM with
  |cell=>obtain⟨_,⟨i,a,c,_⟩⟩:=nR h;exact⟨i,a,c⟩
  |slice e=>obtain⟨_,⟨i,a,c,_⟩⟩:=ka h;exact⟨i,a,c⟩
  |map l e=>obtain⟨_,⟨i,a,c,_⟩⟩:=BZ h;exact⟨i,a,c⟩
  |struct o=>obtain⟨_,⟨i,a,c,_⟩⟩:=ng h;exact⟨i,a,c⟩
  |tuple l=>simp[TI.ux]at j
 obtain⟨i,a,c⟩:=this
 simp[sizeOf,typeInfo,a,c]
def Gf{T:TT}(g:uj P T){f:TI}(j:fJ T t=some f)(k:f.ux=false):
 ∃i,i.bytes=f.bytes/\i.size=f.sh.length/\(∀w,(typeInfo t).run P w=.ok i w)/\P.info? t=some i:=by
 have h:=g.yh j
 obtain⟨HM,l,b⟩:=f
 have:∃i,P.info? t=some i/\i.size=l.length/\i.bytes=b:=by
  cases HM with
  |cell=>obtain⟨_,⟨i,a,c,d,_⟩⟩:=nR h;exact⟨i,a,c,d⟩
  |slice e=>obtain⟨_,⟨i,a,c,d,_⟩⟩:=ka h;exact⟨i,a,c,d⟩
  |map m e=>obtain⟨_,⟨i,a,c,d,_⟩⟩:=BZ h;exact⟨i,a,c,d⟩
  |struct o=>obtain⟨_,⟨i,a,c,d,_⟩⟩:=ng h;exact⟨i,a,c,d⟩
  |tuple m=>simp[TI.ux]at k
 obtain⟨i,a,c,d⟩:=this
 exact⟨i,d,c,λw=>by simp[typeInfo,a],a⟩
def vX{T:TT}(m:uj P T){k:TI}(n:fJ T t=some k)(o:k.ux=false):
 ∃z,z.cells.toList=k.sh.map (λs=>s.zero.v)/\(∀w,(zeroValue t).run P w=.ok z w)/\(k.agg=false->∀a,z≠.agg a):=by
 have h:=m.yh n
 obtain⟨HM,l,b⟩:=k
 have:∃i,P.info? t=some i/\∃z,i.zero=some z/\z.cells.toList=(l.map λs=>s.zero.v)/\((TI.mk HM l b).agg=false->∀a,z≠.agg a):=by
  cases HM with
  |cell=>obtain⟨_,⟨i,a,g,j,z,c,d,f⟩⟩:=nR h;exact⟨i,a,z,c,d,λ_=>f rfl⟩
  |slice e=>obtain⟨_,⟨i,a,g,j,z,c,d,f⟩⟩:=ka h;exact⟨i,a,z,c,d,λ_=>f rfl⟩
  |map p e=>obtain⟨_,⟨i,a,g,j,z,c,d,f⟩⟩:=BZ h;exact⟨i,a,z,c,d,λ_=>f rfl⟩
  |struct p=>obtain⟨_,⟨i,a,g,j,z,c,d,f⟩⟩:=ng h;exact⟨i,a,z,c,d,λh=>by simp[TI.agg]at h⟩
  |tuple d=>simp[TI.ux]at o
 obtain⟨i,a,z,g,j,c⟩:=this
 exact⟨z,j,λw=>by simp[zeroValue,typeInfo,a,g],c⟩
def Ia{T:TT}(d:uj P T){a:TI}(f:fJ T t=some a)(g:a.ux=false)(w:World):
 (isAgg t).run P w=.ok a.agg w:=by
 have h:=d.yh f
 obtain⟨HM,j,b⟩:=a
 cases HM with
 |cell=>
  obtain⟨⟨i,hd,c⟩,_⟩:=nR h
  unfold zY at c
  split at c<;>first|(simp at c;done)|simp[isAgg,run_underlying hd,TI.agg]
 |slice e=>obtain⟨hd,_⟩:=ka h;simp[isAgg,run_underlying hd,TI.agg]
 |map k e=>obtain⟨hd,_⟩:=BZ h;simp[isAgg,run_underlying hd,TI.agg]
 |struct o=>obtain⟨⟨c,hd,_⟩,_⟩:=ng h;simp[isAgg,run_underlying hd,TI.agg]
 |tuple c=>simp[TI.ux]at g
end Go.Vc
end
section
namespace Go.Vc
def ly:SV->Option Bool
 | .tt=>some true
 | .ff=>some false
 | .c (.t x)=>some x
 |_=>none
def SV.jI:SV->Bool
 | .fU=>false
 | .box _ _ _=>false
 | .zr _ _ _=>false
 |_=>true
def cT(n:Int):Int:=IntKind.i64.wrap n
def HQ{α:Type}:List α->Nat->Option α
 |[],_=>none
 |x::_,0=>some x
 |_::r,n+1=>HQ r n
def pI{α:Type}:∀(l:List α)(n:Nat),HQ l n=l[n]?
 |[],_=>by simp[HQ]
 |x::_,0=>by simp[HQ]
 |_::r,n+1=>by simp[HQ,pI r n]
def VI(m:E)(b o:Nat):Nat->List Sh->(List Ce->Prop)->Prop
 |_,[],k=>k []
 |j,s::r,k=>∃x:s.ty,af m b (o+j)=some (s.mk x).v/\VI m b o (j+1) r λl=>k (s.mk x::l)
def Va(a b:Int):Int:=cT ((a%18446744073709551616).toNat^^^(b%18446744073709551616).toNat:Nat)
def rO(c:BinOp)(a b:Int)(k:SV->Prop):Prop:=
 match c with
 | .add=>k (.c (.i (cT (a+b))))
 | .sub=>k (.c (.i (cT (a -b))))
 | .mul=>k (.c (.i (cT (a*b))))
 | .quo=>b≠0/\k (.c (.i (cT (a.tdiv b))))
 | .rem=>b≠0/\k (.c (.i (a.tmod b)))
 | .xor=>k (.c (.i (Va a b)))
 | .eql=>k (.c (.t (a==b)))
 | .neq=>k (.c (.t (a !=b)))
 | .lss=>k (.c (.t (decide (a<b))))
 | .leq=>k (.c (.t (decide (a<=b))))
 | .gtr=>k (.c (.t (decide (a>b))))
 | .geq=>k (.c (.t (decide (a>=b))))
 |_=>False
def Uy(c:BinOp)(a b:Bool)(k:SV->Prop):Prop:=
 match c with
 | .eql=>k (.c (.t (a==b)))
 | .neq=>k (.c (.t (!(a==b))))
 |_=>False
def UQ(a:BinOp)(s:O)(k:SV->Prop):Prop:=
 match a with
 | .eql=>k (.c (.t s.FV))
 | .neq=>k (.c (.t (!s.FV)))
 |_=>False
def Zg(a:UnOp)(x:SV)(k:SV->Prop):Prop:=
 match a,x with
 | .not,.tt=>k .ff
 | .not,.ff=>k .tt
 | .not,.c (.t b)=>k (.c (.t (!b)))
 | .neg,.c (.i n)=>k (.c (.i (cT (0 -n))))
 |_,_=>False
def O.cut(x:O)(a d e:Nat):O:=
 match x with
 | .nil=>.nil
 | .mk b o _ c=>.mk b (if c=a then o else o+a*e) (d -a) (c -a)
 | .zC b o c=>.zC b o c
def SV.cells:SV->Option (List Ce)
 | .c x=>some [x]
 | .tt=>some [.t true]
 | .ff=>some [.t false]
 | .agg l=>some l
 |_=>none
def mh(l:List Ce)(b:Nat)(a:List Ce):List Ce:=
 match b,l with
 |0,l=>match a,l with
  |[],l=>l
  |n::a,_::l=>n::mh l 0 a
  |_::_,[]=>[]
 |b+1,x::l=>x::mh l b a
 |_+1,[]=>[]
termination_by structural l
def Ft(T:TT)(c:Fr)(e:List (Nat×Nat)):List Ce->List (Nat×Operand)->(List Ce->Prop)->Prop
 |a,[],k=>k a
 |a,(i,x)::r,k=>
  match HQ e i,(ev c x).cells with
  |some (d,t),some b=>
   match fJ T t with
   |some f=>bif !f.ux&&Nat.beq b.length f.sh.length&&Nat.ble (d+b.length) a.length then Ft T c e (mh a d b) r k else False
   |none=>False
  |_,_=>False
def uZ(T:TT):List (Nat×Nat)->Bool
 |[]=>true
 |(_,t)::r=>(match fJ T t with|some a=>!a.ux|none=>false)&&uZ T r
def MI(a:Fr)(x:Option Operand)(d:Int)(k:Int->Prop):Prop:=
 match x with
 |none=>k d
 |some x=>match ev a x with
  | .c (.i n)=>k n
  |_=>False
def WU(T:TT)(t:Nat)(s:O)(n:Int)(k:SV->Prop):Prop:=
 match fJ T t with
 |some ⟨.slice e,_,_⟩=>match fJ T e with
  |some a=>bif a.ux then False else 0<=n/\n<(s.len:Int)/\k (.c (.p s.D (s.off+n.toNat*a.sh.length)))
  |none=>False
 |_=>False
def PJ(T:TT)(m:E)(t b o:Nat)(k:SV->Prop):Prop:=
 match fJ T t with
 |some ⟨.struct _,a,_⟩=>VI m b o 0 a λl=>k (.agg l)
 |some ⟨.cell,[s],_⟩=>∃x:s.ty,af m b o=some (s.mk x).v/\k (.c (s.mk x))
 |some ⟨.slice _,[_],_⟩=>∃x:O,af m b o=some x.v/\k (.c (.s x))
 |_=>False
def Q5(T:TT)(a:Fr)(t:Nat)(s:O)(d c:Option Operand)(k:SV->Prop):Prop:=
 match fJ T t with
 |some ⟨.slice e,_,_⟩=>match fJ T e with
  |some b=>bif b.ux then False else
   MI a d 0 λl=>MI a c (s.len:Int) λh=>0<=l/\l<=h/\h<=(s.cap:Int)/\k (.c (.s (s.cut l.toNat h.toNat b.sh.length)))
  |none=>False
 |_=>False
def Ou(T:TT)(t f:Nat)(l:List Ce)(k:SV->Prop):Prop:=
 match fJ T t with
 |some ⟨.struct c,_,_⟩=>match HQ c f with
  |some (b,u)=>match fJ T u with
   |some a=>bif a.ux then False else bif a.agg then k (.agg ((l.drop b).take a.sh.length))else(match HQ l b with|some x=>k (.c x)|none=>False)
   |none=>False
  |none=>False
 |_=>False
def FA(T:TT)(t f o:Nat)(mk:Nat->SV)(k:SV->Prop):Prop:=
 match fJ T t with
 |some ⟨.struct c,_,_⟩=>match HQ c f with
  |some (b,u)=>match fJ T u with
   |some a=>bif a.ux||Nat.beq a.sh.length 0 then False else k (mk (o+b))
   |none=>False
  |none=>False
 |_=>False
def Mw(a b:Nat)(k:Prop):Prop:=a=b/\k
def aC(b:Nat)(k:Prop):Mw b b k=k:=by simp[Mw]
def Hd:List Ce->Nat->Nat->Option (List Ce)
 |_,_,0=>some []
 |l,o,n+1=>match HQ l o,Hd l (o+1) n with
  |some c,some r=>some (c::r)
  |_,_=>none
def Nr(T:TT)(t:Nat)(a:List Ce)(o:Nat)(k:SV->Prop):Prop:=
 match fJ T t with
 |some ⟨.struct _,b,_⟩=>match Hd a o b.length with
  |some l=>k (.agg l)
  |none=>False
 |some ⟨.cell,[_],_⟩=>match HQ a o with
  |some c=>k (.c c)
  |none=>False
 |some ⟨.slice _,[_],_⟩=>match HQ a o with
  |some c=>k (.c c)
  |none=>False
 |some ⟨.map _ _,[_],_⟩=>match HQ a o with
  |some c=>k (.c c)
  |none=>False
 |_=>False
def Tc(T:TT)(c:Fr)(d:Builtin)(e:List Nat)(f:List Operand)(k:SV->Prop):Prop:=
 match d,e,f with
 | .len,[t],[x]=>match fJ T t,ev c x with
  |some ⟨.slice _,_,_⟩,.c (.s s)=>k (.c (.i (s.len:Int)))
  |_,_=>False
 | .max,_,[x,y]=>match ev c x,ev c y with
  | .c (.i a),.c (.i b)=>k (.c (.i (if b>a then b else a)))
  |_,_=>False
 | .min,_,[x,y]=>match ev c x,ev c y with
  | .c (.i a),.c (.i b)=>k (.c (.i (if b<a then b else a)))
  |_,_=>False
 |_,_,_=>False
def Xn(T:TT):Nat->List (Nat×Nat)->List Ce->List Ce->Option Bool
 |_,[],[],[]=>some true
 |i,(o,u)::c,.i a::l,.i b::r=>bif Nat.beq o i then match fJ T u,Xn T (i+1) c l r with
  |some ⟨.cell,[.I],_⟩,some z=>some (a==b&&z)
  |_,_=>none else none
 |_,_,_,_=>none
def eqA(T:TT)(t:Nat)(l r:List Ce)(k:SV->Prop):Prop:=
 match fJ T (Yu t),fJ T t with
 |some ⟨.tuple _,_,_⟩,some ⟨.struct a,_,_⟩=>match Xn T 0 a l r with
  |some z=>k (.c (.t z))
  |none=>False
 |_,_=>False
def rd(T:TT)(a:Fr)(m:E)(k:SV->Prop):Op->Prop
 | .move x| .assign x=>k (ev a x)
 | .pick d c b=>match ev a d with
  | .tt=>k (ev a c)
  | .ff=>k (ev a b)
  | .c (.t x)=>match ly (ev a c),ly (ev a b)with
   |some y,some z=>k (.c (.t (bif x then y else z)))
   |_,_=>False
  |_=>False
 | .nilCheck x=>match ev a x with
  | .c (.p b o)=>k (.c (.p b o))
  | .c (.bp q b o)=>k (.c (.bp q b o))
  | .c (.fn (.func f) c d)=>k (.c (.fn (.func f) c d))
  | .c (.fv q)=>∃g,q.1=.func g/\k (.c (.fv q))
  |_=>False
 | .binOp d t x y _=>match ev a x,ev a y with
  | .c (.i c),.c (.i b)=>rO d c b k
  | .c (.s s),.c (.s .nil)=>match fJ T t with
   |some ⟨.slice _,_,_⟩=>UQ d s k
   |_=>False
  | .agg l,.agg r=>match d with
   | .eql=>eqA T t l r k
   |_=>False
  |sx,e=>match fJ T t,ly sx,ly e with
   |some ⟨.cell,[.T],_⟩,some c,some b=>Uy d c b k
   |_,_,_=>False
 | .unOp d _ x=>Zg d (ev a x) k
 | .convert s t x=>match fJ T s,fJ T t,ev a x with
  |some ⟨.cell,[_],_⟩,some ⟨.cell,[.I],_⟩,.c (.u _ n)=>k (.c (.i (cT n)))
  |_,_,_=>False
 | .fieldAddr t x f=>match ev a x with
  | .c (.p b o)=>FA T t f o (λo=>.c (.p b o)) k
  | .c (.bp q b o)=>FA T t f o (λo=>.c (.bp q b o)) k
  |_=>False
 | .field t x f=>match ev a x with
  | .agg l=>Ou T t f l k
  |_=>False
 | .indexAddr t x i=>match ev a x,ev a i with
  | .c (.s s),.c (.i n)=>WU T t s n k
  |_,_=>False
 | .load t x=>match ev a x with
  | .c (.p b o)=>PJ T m t b o k
  | .c (.bp q b o)=>match ig a q with
   | .box c _ d=>Mw c b (Nr T t d o k)
   | .zr c _ d=>Mw c b (Nr T t d o k)
   |_=>PJ T m t b o k
  |_=>False
 | .extract x i=>match ev a x with
  | .Xd l=>match HQ l i with
   |some y=>k y.sv
   |none=>False
  |_=>False
 | .slice t x c b none=>match ev a x with
  | .c (.s s)=>Q5 T a t s c b k
  |_=>False
 | .build t c=>match fJ T t with
  |some ⟨.struct b,d,_⟩=>bif uZ T b then Ft T a b (d.map Sh.zero) c.toList λl=>k (.agg l)else False
  |_=>False
 | .call ⟨.builtin c,b,d⟩=>Tc T a c d.toList b.toList k
 |_=>False
def lL(a:Fr)(q b e:Nat)(l:List Ce):Prop:=ig a q=.box b e l\/ig a q=.zr b e l
structure Bx(n:Nat)(fr:Fr)(m:E):Prop where
 D:∀q b e l,lL fr q b e l->m[b]? =some (.cells (l.map Ce.v).toArray e)
 Ol:∀q q' b e l b' e' l',q≠q'->lL fr q b e l->lL fr q' b' e' l'->b≠b'
 key:∀q b e l,lL fr q b e l->n<=q
def SC(T:TT)(c:Fr):Op->List (Nat×Nat)
 | .load t x=>match ev c x,fJ T t with
  | .c (.p b o),some a=>(List.range a.sh.length).map λj=>(b,o+j)
  | .c (.bp _ b o),some a=>(List.range a.sh.length).map λj=>(b,o+j)
  |_,_=>[]
 |_=>[]
end Go.Vc
end
section
namespace Go.Vc
variable{s:SV}{b:Bool}
def SV.Is.eq{v:Value}(h:s.Is v)(a:s.jI=true):v=s.v:=by
 cases s<;>first|exact h|simp[SV.jI]at a
def nK(s:SV):s.Is s.v:=by cases s<;>first|rfl|trivial
def jZ.eq{n:Nat}{b:Fr}{a:Act}(h:jZ n b a){x:Operand}{s:SV}(c:Vc.ev b x=s)(d:s.jI=true):a.eval x=s.v:=by
 have:=h.ev x;rw[c]at this;exact this.eq d
def wJ(h:ly s=some b):s.jI=true/\s.v=.bool b:=by
 unfold ly at h;split at h<;>simp_all [SV.jI,SV.v,Ce.v]
def jZ.Y9{n:Nat}{c:Fr}{a:Act}(h:jZ n c a){x:Operand}(d:ly (Vc.ev c x)=some b):a.eval x=.bool b:=by
 rw[h.eq rfl (wJ d).1,(wJ d).2]
def vD(b o n:Nat):(⟨b,o,none⟩:Addr).add n=⟨b,o+n,none⟩:=by
 unfold Addr.add;split
 .rename_i h;subst h;rfl
 .rfl
def BR:∀(l:List Ce)(a:Nat)(b:List Ce)(i:Nat),a+b.length<=l.length->
 (mh l a b)[i]? =if a<=i/\i<a+b.length then b[i -a]? else l[i]?
 |[],0,[],i,_=>by simp[mh]
 |[],0,_::_,_,h=>by simp at h
 |[],_+1,_,_,h=>by simp at h
 |x::l,0,[],i,_=>by simp[mh]
 |x::l,0,n::b,i,h=>by
  simp only[mh];cases i with
  |zero=>simp
  |succ i=>
   have:=BR l 0 b i (by simp at h;omega);simp only[ic,this];simp
 |x::l,a+1,b,i,h=>by
  simp only[mh];cases i with
  |zero=>simp
  |succ i=>
   have:=BR l a b i (by simp at h;omega);simp only[ic,this];have e:(i+1 -(a+1))=i -a:=V;simp only[e];congr 1;simp;omega
def Nv(c:List Value):∀(k a:Nat)(b:Array Value)(i:Nat),
 ((c.zipIdx k).foldl (λ(d:Array Value)(p:Value×Nat)=>d.setIfInBounds (a+p.2) p.1) b)[i]? =
  if a+k<=i/\i<a+k+c.length/\i<b.size then c[i -(a+k)]? else b[i]? :=by
 induction c with
 |nil=>intro k a b i;simp;intro h;omega
 |cons v c g=>
  intro k a b i
  simp only[List.zipIdx_cons,List.foldl_cons,g,Array.size_setIfInBounds,aZ]
  by_cases d:i=a+k
  .subst d
   by_cases e:a+k<b.size
   .simp[e];try omega
   .simp[e];try omega
  .have:¬(a+k=i):=λf=>d f.symm
   rw[jQ this]
   by_cases e:a+k<=i/\i<a+k+(c.length+1)/\i<b.size
   .rw[an e,an V]
    have:i -(a+k)=(i -(a+(k+1)))+1:=V
    rw[this,ic]
   .rw[ae e,ae V]
def pB{l:List Ce}(h:s.cells=some l):s.jI=true/\s.v.cells=(l.map Ce.v).toArray:=by
 cases s with
 |c x=>simp[SV.cells]at h;subst h;exact⟨rfl,by simp[SV.v,Ce.lK]⟩
 |tt=>simp[SV.cells]at h;subst h;exact⟨rfl,rfl⟩
 |ff=>simp[SV.cells]at h;subst h;exact⟨rfl,rfl⟩
 |agg a=>simp[SV.cells]at h;subst h;exact⟨rfl,rfl⟩
 |Xd _=>simp[SV.cells]at h
 |un=>simp[SV.cells]at h
 |fU=>simp[SV.cells]at h
 |box _ _ _=>simp[SV.cells]at h
 |zr _ _ _=>simp[SV.cells]at h
end Go.Vc
end
section
namespace Go.Vc
variable{x y:Operand}{c:TypeId}{h b f o:Nat}{g:List Ce}
variable{e:Program}{T:TT}
def oO(e:Program)(T:TT)(b:Fr)(m:E)(a:Act)(o:Oper)(k:SV->Prop):Prop:=
 ∃x v,k x/\x.Is v/\∀w:World,(∀q∈SC T b o.op,af w.heap q.1 q.2=af m q.1 q.2)->(execOp a.eval o).run e w=.ok (.value v) w
section
variable{n:Nat}{i:Fr}{a:Act}{j:E}{k:SV->Prop}{q:Option Tmp}{v:TypeId}{u:String}{p:Array Edge}{r:Option (Nat×Bool)}
def TC(b:jZ n i a)(h:k (ev i x)):oO e T i j a ⟨q,.move x,v,u,p,r⟩ k:=
 ⟨_,_,h,b.ev x,λw _=>by simp[execOp]⟩
def Sg(b:jZ n i a)(h:k (ev i x)):oO e T i j a ⟨q,.assign x,v,u,p,r⟩ k:=
 ⟨_,_,h,b.ev x,λw _=>by simp[execOp]⟩
def QM(c:jZ n i a){f:Operand}(h:rd T i j k (.pick f x y)):oO e T i j a ⟨q,.pick f x y,v,u,p,r⟩ k:=by
 simp only[rd]at h;split at h
 .rename_i d;exact⟨_,_,h,c.ev x,λw _=>by simp[execOp,c.eq d rfl,SV.v,asBool]⟩
 .rename_i d;exact⟨_,_,h,c.ev y,λw _=>by simp[execOp,c.eq d rfl,SV.v,asBool]⟩
 .rename_i b d;split at h
  .rename_i m o g l;refine⟨_,_,h,nK _,λw _=>?_⟩;simp[execOp,c.eq d rfl,SV.v,Ce.v,asBool,c.Y9 g,c.Y9 l];try (cases b<;>rfl)
  .exact h.elim
 .exact h.elim
def KP(d:jZ n i a)(h:rd T i j k (.nilCheck x)):oO e T i j a ⟨q,.nilCheck x,v,u,p,r⟩ k:=by
 simp only[rd]at h;split at h
 .rename_i b o c;exact⟨_,_,h,nK _,λw _=>by simp[execOp,d.eq c rfl,SV.v,Ce.v]⟩
 .rename_i m b o c;exact⟨_,_,h,nK _,λw _=>by simp[execOp,d.eq c rfl,SV.v,Ce.v]⟩
 .rename_i f g l c;exact⟨_,_,h,nK _,λw _=>by simp[execOp,d.eq c rfl,SV.v,Ce.v]⟩
 .rename_i m c;obtain⟨s,g,l⟩:=h;exact⟨_,_,l,nK _,λw _=>by simp[execOp,d.eq c rfl,SV.v,Ce.v,g]⟩
 .exact h.elim
def Uz{a:BinOp}{x y:Int}(h:rO a x y k):∃s v,k s/\s.Is v/\∀w:World,(binOp a c (.int .i64 x) (.int .i64 y)).run e w=.ok v w:=by
 cases a<;>simp only[rO]at h
 case quo=>exact⟨_,_,h.2,nK _,λw=>by simp[binOp,Op.intDiv,h.1,SV.v,Ce.v,cT]⟩
 case rem=>exact⟨_,_,h.2,nK _,λw=>by simp[binOp,Op.intDiv,h.1,SV.v,Ce.v]⟩
 case xor=>exact⟨_,_,h,nK _,λw=>by simp[binOp,Op.intBits,SV.v,Ce.v,cT,Va,IntKind.bits];rfl⟩
 all_goals exact⟨_,_,h,nK _,λw=>by simp[binOp,Op.intArith,Op.intCmp,SV.v,Ce.v,cT]⟩
def Pw(a:BinOp)(c:TypeId)(d f:Operand)(b:IntKind)(x:Int)(y:Value)(w:World):(eqGuard a c d f (.int b x) y).run e w=.ok () w:=by
 cases a<;>simp[eqGuard]
def Oq(a:BinOp)(c:TypeId)(b d:Operand)(x:Bool)(y:Value)(w:World):(eqGuard a c b d (.bool x) y).run e w=.ok () w:=by
 cases a<;>simp[eqGuard]
def QD(hd:e.underlying c=some .bool)(x y:Bool)(w:World):(Op.equal c (.bool x) (.bool y)).run e w=.ok (x==y) w:=by
 have:Op.equal c (.bool x) (.bool y)=Op.equalIn (9999+1) c (.bool x) (.bool y):=rfl;rw[this];generalize 9999=h;simp[Op.equalIn,run_underlying hd]
def Jz{a:TypeId}(hd:e.underlying c=some (.slice a))(s:O)(w:World):(Op.equal c s.v (.slice none 0 0)).run e w=.ok s.FV w:=by
 have:Op.equal c s.v (.slice none 0 0)=Op.equalIn (9999+1) c s.v (.slice none 0 0):=rfl;rw[this];generalize 9999=h;cases s<;>simp[Op.equalIn,run_underlying hd,O.v]
def Px(hd:e.underlying c=some (.int .i64))(x y:Int)(w:World):(Op.equalIn (h+1) c (.int .i64 x) (.int .i64 y)).run e w=.ok (x==y) w:=by
 simp[Op.equalIn,run_underlying hd]
def PN(d:uj e T){u:Nat}(f:fJ T u=some ⟨.cell,[.I],b⟩){a:Array Value}{c:Nat}{v:Value}(h:a[c]? =some v)(w:World):(part u a c).run e w=.ok v w:=by
 simp[part,Ia d f rfl,TI.agg,h]
def Tx(n:uj e T){X Y:Array Value}(A:World):∀(j:List Field)(i:Nat)(l:List (Nat×Nat))(g r:List Ce)(z:Bool),j.map (λf=>(f.offset,f.type))=l->(∀f∈j,f.name≠ "_")->
 (∀k d,g[k]? =some d->X[i+k]? =some d.v)->(∀k d,r[k]? =some d->Y[i+k]? =some d.v)->Xn T i l g r=some z->
 (forIn (m:=Sem) j ((none,()):Option Bool×PUnit) λf _=>do
  if f.name≠ "_" then
   if !(<-Op.equalIn (h+1) f.type (<-part f.type X f.offset) (<-part f.type Y f.offset))then pure (.done (some false,()))else pure (.yield (none,()))
  else pure (.yield (none,()))).run e A=.ok (if z=true then(none,())else(some false,())) A:=by
 intro j
 induction j with
 |nil=>
  intro i l g r z u v p q c
  subst u
  cases g<;>cases r<;>simp[Xn]at c
  subst c
  simp
 |cons f j K=>
  intro i l g r z u v p q c
  subst u
  simp only[cK]at c
  unfold Xn at c
  split at c
  .simp at*
  .rename_i i _ _ _ _ o N l a g b r C
   obtain⟨⟨rfl,rfl⟩,rfl⟩:=by simpa using C
   cases s:Nat.beq f.offset i
   .rw[s]at c;simp at c
   .rw[s]at c;simp only[jH]at c
    have x:=bq s
    split at c
    .rename_i M L w J
     simp only[DF]at c
     obtain⟨⟨B,D,y⟩,_⟩:=nR (n.yh w)
     have F:B=.int .i64:=by unfold zY at y;split at y<;>simp_all
     subst F
     have H:X[f.offset]? =some (.int .i64 a):=by have:=p 0 (.i a) rfl;rw[x];exact this
     have I:Y[f.offset]? =some (.int .i64 b):=by have:=q 0 (.i b) rfl;rw[x];exact this
     have G:=K (i+1) _ g r L rfl (λt E=>v t (ai _ E)) (λk d t=>by have:=p (k+1) d (by simpa using t);rw[<-this];congr 1;omega) (λk d t=>by have:=q (k+1) d (by simpa using t);rw[<-this];congr 1;omega) J
     rw[List.forIn_cons,Sem.run_bind,an (v f bg)]
     simp only[Sem.run_bind,PN n w H,PN n w I,Result.andThen_ok,Px D]
     cases t:(a==b)
     .rw[t]at c;subst c;simp
     .rw[t]at c;simp only[NU]at c;subst c
      simp only[NS,jm,rI,Sem.run_pure,Result.andThen_ok]
      exact G
    .simp at c
  .simp at c
def Ot(j:uj e T){a:Array Field}(p:e.underlying c=some (.struct a))(o:e.stoodInHeld c=false)(n:∀f∈a.toList,f.name≠ "_"){r:List Ce}{z:Bool}
 (l:Xn T 0 (a.toList.map λf=>(f.offset,f.type)) g r=some z)(w:World):(Op.equal c (.agg (g.map Ce.v).toArray) (.agg (r.map Ce.v).toArray)).run e w=.ok z w:=by
 have:Op.equal c (.agg (g.map Ce.v).toArray) (.agg (r.map Ce.v).toArray)=Op.equalIn (9998+1+1) c (.agg (g.map Ce.v).toArray) (.agg (r.map Ce.v).toArray):=rfl
 rw[this]
 generalize 9998=h
 rw[Op.equalIn]
 simp only[Sem.run_bind,run_underlying p,Result.andThen_ok]
 have m:=Tx j (h:=h) (X:=(g.map Ce.v).toArray) (Y:=(r.map Ce.v).toArray) w a.toList 0 _ g r z rfl n (λk i b=>by simp[b]) (λk i b=>by simp[b]) l
 have b:(program:Sem Program).run e w=.ok e w:=rfl
 rw[b,Result.andThen_ok,ae (by simp[o]),Sem.run_bind,<-Array.forIn_toList,m]
 cases z<;>rfl
def Sa(h:UF e c=true):∃a,e.underlying c=some (.struct a)/\(∀f∈a.toList,f.name≠ "_")/\e.stoodInHeld c=false/\e.eqGuardType e.depth c=false:=by
 unfold UF at h;split at h
 .rename_i a b;simp only[bK,List.all_eq_true,vu,iN]at h;exact⟨a,b,h.1.1,h.1.2,h.2⟩
 .cases h
def Pv(h:e.eqGuardType e.depth c=false)(f g:Operand)(a b:Array Value)(w:World):(eqGuard .eql c f g (.agg a) (.agg b)).run e w=.ok () w:=by
 have d:(program:Sem Program).run e w=.ok e w:=rfl;simp only[eqGuard,Sem.run_bind];simp[d,h]
def Mu(a:BinOp)(c:TypeId)(b d:Operand)(s:O)(y:Value)(w:World):(eqGuard a c b d s.v y).run e w=.ok () w:=by
 cases s<;>cases a<;>simp[eqGuard,O.v]
def PB(m:uj e T)(d:jZ n i a){z:BinOp}{D:TypeId}(b:rd T i j k (.binOp z c x y D)):oO e T i j a ⟨q,.binOp z c x y D,v,u,p,r⟩ k:=by
 simp only[rd]at b;split at b
 .rename_i L M f l;obtain⟨s,E,A,w,C⟩:=Uz (e:=e) (c:=c) b;refine⟨s,E,A,w,λB _=>?_⟩;simp only[execOp,d.eq f rfl,d.eq l rfl,SV.v,Ce.v,Sem.run_bind];simp[Pw,C]
 .rename_i s f l;split at b
  .rename_i I J H A;have w:=(ka (m.yh A)).1;have F:a.eval x=s.v:=d.eq f rfl;have G:a.eval y=.slice none 0 0:=d.eq l rfl;cases z<;>simp only[UQ]at b
   all_goals
    first
    |exact b.elim
    |exact⟨_,_,b,nK _,λB _=>by
     have C:∀o:BinOp,o=.eql\/o=.neq->binOp o c s.v (.slice none 0 0)=(if o=.eql then(do pure (.bool (<-Op.equal c s.v (.slice none 0 0))))else(do pure (.bool (!(<-Op.equal c s.v (.slice none 0 0)))))):=by
      intro o E;rcases E with rfl|rfl<;>cases s<;>rfl
     simp only[execOp,F,G,Sem.run_bind,Mu,Result.andThen_ok];rw[C _ aL];simp[Jz w,SV.v,Ce.v]⟩
  .exact b.elim
 .rename_i g N f l;split at b
  .unfold eqA at b;split at b
   .rename_i G A;split at b
    .rename_i R C;obtain⟨O,w,J,K,H⟩:=Sa (m.cmp G);obtain⟨⟨Q,s,I⟩,_⟩:=ng (m.yh A);rw[w]at s;obtain rfl:=(TypeDesc.struct.inj (jK s));rw[<-I]at C;refine⟨_,_,b,nK _,λB _=>?_⟩;have E:a.eval x=.agg (g.map Ce.v).toArray:=d.eq f rfl;have F:a.eval y=.agg (N.map Ce.v).toArray:=d.eq l rfl;simp only[execOp,E,F,Sem.run_bind,Pv H,Result.andThen_ok,binOp,Ot m w K J C];rfl
    .exact b.elim
   .exact b.elim
  .exact b.elim
 .split at b
  .rename_i L M w f l;obtain⟨⟨h,hd,A⟩,_⟩:=nR (m.yh w);have s:h=.bool:=by
    cases h<;>simp_all [zY]
   subst s;cases z<;>simp only[Uy]at b
   all_goals
    first
    |exact b.elim
    |exact⟨_,_,b,nK _,λB _=>by
     simp only[execOp,d.Y9 f,d.Y9 l,Sem.run_bind,Oq,Result.andThen,binOp,QD hd];rfl⟩
  .exact b.elim
def MA(d:uj e T)(l:jZ n i a){s:TypeId}(b:rd T i j k (.convert s c x)):oO e T i j a ⟨q,.convert s c x,v,u,p,r⟩ k:=by
 simp only[rd]at b;split at b
 .rename_i B b1 b2 z A t w y;obtain⟨⟨h,hd,_⟩,_⟩:=nR (d.yh t);obtain⟨⟨g,m,f⟩,_⟩:=nR (d.yh w);have o:g=.int .i64:=by unfold zY at f;split at f<;>simp_all
  subst o;exact⟨_,_,b,nK _,λC _=>by
   simp only[execOp,l.eq y rfl,SV.v,Ce.v,Sem.run_bind];simp[convert,run_underlying hd,run_underlying m,Conv.intToInt,cT]⟩
 .exact b.elim
def QN(b:jZ n i a){f:UnOp}(h:rd T i j k (.unOp f c x)):oO e T i j a ⟨q,.unOp f c x,v,u,p,r⟩ k:=by
 simp only[rd]at h;generalize d:ev i x=sx at h;unfold Zg at h;split at h
 .exact⟨_,_,h,nK _,λw _=>by simp[execOp,b.eq d rfl,SV.v,Op.unary]⟩
 .exact⟨_,_,h,nK _,λw _=>by simp[execOp,b.eq d rfl,SV.v,Op.unary]⟩
 .exact⟨_,_,h,nK _,λw _=>by simp[execOp,b.eq d rfl,SV.v,Ce.v,Op.unary]⟩
 .exact⟨_,_,h,nK _,λw _=>by simp[execOp,b.eq d rfl,SV.v,Ce.v,Op.unary,Op.intArith,cT]⟩
 .exact h.elim
def Dk(l:uj e T)(L:jZ n i a){mk:Nat->SV}(E:∀o,(mk o).v=.pointer (some ⟨b,o,none⟩))(J:a.eval x=.pointer (some ⟨b,o,none⟩))(h:FA T c f o mk k):
 oO e T i j a ⟨q,.fieldAddr c x f,v,u,p,r⟩ k:=by
 unfold FA at h
 split at h
 .rename_i N O K H
  split at h
  .rename_i M P s
   split at h
   .rename_i g I
    cases d:(g.ux||Nat.beq g.sh.length 0)
    .rw[d]at h
     simp only[br]at d
     obtain⟨⟨z,C,D⟩,_⟩:=ng (l.yh H)
     rw[pI,<-D,cJ]at s
     obtain⟨y,A,m⟩:=Option.map_eq_some_iff.1 s
     simp only[NX]at m
     obtain⟨rfl,rfl⟩:=m
     have G:=λw=>kv l I d.1 w
     have F:g.sh.length≠0:=λt=>by rw[t]at d;simp at d
     refine⟨_,_,h,nK _,λw _=>?_⟩
     have B:z[f]? =some y:=by simpa using A
     rw[E]
     simp[execOp,Instr.fieldAt,J,run_underlying C,B,Instr.sureAddr,fieldPlace,G,F,vD]
    .rw[d]at h;exact h.elim
   .exact h.elim
  .exact h.elim
 .exact h.elim
def JA(l:uj e T)(d:jZ n i a)(h:rd T i j k (.fieldAddr c x f)):oO e T i j a ⟨q,.fieldAddr c x f,v,u,p,r⟩ k:=by
 simp only[rd]at h;split at h
 .rename_i b o g;exact Dk l d (λo=>rfl) (d.eq g rfl) h
 .rename_i m b o g;exact Dk l d (λo=>rfl) (d.eq g rfl) h
 .exact h.elim
def PD(l:uj e T)(m:jZ n i a)(h:rd T i j k (.field c x f)):oO e T i j a ⟨q,.field c x f,v,u,p,r⟩ k:=by
 simp only[rd]at h;split at h
 .rename_i g C;unfold Ou at h;split at h
  .rename_i N O L K;split at h
   .rename_i M P A;split at h
    .rename_i E B;cases b:E.ux
     .rw[b]at h;obtain⟨⟨G,z,I⟩,_⟩:=ng (l.yh K);rw[pI,<-I,cJ]at A;obtain⟨F,H,s⟩:=Option.map_eq_some_iff.1 A;simp only[NX]at s;obtain⟨rfl,rfl⟩:=s;have J:=λw=>kv l B b w;have o:=λw=>Ia l B b w;have t:G[f]? =some F:=by simpa using H
      cases d:E.agg
      .simp only[d,mI]at h;split at h
       .rename_i y D;refine⟨_,_,h,nK _,λw _=>?_⟩;rw[pI]at D;simp[execOp,Instr.field,m.eq C rfl,SV.v,run_underlying z,t,asAgg,part,o,d,D]
       .exact h.elim
      .simp only[d,mI,jH]at h;refine⟨_,_,h,nK _,λw _=>?_⟩;simp[execOp,Instr.field,m.eq C rfl,SV.v,run_underlying z,t,asAgg,part,o,d,J,List.map_drop,NW]
     .rw[b]at h;exact h.elim
    .exact h.elim
   .exact h.elim
  .exact h.elim
 .exact h.elim
def JB(l:uj e T)(g:jZ n i a)(h:rd T i j k (.indexAddr c x y)):oO e T i j a ⟨q,.indexAddr c x y,v,u,p,r⟩ k:=by
 simp only[rd]at h;split at h
 .rename_i E J C D;unfold WU at h;split at h
  .rename_i I L G A;split at h
   .rename_i F t;cases f:F.ux
    .rw[f]at h;obtain⟨m,d,s⟩:=h;have B:=(ka (l.yh A)).1;have z:=λw=>kv l t f w;cases E with
     |nil=>simp[O.len]at d;omega
     |zC _ _ _=>simp[O.len]at d;omega
     |mk b o K H=>
      refine⟨_,_,s,nK _,λw _=>?_⟩;simp only[O.len]at d;simp[execOp,Instr.indexAt,g.eq C rfl,g.eq D rfl,SV.v,Ce.v,O.v,asIntOf,run_underlying B,m,d,z,vD,O.D,O.off]
    .rw[f]at h;exact h.elim
   .exact h.elim
  .exact h.elim
 .exact h.elim
def PI:∀(d:List Sh)(b o a:Nat)(k:List Ce->Prop),VI j b o a d k->∃g,k g/\g.length=d.length/\∀i,i<d.length->af j b (o+a+i)=(g[i]?).map Ce.v
 |[],_,_,_,_,h=>⟨[],h,rfl,λi c=>by simp at c⟩
 |s::r,b,o,a,k,h=>by
  obtain⟨x,n,h⟩:=h;obtain⟨g,l,m,f⟩:=PI r b o (a+1) _ h;refine⟨s.mk x::g,l,by simp[m],λi c=>?_⟩;cases i with
  |zero=>simpa using n
  |succ i=>
   have:=f i (by simpa using c);have e:o+(a+1)+i=o+a+(i+1):=V;rw[e]at this;simpa using this
def mS(B:uj e T)(S:jZ n i a)(I:a.eval x=.pointer (some ⟨b,o,none⟩)){f:TI}(H:fJ T c=some f)(G:f.ux=false)
 (K:∀d,d<f.sh.length->(b,o+d)∈SC T i (.load c x))(E:g.length=f.sh.length)(L:∀z,z<f.sh.length->af j b (o+z)=(g[z]?).map Ce.v)
 {s:SV}(U:s.jI=true)(O:(f.agg=true/\s.v=.agg (g.map Ce.v).toArray)\/(f.agg=false/\∃m,g=[m]/\s.v=m.v))(N:k s):
 oO e T i j a ⟨q,.load c x,v,u,p,r⟩ k:=by
 refine⟨s,s.v,N,nK _,λl R=>?_⟩
 have Q:=kv B H G l
 have C:=Ia B H G l
 have D:∀d,d<f.sh.length->af l.heap b (o+d)=(g[d]?).map Ce.v:=λd h=>by rw[R (b,o+d) (K d h),L d h]
 rcases O with⟨t,y⟩|⟨t,m,y,J⟩
 .have F:=run_loadCells_list (P:=e) (w:=l) ⟨b,o,none⟩ (g.map Ce.v) (λd V h=>by
   rw[vD,zy];have M:d<f.sh.length:=by
    rcases aW d f.sh.length with A|A
    .exact A
    .rw[cN bE]at h;simp at h
   rw[D d M,<-cJ,h])
  simp only[dZ]at F
  simp only[execOp,Instr.loadAt,I,Instr.sureAddr,loadVar,Sem.run_bind,Sem.run_pure,C,t,Result.andThen_ok,Q,Mp]
  simp[<-E,F,y]
 .subst y
  have A:=D 0 (by rw[<-E];simp)
  simp at A
  simp only[execOp,Instr.loadAt,I,Instr.sureAddr,loadVar,Sem.run_bind,Sem.run_pure,C,t,Result.andThen_ok]
  simp[zy,A,J]
def Je(C:uj e T)(B:jZ n i a)(D:a.eval x=.pointer (some ⟨b,o,none⟩))
 (A:∀d f,fJ T c=some d->f<d.sh.length->(b,o+f)∈SC T i (.load c x))(h:PJ T j c b o k):oO e T i j a ⟨q,.load c x,v,u,p,r⟩ k:=by
 unfold PJ at h
 split at h
 .rename_i H I F d
  obtain⟨g,w,G,E⟩:=PI _ _ _ _ _ h
  exact mS C B D d rfl (λf t=>A _ f d t) G (λz m=>by simpa using E z m) (s:=.agg g) rfl (Or.inl ⟨rfl,rfl⟩) w
 .rename_i G F d
  obtain⟨y,E,w⟩:=h
  exact mS C B D d rfl (λf t=>A _ f d t) (g:=[G.mk y]) rfl (λz m=>by
   have:z=0:=by simpa using m
   subst this;exact E) (s:=.c (G.mk y)) rfl (Or.inr ⟨rfl,_,rfl,rfl⟩) w
 .rename_i G H F d
  obtain⟨y,E,w⟩:=h
  exact mS C B D d rfl (λf t=>A _ f d t) (g:=[.s y]) rfl (λz m=>by
   have:z=0:=by simpa using m
   subst this;exact E) (s:=.c (.s y)) rfl (Or.inr ⟨rfl,_,rfl,rfl⟩) w
 .exact h.elim
def Md:∀{a:List Ce}{b o:Nat}{g:List Ce},Hd a o b=some g->g.length=b/\∀i,i<b->a[o+i]? =g[i]?
 |a,0,o,g,h=>by simp[Hd]at h;subst h;simp
 |a,b+1,o,g,h=>by
  simp only[Hd]at h;split at h
  .rename_i j r c f;simp at h;subst h;obtain⟨d,e⟩:=Md f;refine⟨by simp[d],λi k=>?_⟩;cases i with
   |zero=>rw[pI]at c;simpa using c
   |succ i=>
    have:=e i V;rw[show o+(i+1)=o+1+i by omega];simpa using this
  .simp at h
def Jd(C:uj e T)(B:jZ n i a){H:Nat}{G:List Ce}(E:a.eval x=.pointer (some ⟨b,o,none⟩))
 (A:∀d m,fJ T c=some d->m<d.sh.length->(b,o+m)∈SC T i (.load c x))(I:j[b]? =some (.cells (G.map Ce.v).toArray H))(h:Nr T c G o k):
 oO e T i j a ⟨q,.load c x,v,u,p,r⟩ k:=by
 have D:∀f,af j b f=(G[f]?).map Ce.v:=λf=>by simp[af,I]
 unfold Nr at h
 split at h
 .rename_i K L F d
  split at h
  .rename_i g J
   obtain⟨t,w⟩:=Md J
   exact mS C B E d rfl (λm z=>A _ m d z) t (λf y=>by rw[D,w f y]) (s:=.agg g) rfl (Or.inl ⟨rfl,rfl⟩) h
  .exact h.elim
 .rename_i J F d
  split at h
  .rename_i t w
   rw[pI]at w
   exact mS C B E d rfl (λm z=>A _ m d z) (g:=[t]) rfl (λf y=>by
    have:f=0:=by simpa using y
    subst this;rw[D];simp[w]) (s:=.c t) rfl (Or.inr ⟨rfl,_,rfl,rfl⟩) h
  .exact h.elim
 .rename_i H J F d
  split at h
  .rename_i t w
   rw[pI]at w
   exact mS C B E d rfl (λm z=>A _ m d z) (g:=[t]) rfl (λf y=>by
    have:f=0:=by simpa using y
    subst this;rw[D];simp[w]) (s:=.c t) rfl (Or.inr ⟨rfl,_,rfl,rfl⟩) h
  .exact h.elim
 .rename_i L K J F d
  split at h
  .rename_i t w
   rw[pI]at w
   exact mS C B E d rfl (λm z=>A _ m d z) (g:=[t]) rfl (λf y=>by
    have:f=0:=by simpa using y
    subst this;rw[D];simp[w]) (s:=.c t) rfl (Or.inr ⟨rfl,_,rfl,rfl⟩) h
  .exact h.elim
 .exact h.elim
def QL(l:uj e T)(d:jZ n i a)(B:Bx n i j)(h:rd T i j k (.load c x)):oO e T i j a ⟨q,.load c x,v,u,p,r⟩ k:=by
 simp only[rd]at h;split at h
 .rename_i b o f;exact Je l d (d.eq f rfl) (λm g A z=>by simp only[SC,f,A];exact List.mem_map.2 ⟨g,List.mem_range.2 z,rfl⟩) h
 .rename_i C b o f;have w:∀m g,fJ T c=some m->g<m.sh.length->(b,o+g)∈SC T i (.load c x):=λm g A z=>by simp only[SC,f,A];exact List.mem_map.2 ⟨g,List.mem_range.2 z,rfl⟩
  split at h
  .rename_i D t s y;obtain⟨rfl,h⟩:=h;exact Jd l d (d.eq f rfl) w (B.D C _ t s (Or.inl y)) h
  .rename_i D t s y;obtain⟨rfl,h⟩:=h;exact Jd l d (d.eq f rfl) w (B.D C _ t s (Or.inr y)) h
  .exact Je l d (d.eq f rfl) w h
 .exact h.elim
end
end Go.Vc
end
section
namespace Go.Vc
variable{x:Operand}{t:TypeId}
variable{P:Program}{T:TT}
section
variable{n:Nat}{b:Fr}{a:Act}{m:E}{k:SV->Prop}{d:Option Tmp}{g:TypeId}{f:String}{c:Array Edge}{e:Option (Nat×Bool)}
def MB(l:jZ n b a){j:Nat}(h:rd T b m k (.extract x j)):oO P T b m a ⟨d,.extract x j,g,f,c,e⟩ k:=by
 simp only[rd]at h;split at h
 .rename_i p o;split at h
  .rename_i y i;refine⟨_,_,h,nK _,λw _=>?_⟩;rw[pI]at i;rw[AV.Z8];have:a.eval x=.tuple (p.map AV.v).toArray:=l.eq o rfl;simp[execOp,Instr.extract,this,i]
  .exact h.elim
 .exact h.elim
def NB(c:jZ n b a){x:Option Operand}{d:Int}{k:Int->Prop}(h:MI b x d k):
 (x=none/\k d)\/∃y i,x=some y/\a.eval y=.int .i64 i/\k i:=by
 unfold MI at h
 split at h
 .exact Or.inl ⟨rfl,h⟩
 .rename_i y
  split at h
  .rename_i i e
   exact Or.inr ⟨y,i,rfl,c.eq e rfl,h⟩
  .exact h.elim
def pM(k:IntKind)(i:Int)(y:Nat)(c:BoundsCode)(a:0<=i)(b:i<=y)(w:World):(Instr.sliceBound (.int k i) y c).run P w=.ok i.toNat w:=by
 simp[Instr.sliceBound,asIntOf,a,b]
def XS(b o l c a d e:Nat):(O.cut (.mk b o l c) a d e).v=.slice (if c=a then some ⟨b,o,none⟩else(some (⟨b,o,none⟩:Addr)).map (·.add (a*e))) (d -a) (c -a):=by
 show Value.slice _ _ _=_;simp only[vD,nT];split<;>rfl
def PE(J:uj P T)(r:jZ n b a){A y:Option Operand}(i:rd T b m k (.slice t x A y none)):oO P T b m a ⟨d,.slice t x A y none,g,f,c,e⟩ k:=by
 simp only[rd]at i;split at i
 .rename_i s G;unfold Q5 at i;split at i
  .rename_i v N M L;split at i
   .rename_i B K;cases D:B.ux
    .rw[D]at i;have F:=(ka (J.yh L)).1;have E:=λw=>kv J K D w;have z:∀(l h:Int),0<=l->l<=h->h<=(s.cap:Int)->
      (∀w:World,(Instr.sliceBounds true s.len s.cap (A.map a.eval) (y.map a.eval) none).run P w=.ok (l.toNat,h.toNat,s.cap) w)->
      ∀w:World,(execOp a.eval ⟨d,.slice t x A y none,g,f,c,e⟩).run P w=.ok (.value (Ce.s (s.cut l.toNat h.toNat B.sh.length)).v) w:=by
      intro l h o p j q w
      cases s with
      |nil=>
       simp only[O.cap,O.len]at q j
       have:h=0:=V
       have:l=0:=V
       subst this;subst h
       simp[execOp,Instr.sliceAt,r.eq G rfl,SV.v,Ce.v,O.v,run_underlying F,Instr.slice,q,E,O.cut]
      |zC u C H=>
       simp only[O.cap,O.len]at q j
       have:h=0:=V
       have:l=0:=V
       subst this;subst h
       simp[execOp,Instr.sliceAt,r.eq G rfl,SV.v,Ce.v,O.v,run_underlying F,Instr.slice,q,E,O.cut]
      |mk u I H C=>
       simp only[O.cap,O.len]at q
       have v:(Ce.s ((O.mk u I H C).cut l.toNat h.toNat B.sh.length)).v=_:=XS u I H C l.toNat h.toNat B.sh.length
       rw[v]
       have:a.eval x=.slice (some ⟨u,I,none⟩) H C:=r.eq G rfl
       simp[execOp,Instr.sliceAt,this,run_underlying F,Instr.slice,q,E]
     simp only[mI]at i;rcases NB r i with⟨rfl,C⟩|⟨Q,l,rfl,H,C⟩<;>rcases NB r C with⟨rfl,o,p,j,u⟩|⟨R,h,rfl,I,o,p,j,u⟩
     .exact⟨_,_,u,nK _,λw _=>z _ _ o p j (λw=>by simp[Instr.sliceBounds]) w⟩
     .exact⟨_,_,u,nK _,λw _=>z _ _ o p j (λw=>by simp[Instr.sliceBounds,I,pM _ _ _ _ (by omega:0<=h) j]) w⟩
     .exact⟨_,_,u,nK _,λw _=>z _ _ o p j (λw=>by simp[Instr.sliceBounds,H,pM _ _ _ _ o p]) w⟩
     .exact⟨_,_,u,nK _,λw _=>z _ _ o p j (λw=>by
       have v:l<=(h.toNat:Int):=V;simp[Instr.sliceBounds,I,H,pM _ _ _ _ (by omega:0<=h) j,pM _ _ _ _ o v]) w⟩
    .rw[D]at i;exact i.elim
   .exact i.elim
  .exact i.elim
 .exact i.elim
def KA(w:uj P T)(q:jZ n b a)(p:List (Nat×Nat))(jd:Nat->Option (Nat×Nat))
 (r:∀i d t f,HQ p i=some (d,t)->fJ T t=some f->f.ux=false->jd i=some (d,f.sh.length)):
 ∀(s:List (Nat×Operand))(c:List Ce)(k:List Ce->Prop),Ft T b p c s k->
  ∃l,k l/\Instr.fill jd (c.map Ce.v).toArray (s.map λe=>(e.1,a.eval e.2))=some (l.map Ce.v).toArray
 |[],c,k,h=>⟨c,h,rfl⟩
 |(i,x)::H,c,k,h=>by
  simp only[Ft]at h;split at h
  .rename_i d t e E D;split at h
   .rename_i f F;cases g:(!f.ux&&Nat.beq e.length f.sh.length&&Nat.ble (d+e.length) c.length)
    .rw[g]at h;exact h.elim
    .rw[g]at h;simp only[bK,iN]at g;obtain⟨⟨y,m⟩,o⟩:=g;have m:=bq m;have o:=lJ o;obtain⟨l,A,C⟩:=KA w q p jd r H (mh c d e) k h;refine⟨l,A,?_⟩;obtain⟨B,z⟩:=pB D;have G:a.eval x=(ev b x).v:=q.eq rfl B;simp only[cK,Instr.fill,r i d t f E F y,G,z,DE,dZ,m];rw[ae bE,<-C];congr 1;apply BD;intro j;have u:=Nv (e.map Ce.v) 0 d (c.map Ce.v).toArray j;rw[<-aab,Zi];have v:=BR c d e j o;rw[show((List.map Ce.v (mh c d e)).toArray)[j]? =((mh c d e)[j]?).map Ce.v by simp,v];rw[u];simp;split<;>split<;>first|rfl|(exfalso;omega)|(congr 1;omega)
   .exact h.elim
  .exact h.elim
def Yt(T:TT)(t:Nat):Nat:=match fJ T t with|some a=>a.sh.length|none=>0
def Jk(c:uj P T)(w:World):∀(a:List Field),(∀f∈a,∃b,fJ T f.type=some b/\b.ux=false)->
 (a.mapM (λf=>do pure (f.offset,<-sizeOf f.type):Field->Sem (Nat×Nat))).run P w=.ok (a.map λf=>(f.offset,Yt T f.type)) w
 |[],_=>aL
 |f::a,h=>by
  obtain⟨b,d,j⟩:=h f aL;have e:=Jk c w a (λg i=>h g (by simp[i]));simp only[Uf,Sem.run_bind,kv c d j,Result.andThen_ok,Sem.run_pure]at e⊢;rw[e];simp[Yt,d]
def Jm:∀{d:List (Nat×Nat)},uZ T d=true->∀p∈d,∃a,fJ T p.2=some a/\a.ux=false
 |[],_,_,h=>by simp at h
 |(o,t)::r,h,p,c=>by
  simp only[uZ,bK]at h;rcases List.mem_cons.1 c with rfl|c
  .have b:=h.1;split at b
   .rename_i a e;exact⟨a,e,by simpa using b⟩
   .simp at b
  .exact Jm h.2 p c
def PC(l:uj P T)(z:jZ n b a){o:Array (Nat×Operand)}(i:rd T b m k (.build t o)):oO P T b m a ⟨d,.build t o,g,f,c,e⟩ k:=by
 simp only[rd]at i;split at i
 .rename_i y K M v;cases q:uZ T y
  .rw[q]at i;exact i.elim
  rw[q]at i;obtain⟨⟨j,D,s⟩,_⟩:=ng (l.yh v);obtain⟨L,I,J,Q⟩:=vX l v rfl;have A:∀h∈j.toList,∃r,fJ T h.type=some r/\r.ux=false:=λh B=>
   Jm q (h.offset,h.type) (by rw[<-s];exact List.mem_map.2 ⟨h,B,rfl⟩)
  have G:∀w:World,(j.mapM (λh=>do pure (h.offset,<-sizeOf h.type):Field->Sem (Nat×Nat))).run P w=.ok (j.toList.map λh=>(h.offset,Yt T h.type)).toArray w:=by
   intro w;rw[Un,Sem.run_map,Jk l w j.toList A];rfl
  obtain⟨R,E,F⟩:=KA l z y (λx=>((j.toList.map λh=>(h.offset,Yt T h.type)).toArray)[x]?) (λx S t r u H O=>by
   rw[pI,<-s,cJ]at u;obtain⟨N,C,p⟩:=Option.map_eq_some_iff.1 u;simp only[NX]at p;obtain⟨rfl,rfl⟩:=p;simp only[lI,cJ,C,nT,Yt,H]) _ _ _ i
  refine⟨_,_,E,nK _,λw _=>?_⟩;have u:L.cells=((K.map Sh.zero).map Ce.v).toArray:=by
   apply Array.toList_inj.1;simp[I]
  have C:(o.map λp=>(p.1,a.eval p.2)).toList=o.toList.map λp=>(p.1,a.eval p.2):=aL;simp only[execOp,Instr.build,Sem.run_bind,J,Result.andThen_ok,run_underlying D,G,u,C,F];simp[SV.v]
 .exact i.elim
def BN(d:jZ n b a):∀{c:List Operand},c.all (λx=>(ev b x).jI)=true->c.map a.eval=c.map λx=>(ev b x).v
 |[],_=>rfl
 |x::c,h=>by
  simp only[NV,bK]at h;simp only[cK,d.eq rfl h.1,BN d h.2]
def Mz(v:uj P T)(l:jZ n b a){s:Builtin}{i:Array Operand}{r:Array TypeId}(h:rd T b m k (.call ⟨.builtin s,i,r⟩)):
 oO P T b m a ⟨d,.call ⟨.builtin s,i,r⟩,g,f,c,e⟩ k:=by
 simp only[rd]at h
 unfold Tc at h
 split at h
 .rename_i t x z p
  split at h
  .rename_i D E C q y o
   refine⟨_,_,h,nK _,λw _=>?_⟩
   have A:=(ka (v.yh y)).1
   have u:r=#[t]:=Array.toList_inj.1 (by simpa using z)
   have j:i=#[x]:=Array.toList_inj.1 (by simpa using p)
   subst u;subst j
   have B:a.eval x=q.v:=l.eq o rfl
   cases q<;>simp[execOp,resolve,invoke,builtin,Builtin.len_,run_underlying A,B,O.v,goInt,SV.v,Ce.v,O.len]
  .exact h.elim
 .rename_i x y p
  split at h
  .rename_i u z o q
   refine⟨_,_,h,nK _,λw _=>?_⟩
   have j:i=#[x,y]:=Array.toList_inj.1 (by simpa using p)
   subst j
   simp[execOp,resolve,invoke,builtin,Builtin.max_,Builtin.max2,l.eq o rfl,l.eq q rfl,SV.v,Ce.v]
  .exact h.elim
 .rename_i x y p
  split at h
  .rename_i u z o q
   refine⟨_,_,h,nK _,λw _=>?_⟩
   have j:i=#[x,y]:=Array.toList_inj.1 (by simpa using p)
   subst j
   simp[execOp,resolve,invoke,builtin,Builtin.min_,Builtin.min2,l.eq o rfl,l.eq q rfl,SV.v,Ce.v]
  .exact h.elim
 .exact h.elim
def Lk(j:uj P T)(i:jZ n b a)(s:Bx n b m)(o:Oper)(h:rd T b m k o.op):oO P T b m a o k:=by
 obtain⟨d,l,g,f,c,e⟩:=o;cases l with
 |move x=>exact TC i h
 |assign x=>exact Sg i h
 |pick p x y=>exact QM i h
 |nilCheck x=>exact KP i h
 |binOp l t x y q=>exact PB j i h
 |unOp l t x=>exact QN i h
 |convert q t x=>exact MA j i h
 |fieldAddr t x q=>exact JA j i h
 |field t x q=>exact PD j i h
 |indexAddr t x y=>exact JB j i h
 |load t x=>exact QL j i s h
 |extract x r=>exact MB i h
 |slice t x u r mx=>cases mx with
  |none=>exact PE j i h
  |some y=>exact h.elim
 |build t r=>exact PC j i h
 |call p=>
  obtain⟨r,u,w⟩:=p;cases r with
  |builtin v=>exact Mz j i h
  |value q=>exact h.elim
  |invoke v q=>exact h.elim
 |_=>exact h.elim
end
end Go.Vc
end
section
namespace Go.Vc
variable{m m':E}{b o e n q:Nat}{l:List Ce}
def ah(m:E)(b o:Nat):List Ce->E
 |[]=>m
 |c::r=>ah (rm m b o c.v) b (o+1) r
def fK(m:E)(b o n:Nat):Prop:=∀j,j<n->(af m b (o+j)).isSome=true/\vE m b (o+j)=false
def fQ(m:E)(b o:Nat)(l:List Ce):Prop:=∀(i:Nat)(c:Ce),l[i]? =some c->af m b (o+i)=some c.v
def mH(a:List Ce)(n:Nat):List Ce:=(List.replicate n a).flatten
def bt(l:List Ce):Array Value:=(l.map Ce.v).toArray
def Q1(m:E)(b o:Nat)(v:Value):(rm m b o v).size=m.size:=by simp[rm]
def Lt(m:E)(b o:Nat)(v:Value){j:Nat}(h:j≠b):(rm m b o v)[j]? =m[j]? :=by
 simp only[rm,lH];rw[ae (λe=>h e.symm)]
def aw:∀(l:List Ce)(m:E)(b o:Nat),(ah m b o l).size=m.size
 |[],_,_,_=>rfl
 |c::r,m,b,o=>by simp only[ah];rw[aw r,Q1]
def bd:∀(l:List Ce)(m:E)(b o:Nat){j:Nat},j≠b->(ah m b o l)[j]? =m[j]?
 |[],_,_,_,_,_=>rfl
 |c::r,m,b,o,j,h=>by simp only[ah];rw[bd r _ _ _ h,Lt m b o _ h]
def mf{v:Value}(h:af m b o=some v):b<m.size:=by
 rcases aW b m.size with a|a
 .exact a
 .simp[af,I5 a]at h
def aJ(h:m'[b]? =m[b]?)(o:Nat):af m' b o=af m b o:=by simp only[af,h]
def cE(m:E)(b:Nat)(e:Nat)(l:List Ce):Prop:=m[b]? =some (.cells (bt l) e)
def T5(l:List Ce)(i:Nat):(bt l)[i]? =(l[i]?).map Ce.v:=by simp[bt]
def cE.cg(h:cE m b e l)(o:Nat):af m b o=(l[o]?).map Ce.v:=by
 have a:m[b]? =some (.cells (bt l) e (0,0)):=h;simp only[af,a,T5]
def cE.iB(h:cE m b e l):fQ m b 0 l:=λi c a=>by rw[h.cg,bU,a];rfl
def cE.lt(h:cE m b e l):b<m.size:=(Array.getElem?_eq_some_iff.1 h).1
def cE.vE{m:E}{b e:Nat}{l:List Ce}(h:cE m b e l)(o:Nat):vE m b o=false:=by
 have a:m[b]? =some (.cells (bt l) e (0,0)):=h;simp[Vc.vE,a]
def cE.fK(h:cE m b e l)(c:o+n<=l.length):fK m b o n:=λj a=>by
 refine⟨?_,h.vE _⟩;rw[h.cg];simp;omega
def cE.push(m:E)(l:List Ce)(e:Nat):cE (m.push (.cells (bt l) e)) m.size e l:=by simp[cE]
def cE.congr(a:cE m b e l)(h:m'[b]? =m[b]?):cE m' b e l:=by
 unfold cE at*;rw[h];exact a
def cE.rm{m:E}{b e:Nat}{l:List Ce}(h:cE m b e l)(o:Nat)(c:Ce):cE (rm m b o c.v) b e (l.set o c):=by
 have d:m[b]? =some (.cells (bt l) e (0,0)):=h;have f:=h.lt;simp only[cE,Vc.rm,lH,Mp,d,nT];congr 2;apply BD;intro i;simp only[bt,Array.getElem?_setIfInBounds,lI,cJ,jE,DE,dZ];by_cases e:o=i
 .subst e;by_cases a:o<l.length
  .simp[a]
  .simp[a]
 .simp[e]
def jb(l:List Ce)(o:Nat):List Ce->List Ce
 |[]=>l
 |c::r=>jb (l.set o c) (o+1) r
def kT:∀(r l:List Ce)(o:Nat),(jb l o r).length=l.length
 |[],_,_=>rfl
 |c::r,l,o=>by simp only[jb];rw[kT r];simp
def vY:∀(r l:List Ce)(o i:Nat),(jb l o r)[i]? =if o<=i/\i<o+r.length/\i<l.length then r[i -o]? else l[i]?
 |[],l,o,i=>by simp[jb];intro h;omega
 |c::r,l,o,i=>by
  simp only[jb];rw[vY r,jE];simp only[eg,aZ];by_cases b:o=i
  .subst b;by_cases a:o<l.length
   .simp[a];try omega
   .simp[a];try omega
  .by_cases a:o<=i/\i<o+(r.length+1)/\i<l.length
   .rw[an a,an V,show i -o=(i -(o+1))+1 by omega,ic]
   .rw[ae a,ae V];simp[b]
def cE.ah{m:E}{b e:Nat}:∀{r l:List Ce}{m:E}{o:Nat},cE m b e l->cE (ah m b o r) b e (jb l o r)
 |[],_,_,_,h=>h
 |c::r,l,m,o,h=>by
  simp only[Vc.ah,jb];exact cE.ah (m:=m) (h.rm o c)
def uX(t:Nat):List Nat->Bool
 |[]=>false
 |u::r=>Nat.beq u t||uX t r
def HN{t:Nat}:∀{M:List Nat},uX t M=true->t∈M
 |[],h=>by simp[uX]at h
 |u::r,h=>by
  simp only[uX,bQ]at h;rcases h with h|h
  .rw[bq h];exact bg
  .exact ai _ (HN h)
def Mo(n:Nat):Fr->List Nat->List Nat
 |[],_=>[]
 |(q,x)::r,a=>bif Nat.ble n q&&!uX q a then
  match x with
  | .box b _ _=>b::Mo n r (q::a)
  | .zr b _ _=>b::Mo n r (q::a)
  |_=>Mo n r (q::a)
  else Mo n r a
def eG(l:List Nat)(m m':E):Prop:=∀b∈l,m'[b]? =m[b]?
def Ad(l:List Nat)(m m':E)(k:Prop):Prop:=
 match l with
 |[]=>k
 |_=>eG l m m'/\k
def mz{l:List Nat}{k:Prop}(h:Ad l m m' k):eG l m m'/\k:=by
 unfold Ad at h;split at h
 .exact⟨(λb a=>by cases a),h⟩
 .exact h
def Hf{n:Nat}{q b e:Nat}{l:List Ce}(c:n<=q):∀{j:Fr}{a:List Nat},q∉a->lL j q b e l->b∈Mo n j a
 |[],a,_,h=>by rcases h with h|h<;>simp[ig]at h
 |(u,x)::r,a,g,h=>by
  simp only[Mo];cases f:Nat.beq u q
  .have k:u≠q:=λe=>by subst e;simp at f
   have d:lL r q b e l:=by
    unfold lL at h⊢;simpa only[ig,f,mI]using h
   have i:q∉u::a:=by
    simp only[aV,vv];exact⟨λe=>k e.symm,g⟩
   cases(Nat.ble n u&&!uX u a)
   .exact Hf c g d
   .simp only[jH];split
    .exact ai _ (Hf c i d)
    .exact ai _ (Hf c i d)
    .exact Hf c i d
  .have:=bq f;subst this;have i:uX u a=false:=by
    cases k:uX u a
    .rfl
    .exact absurd (HN k) g
   have d:Nat.ble n u=true:=Xw c;simp only[i,d,Mj,Bool.and_self,jH];unfold lL at h;simp only[ig,f,jH]at h;rcases h with h|h<;>rw[h]<;>exact bg
def Bx.fU{c:Fr}(h:Bx n c m){x:SV}(i:∀b e l,x≠.box b e l/\x≠.zr b e l):Bx n ((q,x)::c) m:=by
 have d:∀{u b e l},lL ((q,x)::c) u b e l->lL c u b e l:=by
  intro u b e l a;unfold lL at a⊢;simp only[ig]at a;cases g:Nat.beq q u
  .rw[g]at a;exact a
  .rw[g]at a;rcases a with a|a
   .exact absurd a (i b e l).1
   .exact absurd a (i b e l).2
 exact⟨λq b e l f=>h.D q b e l (d f),λq t b e l j k s r o p=>h.Ol q t b e l j k s r (d o) (d p),λq b e l f=>h.key q b e l (d f)⟩
def SV.Ym(x:SV)(b e:Nat)(l:List Ce):x.nb≠.box b e l/\x.nb≠.zr b e l:=by
 cases x<;>exact⟨by simp[SV.nb],by simp[SV.nb]⟩
def Bx.put{a:Fr}(h:Bx n a m)(d:Option Nat)(x:SV):Bx n (tX a d x) m:=by
 cases d with
 |none=>exact h
 |some d=>exact h.fU (SV.Ym x)
def Bx.dv{a:Fr}(h:Bx n a m)(d:eG (Mo n a []) m m'):Bx n a m':=
 ⟨λq b e l c=>by rw[d b (Hf (h.key q b e l c) aL c)];exact h.D q b e l c,h.Ol,h.key⟩
def Bx.push{a:Fr}(h:Bx n a m)(o:Obj):Bx n a (m.push o):=
 ⟨λq b e l d=>by
  have c:=h.D q b e l d;have f:=(Array.getElem?_eq_some_iff.1 c).1;rw[mM,ae V];exact c,h.Ol,h.key⟩
def Bx.new{d:Fr}(h:Bx n d m)(x:n<=q)(t:Nat)(l:List Ce):Bx n ((q,.box m.size t l)::d) (m.push (.cells (bt l) t)):=by
 have w:=h.push (.cells (bt l) t);have p:∀{u b e l},lL d u b e l->b<m.size:=λa=>(Array.getElem?_eq_some_iff.1 (h.D _ _ _ _ a)).1;have g:∀{u b e c},lL ((q,.box m.size t l)::d) u b e c->(u=q/\b=m.size/\e=t/\c=l)\/(u≠q/\lL d u b e c):=by
  intro u b e c a;unfold lL at a⊢;simp only[ig]at a;cases f:Nat.beq q u
  .rw[f]at a;exact Or.inr ⟨λe=>by subst e;simp at f,a⟩
  .rw[f]at a;have:=bq f;subst this;rcases a with a|a
   .simp at a;exact Or.inl ⟨rfl,a.1.symm,a.2.1.symm,a.2.2.symm⟩
   .simp at a
 refine⟨λu b e c a=>?_,λu B b e z r s A o v k=>?_,λu b e c a=>?_⟩
 .rcases g a with⟨rfl,rfl,rfl,rfl⟩|⟨_,a⟩
  .simp[bt]
  .exact w.D u b e c a
 .rcases g v with⟨rfl,rfl,rfl,rfl⟩|⟨f,j⟩
  .rcases g k with⟨rfl,rfl,rfl,rfl⟩|⟨y,i⟩
   .exact absurd rfl o
   .have:=p i;omega
  .rcases g k with⟨rfl,rfl,rfl,rfl⟩|⟨y,i⟩
   .have:=p j;omega
   .exact h.Ol u B b e z r s A o j i
 .rcases g a with⟨rfl,rfl,rfl,rfl⟩|⟨_,a⟩
  .exact x
  .exact h.key u b e c a
def Bx.od{j:Fr}(h:Bx n j m){f:List Ce}(E:ig j q=.box b e f)(o:Nat)(l:List Ce):Bx n ((q,.box b e (jb f o l))::j) (ah m b o l):=by
 have k:lL j q b e f:=Or.inl E;have D:cE m b e f:=h.D q b e f k;have p:∀{u c d g},lL ((q,.box b e (jb f o l))::j) u c d g->(u=q/\c=b/\d=e/\g=jb f o l)\/(u≠q/\lL j u c d g):=by
  intro u c d g a;unfold lL at a⊢;simp only[ig]at a;cases i:Nat.beq q u
  .rw[i]at a;exact Or.inr ⟨λe=>by subst e;simp at i,a⟩
  .rw[i]at a;have:=bq i;subst this;rcases a with a|a
   .simp at a;exact Or.inl ⟨rfl,a.1.symm,a.2.1.symm,a.2.2.symm⟩
   .simp at a
 refine⟨λu c d g a=>?_,λu s b1 t A b2 v B y C x=>?_,λu c d g a=>?_⟩
 .rcases p a with⟨rfl,rfl,rfl,rfl⟩|⟨i,a⟩
  .exact cE.ah (m:=m) D
  .rw[bd l m b o (h.Ol u q c d g b e f i a k)];exact h.D u c d g a
 .rcases p C with⟨rfl,rfl,rfl,rfl⟩|⟨i,w⟩
  .rcases p x with⟨rfl,rfl,rfl,rfl⟩|⟨z,r⟩
   .exact absurd rfl y
   .exactλe=>h.Ol s u b2 v B _ _ _ z r k e.symm
  .rcases p x with⟨rfl,rfl,rfl,rfl⟩|⟨z,r⟩
   .exact h.Ol u s b1 t A _ _ _ i w k
   .exact h.Ol u s b1 t A b2 v B y w r
 .rcases p a with⟨rfl,rfl,rfl,rfl⟩|⟨_,a⟩
  .exact h.key u c d f k
  .exact h.key u c d g a
def Fx(a:Fr):List Ce->Option Fr
 |[]=>some a
 | .bp q _ _::r=>match ig a q with
  | .zr _ _ _=>none
  |_=>Fx ((q,.fU)::a) r
 |_::r=>Fx a r
def AV.UE:AV->List Ce
 | .c x=>[x]
 | .agg l=>l
def SV.UE:SV->List Ce
 | .c x=>[x]
 | .agg l=>l
 | .Xd l=>l.flatMap AV.UE
 |_=>[]
def Tz(a:Fr)(l:List SV):Option Fr:=Fx a (l.flatMap SV.UE)
def qu{n:Nat}{f:Act}{m:E}:∀{l:List Ce}{a c:Fr},Fx a l=some c->jZ n a f->Bx n a m->jZ n c f/\Bx n c m
 |[],a,c,h,e,d=>by simp[Fx]at h;subst h;exact⟨e,d⟩
 |g::r,a,c,h,e,d=>by
  cases g with
  |bp q b o=>
   simp only[Fx]at h;split at h
   .simp at h
   .exact qu h (e.fU q) (d.fU aL)
  |_=>exact qu (l:=r) (by simpa[Fx]using h) e d
end Go.Vc
end
section
namespace Go.Vc
variable{P:Program}{T:TT}
def OE(m:E)(k:E->Prop):Prop:=k m
def jL(m:E)(f:Nat)(b:List Ce)(e:Nat)(s x:O)(k:O->E->Prop):Prop:=
 ∃a:List Ce,a.length=x.len*b.length/\fQ m x.D x.off a/\
  (s.len+x.len<=s.cap->fK m s.D (s.off+s.len*b.length) a.length/\
   k (match s with| .nil=>.nil| .mk d o l c=>.mk d o (l+x.len) c| .zC d o g=>.zC d o g) (ah m s.D (s.off+s.len*b.length) a))/\
  (s.cap<s.len+x.len->(s.len+x.len)*e<=140737488355328/\∃old:List Ce,old.length=s.len*b.length/\fQ m s.D s.off old/\
   ∀c,s.len+x.len<=c->k (.mk m.size 0 (s.len+x.len) c) (m.push (.cells (bt (old++a++mH b (c -(s.len+x.len)))) f)))
def WK(m:E)(c:Nat)(s x:O)(k:SV->E->Prop):Prop:=
 ∃a:List Ce,a.length=Nat.min x.len s.len*c/\fQ m x.D x.off a/\fK m s.D s.off a.length/\
  OE (ah m s.D s.off a) λb=>k (.c (.i (Nat.min x.len s.len:Nat))) b
def Um:List Sh->(List Ce->Prop)->Prop
 |[],k=>k []
 |s::r,k=>∃x:s.ty,Um r λl=>k (s.mk x::l)
def Sd(T:TT):List Nat->(List AV->Prop)->Prop
 |[],k=>k []
 |t::r,k=>match fJ T t with
  |some ⟨.struct _,b,_⟩=>Um b λl=>Sd T r λa=>k (.agg l::a)
  |some ⟨.cell,[s],_⟩=>∃x:s.ty,Sd T r λa=>k (.c (s.mk x)::a)
  |some ⟨.slice _,[_],_⟩=>∃x:O,Sd T r λa=>k (.c (.s x)::a)
  |_=>False
def PT(T:TT)(t:Nat)(v:Value)(k:SV->Prop):Prop:=
 match fJ T t with
 |some ⟨.tuple [],_,_⟩=>k .fU
 |some ⟨.tuple a,_,_⟩=>Sd T a λl=>v=.tuple (l.map AV.v).toArray/\k (.Xd l)
 |some ⟨.struct _,a,_⟩=>Um a λl=>v=.agg (l.map Ce.v).toArray/\k (.agg l)
 |some ⟨.cell,[s],_⟩=>∃x:s.ty,v=(s.mk x).v/\k (.c (s.mk x))
 |some ⟨.slice _,[_],_⟩=>∃x:O,v=x.v/\k (.c (.s x))
 |_=>False
def Tf(P:Program)(T:TT)(G:List Nat)(n:Nat)(a:Fr)(m:E)(e:Nat)(h:Operand)(b:List Operand)(k:Fr->SV->E->Prop):Prop:=
 match Tz a (b.map (ev a))with
 |none=>False
 |some d=>match ev a h with
  | .c (.fn (.func g) first f)=>bif G.elem g&&b.all (λx=>(ev a x).jI)then
   aN P g (first.toList++(b.map λx=>(ev a x).v)++f.toList) m λv c=>Ad (Mo n d []) m c (PT T e v λx=>k d x c)
   else False
  | .c (.fv q)=>bif b.all (λx=>(ev a x).jI)then
   ∃g,q.1=.func g/\G.elem g=true/\aN P g (q.2.1.toList++(b.map λx=>(ev a x).v)++q.2.2.toList) m λv c=>Ad (Mo n d []) m c (PT T e v λx=>k d x c)
   else False
  |_=>False
def Dq(m:E)(b:Nat)(l:List (Int×Int)):Prop:=
 ∃a c,m[b]? =some (.map a c)/\a.toList.map (λe=>(e.key,e.val))=l.map λp=>(Value.int .i64 p.1,Value.int .i64 p.2)
def uY(l:List (Int×Int))(k:Int):Int:=
 match l with
 |[]=>0
 |(j,v)::r=>if k=j then v else uY r k
def JF(l:List (Int×Int))(k v:Int):List (Int×Int):=
 match l with
 |[]=>[(k,v)]
 |(j,u)::r=>if k=j then(j,v)::r else(j,u)::JF r k v
def wU(T:TT)(d:Fr)(b:Nat):List Ce->List (Nat×Operand)->(List Ce->Prop)->Prop
 |a,[],k=>k a
 |a,(i,x)::r,k=>
  match(ev d x).cells with
  |some c=>bif Nat.beq c.length b&&Nat.ble (i*b+c.length) a.length then wU T d b (mh a (i*b) c) r k else False
  |none=>False
def Sn(n:Nat)(b:Fr)(d:Option Nat)(m:E)(t:Nat)(l:List Ce)(k:Fr->SV->E->Prop):Prop:=
 match d with
 |some a=>match ig b (n+a)with
  | .zr _ _ _=>False
  |_=>OE (m.push (.cells (bt l) t)) λc=>k ((n+a,.box m.size t l)::b) (.c (.bp (n+a) m.size 0)) c
 |none=>OE (m.push (.cells (bt l) t)) λc=>k b (.c (.p m.size 0)) c
def OS(n:Nat)(c:Fr)(m:E)(x:SV)(l:List Ce)(k:Fr->SV->E->Prop):Prop:=
 match x with
 | .c (.p b o)=>fK m b o l.length/\OE (ah m b o l) λa=>Ad (Mo n c []) m a (k c .un a)
 | .c (.bp q b o)=>match ig c q with
  | .box d f e=>bif Nat.ble (o+l.length) e.length then Mw d b (OE (ah m b o l) λa=>k ((q,.box d f (jb e o l))::c) .un a)else False
  | .zr _ _ _=>False
  |_=>fK m b o l.length/\OE (ah m b o l) λa=>Ad (Mo n c []) m a (k c .un a)
 |_=>False
def wr(P:Program)(T:TT)(G:List Nat)(n:Nat)(a:Fr)(m:E)(h:Option Nat)(o:Nat)(k:Fr->SV->E->Prop):Op->Prop
 | .alloc t=>match fJ T t with
  |some f=>bif f.ux then False else Sn n a h m t (f.sh.map Sh.zero) k
  |none=>False
 | .box t x=>match(ev a x).cells with
  |some l=>match Fx a l with
   |some d=>Sn n d h m t l k
   |none=>False
  |none=>False
 | .buildSlice t g i=>match fJ T t with
  |some ⟨.slice e,_,_⟩=>match fJ T e with
   |some c=>bif c.ux||!(Nat.ble (g*c.sh.length) 16777216)then False else
    wU T a c.sh.length (mH (c.sh.map Sh.zero) g) i.toList λl=>match Fx a l with
     |some d=>OE (m.push (.cells (bt l) e)) λb=>k d (.c (.s (.mk m.size 0 g g))) b
     |none=>False
   |none=>False
  |_=>False
 | .store t x y=>match(ev a y).cells,fJ T t with
  |some l,some f=>bif f.ux||!(Nat.beq l.length f.sh.length)then False else match Fx a l with
   |some d=>OS n d m (ev a x) l k
   |none=>False
  |_,_=>False
 | .makeSlice t x y=>match fJ T t,ev a x,ev a y with
  |some ⟨.slice e,_,_⟩,.c (.i l),.c (.i f)=>match fJ T e with
   |some c=>bif c.ux then False else 0<=l/\l<=f/\(c.bytes:Int)*f<=281474976710656/\f<=9223372036854775807/\
    OE (m.push (.cells (bt (mH (c.sh.map Sh.zero) f.toNat)) e)) λb=>k a (.c (.s (.mk m.size 0 l.toNat f.toNat))) b
   |none=>False
  |_,_,_=>False
 | .makeFunc g first f=>bif first.toList.all (λx=>(ev a x).jI)&&f.toList.all (λx=>(ev a x).jI)then
  match Tz a (first.toList.map (ev a)++f.toList.map (ev a))with
  |some d=>k d (.c (.fn g (first.toList.map λx=>(ev a x).v).toArray (f.toList.map λx=>(ev a x).v).toArray)) m
  |none=>False
  else False
 | .makeMap _ none=>OE (m.push (.map #[] 0)) λb=>k a (.c (.mp m.size)) b
 | .lookup t x y false=>match fJ T t,ev a x,ev a y with
  |some ⟨.map f g,_,_⟩,.c (.mp d),.c (.i n)=>match fJ T f,fJ T g with
   |some ⟨.cell,[.I],_⟩,some ⟨.cell,[.I],_⟩=>∃l,Dq m d l/\k a (.c (.i (uY l n))) m
   |_,_=>False
  |_,_,_=>False
 | .mapUpdate t x y z=>match fJ T t,ev a x,ev a y,ev a z with
  |some ⟨.map f _,_,_⟩,.c (.mp d),.c (.i g),.c (.i v)=>match fJ T f with
   |some ⟨.cell,[.I],_⟩=>∃l,Dq m d l/\∀b,Dq b d (JF l g v)->b.size=m.size->(∀j,j≠d->b[j]? =m[j]?)->Ad (Mo n a []) m b (k a .un b)
   |_=>False
  |_,_,_,_=>False
 | .call ⟨.value f,d,_⟩=>Tf P T G n a m o f d.toList k
 | .call ⟨.builtin .append,d,f⟩=>match d.toList,f.toList with
  |[x,y],[t,u]=>match fJ T t,fJ T u,ev a x,ev a y with
   |some ⟨.slice e,_,_⟩,some ⟨.slice _,_,_⟩,.c (.s s),.c (.s z)=>match fJ T e with
    |some c=>bif c.ux||Nat.beq c.bytes 0 then False else jL m e (c.sh.map Sh.zero) c.bytes s z λr b=>Ad (Mo n a []) m b (k a (.c (.s r)) b)
    |none=>False
   |_,_,_,_=>False
  |_,_=>False
 | .call ⟨.builtin .copy,d,f⟩=>match d.toList,f.toList with
  |[x,y],t::_=>match fJ T t,ev a x,ev a y with
   |some ⟨.slice e,_,_⟩,.c (.s s),.c (.s z)=>match fJ T e with
    |some c=>bif c.ux then False else WK m c.sh.length s z λx b=>Ad (Mo n a []) m b (k a x b)
    |none=>False
   |_,_,_=>False
  |_,_=>False
 |_=>False
def Hy(P:Program)(g:Nat):Bool:=
 match P.funcs[g]? with
 |some a=>!(a.name== "runtime.NumGoroutine")&&a.body.isSome
 |none=>false
def Us(P:Program)(G:List Nat):Prop:=G.all (Hy P)=true
def Qh(a:List Ce):∀(n i:Nat),i<n*a.length->(mH a n)[i]? =a[i%a.length]?
 |0,i,h=>by simp at h
 |n+1,i,h=>by
  have c:0<a.length:=by
   rcases jY a.length with e|e
   .rw[e]at h;simp at h
   .exact e
  have e:mH a (n+1)=a++mH a n:=by simp[mH,qL]
  rw[e,List.getElem?_append];split
  .rename_i b;rw[Nat.mod_eq_of_lt b]
  .rename_i b;rw[Qh a n (i -a.length) (by rw[gN,Nat.one_mul]at h;omega)];congr 1;rw[Nat.mod_eq_sub_mod (by omega:i>=a.length)]
def rG(a:List Ce)(n:Nat):(mH a n).length=n*a.length:=by
 simp[mH]
def IZ(a:List Ce)(z:Array Value)(d:z.toList=a.map Ce.v)(n:Nat):
 (Array.range (n*a.length)).map (λi=>z[i%z.size]!)=bt (mH a n):=by
 apply BD
 intro i
 have j:z.size=a.length:=by rw[<-Zh,d];simp
 by_cases b:i<n*a.length
 .have f:=Qh a n i b
  have h:0<a.length:=by
   rcases jY a.length with e|e
   .rw[e]at b;simp at b
   .exact e
  have g:i%a.length<a.length:=Nat.mod_lt _ h
  have c:(bt (mH a n))[i]? =((mH a n)[i]?).map Ce.v:=by simp[bt]
  rw[c,f,<-cJ,<-d]
  simp[b,j,g]
 .have c:(bt (mH a n))[i]? =none:=by simp[bt,rG];omega
  rw[c]
  simp[b]
end Go.Vc
end
section
namespace Go.Vc
variable{c:SV}{l:List Ce}{t:TypeId}
variable{d:Program}{T:TT}{G:List Nat}
def Ce.UR(c:Ce):c.v.oneCell'=true:=by
 cases c with
 |s y=>cases y<;>rfl
 |_=>rfl
def kW:∀(l:List Ce)(w:World)(b o:Nat),(w.setCells b o (l.map Ce.v)).heap=ah w.heap b o l
 |[],_,_,_=>rfl
 |c::r,w,b,o=>by
  simp only[cK,World.setCells,ah];rw[kW r,OJ]
def qU:∀(l:List Value)(w:World)(a o:Nat),pu w (w.setCells a o l)
 |[],w,_,_=>pu.az w
 |c::r,w,a,o=>by
  simp only[World.setCells];exact pu.trans (b:=w.setCell ⟨a,o,none⟩ c) ⟨rfl,rfl,rfl⟩ (qU r _ a (o+1))
def Ef(l:List Ce)(b o:Nat)(w:World)(h:fK w.heap b o l.length):
 (storeCells ⟨b,o,none⟩ (l.map Ce.v)).run d w=.ok () (w.setCells b o (l.map Ce.v)):=by
 have:=run_storeCells_cells (P:=d) b o (l.map Ce.v) 0 w
  (λj a=>by have:=(h j (by simpa using a)).1;rw[zy];simpa using this)
  (λj a=>by have:=(h j (by simpa using a)).2;rw[QI];simpa using this)
  (λv a=>by obtain⟨c,_,rfl⟩:=List.mem_map.1 a;exact c.UR)
 simpa using this
def PW(l:List Ce)(b o:Nat)(a:World)(h:fQ a.heap b o l):(loadCells ⟨b,o,none⟩ l.length).run d a=.ok (bt l) a:=by
 have:=run_loadCells_list (P:=d) (w:=a) ⟨b,o,none⟩ (l.map Ce.v) (λj v c=>by
  rw[vD,zy];rw[cJ]at c;obtain⟨e,f,rfl⟩:=Option.map_eq_some_iff.1 c;exact h j e f)
 simpa[bt]using this
section
variable{n:Nat}{b:Fr}{a:Act}{m:E}{k:Fr->SV->E->Prop}{e:Option Tmp}{f:TypeId}{i:String}{g:Array Edge}{h:Option (Nat×Bool)}
def Fh(d:Program)(n:Nat)(a:Act)(m:E)(o:Oper)(k:Fr->SV->E->Prop):Prop:=
 ∀(w:World),w.heap=m->∀(f:Act->World->Prop)(Q:Exit->Act->World->Prop),
  (∀e c v b,k e c b.heap->jZ n e a->Bx n e b.heap->c.Is v->pu w b->f (a.put o.dst v) b)->o.wp d a w f Q
def jM{o:Oper}{e:Fr}{v:Value}{w b:World}(h:jZ n e a)(g:Bx n e b.heap)(p:c.Is v)(m:pu w b)(i:k e c b.heap)(l:(execOp a.eval o).run d w=.ok (.value v) b)
 {f:Act->World->Prop}{Q:Exit->Act->World->Prop}(j:∀e c v b,k e c b.heap->jZ n e a->Bx n e b.heap->c.Is v->pu w b->f (a.put o.dst v) b):o.wp d a w f Q:=by
 unfold Oper.wp
 rw[l]
 exact j e c v b i h g p m
def Ny{i:Option Nat}{t:Nat}(g:jZ n b a)(f:Bx n b m)(h:Sn n b i m t l k):
 ∃d c,jZ n d a/\Bx n d (m.push (.cells (bt l) t))/\c.Is (.pointer (some ⟨m.size,0,none⟩))/\k d c (m.push (.cells (bt l) t)):=by
 unfold Sn at h
 split at h
 .split at h
  .exact h.elim
  .rename_i e _ j
   exact⟨(n+e,.box m.size t l)::b,.c (.bp (n+e) m.size 0),g.cons _ (λ_=>trivial),f.new (Nat.le_add_right _ _) t l,rfl,h⟩
 .exact⟨b,.c (.p m.size 0),g,f.push _,rfl,h⟩
def P7(s:jZ n b a)(g:Bx n b m)(h:OS n b m c l k):
 ∃p d o,jZ n p a/\Bx n p (ah m d o l)/\(∀v,c.Is v->v=.pointer (some ⟨d,o,none⟩))/\fK m d o l.length/\k p .un (ah m d o l):=by
 unfold OS at h
 split at h
 .obtain⟨q,r⟩:=mz h.2
  exact⟨_,_,_,s,g.dv q,λv e=>e,h.1,r⟩
 .split at h
  .rename_i w d o _ i j f u
   cases t:Nat.ble (o+l.length) f.length
   .rw[t]at h;exact h.elim
   .rw[t]at h
    obtain⟨rfl,h⟩:=h
    have x:cE m i j f:=g.D w i j f (Or.inl u)
    exact⟨(w,.box i j (jb f o l))::b,_,_,s.cons _ (λ_=>trivial),g.od u o l,λv e=>e,x.fK (lJ t),h⟩
  .exact h.elim
  .obtain⟨q,r⟩:=mz h.2
   exact⟨_,_,_,s,g.dv q,λv e=>e,h.1,r⟩
 .exact h.elim
def Qz(y:uj d T)(s:jZ n b a)(q:Bx n b m)(j:wr d T G n b m e f k (.alloc t)):Fh d n a m ⟨e,.alloc t,f,i,g,h⟩ k:=by
 intro l D L Q B
 subst D;simp only[wr]at j;split at j
 .rename_i p C;cases o:p.ux
  .rw[o]at j;obtain⟨I,F,H,K⟩:=vX y C o;have z:I.cells=bt (p.sh.map Sh.zero):=by apply Array.toList_inj.1;simp[F,bt]
   obtain⟨J,c,u,r,E,A⟩:=Ny s q j;refine jM (w:=l) (c:=c) (v:=.pointer (some ⟨l.heap.size,0,none⟩)) (b:={l with heap:=l.heap.push (.cells (bt (p.sh.map Sh.zero)) t)}) u r E ⟨rfl,rfl,rfl⟩ A ?_ B;simp[execOp,Instr.alloc,H,newVar,newRow,z]
  .rw[o]at j;exact j.elim
 .exact j.elim
def Tk(p:jZ n b a)(q:Bx n b m){c:Operand}(j:wr d T G n b m e f k (.box t c)):Fh d n a m ⟨e,.box t c,f,i,g,h⟩ k:=by
 intro o F L Q E
 subst F;simp only[wr]at j;split at j
 .rename_i l D;split at j
  .rename_i K A;obtain⟨y,s⟩:=qu A p q;obtain⟨B,z⟩:=pB D;obtain⟨J,I,u,r,H,C⟩:=Ny y s j;refine jM (w:=o) (c:=I) (v:=.pointer (some ⟨o.heap.size,0,none⟩)) (b:={o with heap:=o.heap.push (.cells (bt l) t)}) u r H ⟨rfl,rfl,rfl⟩ C ?_ E;simp[execOp,Instr.box,newVar,newRow,p.eq rfl B,z,bt]
  .exact j.elim
 .exact j.elim
def Ms(q:jZ n b a)(y:Bx n b m){o:Fn}{first l:Array Operand}(j:wr d T G n b m e f k (.makeFunc o first l)):Fh d n a m ⟨e,.makeFunc o first l,f,i,g,h⟩ k:=by
 intro r D F Q C
 subst D;simp only[wr]at j;cases p:(first.toList.all (λc=>(ev b c).jI)&&l.toList.all (λc=>(ev b c).jI))
 .rw[p]at j;exact j.elim
 .rw[p]at j;simp only[bK]at p;obtain⟨u,x⟩:=p;have s:(first.toList.map λc=>(ev b c).v).toArray=first.map a.eval:=by
   apply Array.toList_inj.1;simp[BN q u]
  have t:(l.toList.map λc=>(ev b c).v).toArray=l.map a.eval:=by
   apply Array.toList_inj.1;simp[BN q x]
  simp only[jH]at j;split at j
  .rename_i E B;obtain⟨A,z⟩:=qu B q y;refine jM (w:=r) (b:=r) A z (v:=.func o (first.map a.eval) (l.map a.eval)) ?_ (pu.az r) j ?_ C
   .show Value.func o (first.map a.eval) (l.map a.eval)=Value.func o _ _;rw[s,t]
   .simp[execOp,Instr.makeFunc]
  .exact j.elim
def Jr(p:jZ n b a)(e:Nat):
 ∀(q:List (Nat×Operand))(d:List Ce)(k:List Ce->Prop),wU T b e d q k->
  ∃l,k l/\Instr.fill (λi=>some (i*e,e)) (d.map Ce.v).toArray (q.map λf=>(f.1,a.eval f.2))=some (l.map Ce.v).toArray
 |[],d,k,h=>⟨d,h,rfl⟩
 |(i,c)::z,d,k,h=>by
  simp only[wU]at h;split at h
  .rename_i f x;cases g:(Nat.beq f.length e&&Nat.ble (i*e+f.length) d.length)
   .rw[g]at h;exact h.elim
   .rw[g]at h;simp only[bK]at g;obtain⟨m,o⟩:=g;have m:=bq m;have o:=lJ o;obtain⟨l,u,w⟩:=Jr p e z (mh d (i*e) f) k h;refine⟨l,u,?_⟩;obtain⟨v,t⟩:=pB x;have y:a.eval c=(ev b c).v:=p.eq rfl v;simp only[cK,Instr.fill,y,t,DE,dZ,m];rw[ae bE,<-w];congr 1;apply BD;intro j;have r:=Nv (f.map Ce.v) 0 (i*e) (d.map Ce.v).toArray j;rw[<-aab,Zi];have s:=BR d (i*e) f j o;rw[show((List.map Ce.v (mh d (i*e) f)).toArray)[j]? =((mh d (i*e) f)[j]?).map Ce.v by simp,s];rw[r];simp;split<;>split<;>first|rfl|(exfalso;omega)|(congr 1;omega)
  .exact h.elim
def Jy(B:uj d T)(D:jZ n b a)(N:Bx n b m){j:Nat}{z:Array (Nat×Operand)}(o:wr d T G n b m e f k (.buildSlice t j z)):Fh d n a m ⟨e,.buildSlice t j z,f,i,g,h⟩ k:=by
 intro q U ad Z Q
 subst U;simp only[wr]at o;split at o
 .rename_i L sh aa S;split at o
  .rename_i p H;cases r:(p.ux||!(Nat.ble (j*p.sh.length) 16777216))
   .rw[r]at o;simp only[br,aac]at r;have ab:=lJ r.2;have I:=(ka (B.yh S)).1;obtain⟨K,W,X,ac⟩:=vX B H r.1;have F:=λq=>kv B H r.1 q;obtain⟨l,y,s⟩:=Jr D _ _ _ _ o;cases C:Fx b l with
    |none=>rw[C]at y;exact y.elim
    |some u=>
    rw[C]at y;obtain⟨P,O⟩:=qu C D N;refine jM (w:=q) (c:=.c (.s (.mk q.heap.size 0 j j))) (v:=.slice (some ⟨q.heap.size,0,none⟩) j j) (b:={q with heap:=q.heap.push (.cells (bt l) L)}) P (O.push _) rfl ⟨rfl,rfl,rfl⟩ y ?_ Q;have E:(z.map λu=>(u.1,a.eval u.2)).toList=z.toList.map λu=>(u.1,a.eval u.2):=aL;have Y:K.cells.toList=(p.sh.map Sh.zero).map Ce.v:=by simp[W]
    have J:(p.sh.map Sh.zero).length=p.sh.length:=aL;have ju:=IZ (p.sh.map Sh.zero) K.cells Y j;rw[J]at ju;by_cases A:j*p.sh.length=0
    .have R:mH (p.sh.map Sh.zero) j=[]:=by
      apply List.length_eq_zero_iff.1;rw[rG,J,A]
     rw[R]at s;simp only[execOp,Instr.buildSlice,Sem.run_bind,run_underlying I,Result.andThen_ok,F,A];simp only[E];have M:(Array.map (λc=>(default:Value)) (Array.range 0))=#[]:=aL;simp at s⊢;rw[M,s];simp[newRow,bt]
    .simp only[execOp,Instr.buildSlice,Sem.run_bind,run_underlying I,Result.andThen_ok,F,A,rI];have:¬(j*p.sh.length>2^24):=V;simp only[this,rI,X,Sem.run_bind,Sem.run_pure,Result.andThen_ok,E];rw[ju];simp only[bt]at s⊢;simp[s,newRow]
   .rw[r]at o;exact o.elim
  .exact o.elim
 .exact o.elim
def QA(C:uj d T)(q:jZ n b a)(v:Bx n b m){c y:Operand}(j:wr d T G n b m e f k (.store t c y)):Fh d n a m ⟨e,.store t c y,f,i,g,h⟩ k:=by
 intro w R Y W K
 subst R;simp only[wr]at j;split at j
 .rename_i l s I Q;cases o:(s.ux||!(Nat.beq l.length s.sh.length))
  .rw[o]at j;simp only[mI]at j;simp only[br,aac]at o;split at j
   .rename_i X E;obtain⟨B,z⟩:=qu E q v;obtain⟨u,p,r,A,x,S,L,F⟩:=P7 B z j;have J:=bq o.2;obtain⟨H,D⟩:=pB I;have O:=λw=>kv C Q o.1 w;unfold Oper.wp;have M:(execOp a.eval ⟨e,.store t c y,f,i,g,h⟩).run d w=.ok .skip (w.setCells p r (l.map Ce.v)):=by
     have N:=Ef (d:=d) l p r w L;have U:a.eval c=.pointer (some ⟨p,r,none⟩):=S _ (q.ev c);have V:(a.eval y).cells=(l.map Ce.v).toArray:=by rw[q.eq rfl H,D]
     simp only[execOp,Instr.storeAt,U,Instr.sureAddr,storeVar,Sem.run_bind,Sem.run_pure,Result.andThen_ok,O,V,DE,dZ,J];simp[N]
    rw[M];exact K u .un undef _ (by rw[kW];exact F) A (by rw[kW];exact x) rfl (qU _ _ _ _)
   .exact j.elim
  .rw[o]at j;exact j.elim
 .exact j.elim
end
end Go.Vc
end
section
namespace Go.Vc
variable{b y f:Operand}{t:TypeId}{e:Array TypeId}
variable{c:Program}{T:TT}{G:List Nat}
section
variable{n:Nat}{g:Fr}{a:Act}{m:E}{k:Fr->SV->E->Prop}{i:Option Tmp}{h:TypeId}{o:String}{j:Array Edge}{l:Option (Nat×Bool)}
def OZ{b:Int}(e: -9223372036854775808<=b)(f:b<=9223372036854775807):IntKind.i64.wrap b=b:=by
 have a:((2:Int)^IntKind.i64.bits)=18446744073709551616:=bh;have c:((2:Int)^(IntKind.i64.bits -1))=9223372036854775808:=bh;have d:IntKind.i64.signed=true:=rfl;simp only[IntKind.wrap,a,c,d,NU,ar];split<;>omega
def aQ{b:Int}(a: -9223372036854775808<=b)(c:b<=9223372036854775807):cT b=b:=OZ a c
def KH(s:uj c T)(u:jZ n g a)(F:Bx n g m)(e:wr c T G n g m i h k (.makeSlice t b y)):Fh c n a m ⟨i,.makeSlice t b y,h,o,j,l⟩ k:=by
 intro q U ah ad J
 subst U;simp only[wr]at e;split at e
 .rename_i D sh ae p d Q Y hy;split at e
  .rename_i f z;cases r:f.ux
   .rw[r]at e;obtain⟨h0,h1,h2,h3,I⟩:=e;have S:=(ka (s.yh Q)).1;obtain⟨C,hz,ab,ag⟩:=vX s z r;obtain⟨ti,H,af,R,_⟩:=Gf s z r;have P:=λq=>kv s z r q;refine jM (w:=q) (c:=.c (.s (.mk q.heap.size 0 p.toNat d.toNat))) (v:=.slice (some ⟨q.heap.size,0,none⟩) p.toNat d.toNat) (b:={q with heap:=q.heap.push (.cells (bt (mH (f.sh.map Sh.zero) d.toNat)) D)}) u (F.push _) rfl ⟨rfl,rfl,rfl⟩ I ?_ J;have ac:C.cells.toList=(f.sh.map Sh.zero).map Ce.v:=by simp[hz]
    have B:(f.sh.map Sh.zero).length=f.sh.length:=aL;have ju:=IZ (f.sh.map Sh.zero) C.cells ac d.toNat;rw[B]at ju;have Z:a.eval b=.int .i64 p:=u.eq Y rfl;have aa:a.eval y=.int .i64 d:=u.eq hy rfl;have X:IntKind.i64.wrap p=p:=OZ V V;have W:IntKind.i64.wrap d=d:=OZ V V;have K:¬d<0:=V;have L:¬((f.bytes:Int)*d>2^48):=by
     have:(2:Int)^48=281474976710656:=bh;omega
    have M:¬p<0:=V;have N:¬p>d:=V;simp only[execOp,Instr.makeSlice,Sem.run_bind,run_underlying S,Result.andThen_ok,asInt,asIntOf,Z,aa,Sem.run_pure,R,X,W,H];simp only[K,L,M,N,decide_false,Vf,jm,rI];simp only[Sem.run_bind,Sem.run_pure,Result.andThen_ok,run_askRoom,P];by_cases A:d.toNat*f.sh.length=0
    .have O:mH (f.sh.map Sh.zero) d.toNat=[]:=by
      apply List.length_eq_zero_iff.1;rw[rG,B,A]
     rw[O];have E:(Array.map (λb=>(default:Value)) (Array.range 0))=#[]:=aL;simp[A,newRow,bt];rw[E]
    .simp only[A,rI,Sem.run_bind,ab,Result.andThen_ok,Sem.run_pure];rw[ju];simp[newRow]
   .rw[r]at e;exact e.elim
  .exact e.elim
 .exact e.elim
def KK:∀{c:List Sh}{k:List Ce->Prop},Um c k->∃l,k l
 |[],_,h=>⟨_,h⟩
 |_::_,_,⟨b,h⟩=>let⟨_,a⟩:=KK h;⟨_,a⟩
def Fy:∀{e:List Nat}{k:List AV->Prop},Sd T e k->∃l,k l
 |[],_,h=>⟨_,h⟩
 |t::e,k,h=>by
  simp only[Sd]at h;split at h
  .obtain⟨l,c⟩:=KK h;obtain⟨d,a⟩:=Fy c;exact⟨_,a⟩
  .obtain⟨b,c⟩:=h;obtain⟨d,a⟩:=Fy c;exact⟨_,a⟩
  .obtain⟨b,c⟩:=h;obtain⟨d,a⟩:=Fy c;exact⟨_,a⟩
  .exact h.elim
def Sr{t:Nat}{v:Value}{k:SV->Prop}(h:PT T t v k):∃b:SV,b.Is v/\k b:=by
 unfold PT at h;split at h
 .exact⟨.fU,trivial,h⟩
 .obtain⟨l,c,a⟩:=Fy h;exact⟨.Xd l,c,a⟩
 .obtain⟨l,c,a⟩:=KK h;exact⟨.agg l,c,a⟩
 .rename_i s _ _;obtain⟨b,c,a⟩:=h;exact⟨.c (s.mk b),c,a⟩
 .obtain⟨b,c,a⟩:=h;exact⟨.c (.s b),c,a⟩
 .exact h.elim
def KG(z:Us c G)(A:jZ n g a){q:Fr}(B:jZ n q a)(y:Bx n q m){d:Array Operand}{p:Nat}{first s:Array Value}(E:a.eval f=.func (.func p) first s)
 (H:G.elem p=true)(J:d.toList.all (λb=>(ev g b).jI)=true)
 (x:aN c p (first.toList++(d.toList.map λb=>(ev g b).v)++s.toList) m λv r=>Ad (Mo n q []) m r (PT T h v λb=>k q b r)):
 Fh c n a m ⟨i,.call ⟨.value f,d,e⟩,h,o,j,l⟩ k:=by
 intro w O V R K
 subst O
 have r:Hy c p=true:=List.all_eq_true.1 z p (by simpa using H)
 have C:d.map a.eval=(d.toList.map λb=>(ev g b).v).toArray:=by
  apply Array.toList_inj.1;simp[<-BN A J]
 unfold Hy at r
 split at r
 .rename_i u F
  simp only[bK,iN]at r
  have D:u.body.isNone=false:=by cases U:u.body<;>simp_all
  have L:(execOp a.eval ⟨i,.call ⟨.value f,d,e⟩,h,o,j,l⟩).run c w=
   .ok (.enter p (first.toList++(d.toList.map λb=>(ev g b).v)++s.toList).toArray) w:=by
   simp only[execOp,resolve,E,C,Deferred.ofValue,Sem.run_bind,Sem.run_pure,Result.andThen_ok,invoke,callFunc,run_program,F,r.1,D,jm,rI]
   simp
  unfold Oper.wp
  rw[L]
  show Calls c p _ w _
  refine(x w rfl).mono ?_
  rintro S Q ⟨v,rfl,M,t⟩
  obtain⟨N,t⟩:=mz t
  obtain⟨b,P,I⟩:=Sr t
  exact K q b v Q I B (y.dv N) P M
 .simp at r
def Sb(v:Us c G)(q:jZ n g a)(y:Bx n g m){r:Array Operand}(d:wr c T G n g m i h k (.call ⟨.value f,r,e⟩)):Fh c n a m ⟨i,.call ⟨.value f,r,e⟩,h,o,j,l⟩ k:=by
 simp only[wr,Tf]at d;split at d
 .exact d.elim
 rename_i D z;obtain⟨w,u⟩:=qu z q y;split at d
 .rename_i s first x t
  cases p:(G.elem s&&r.toList.all (λb=>(ev g b).jI))
  .rw[p]at d;exact d.elim
  .rw[p]at d;simp only[bK]at p;exact KG v q w u (q.eq t rfl) p.1 p.2 d
 .rename_i x t;cases p:(r.toList.all (λb=>(ev g b).jI))
  .rw[p]at d;exact d.elim
  .rw[p]at d;obtain⟨s,A,B,d⟩:=d;have C:a.eval f=.func (.func s) x.2.1 x.2.2:=by
    rw[<-A];exact q.eq t rfl
   exact KG v q w u C B p d
 .exact d.elim
def sC(a:c.underlying t=some (.int .i64))(e:Bool)(b:Int)(w:World):(Instr.checkKey e 10000 t (.int .i64 b)).run c w=.ok () w:=by
 have:Instr.checkKey e 10000 t (.int .i64 b)=Instr.checkKey e (9999+1) t (.int .i64 b):=rfl;rw[this];generalize 9999=d;simp[Instr.checkKey,run_underlying a]
def zD(b:Int):∀(a:List MapEntry)(l:List (Int×Int))(i:Nat),a.map (λe=>(e.key,e.val))=l.map (λp=>(Value.int .i64 p.1,Value.int .i64 p.2))->
 (Instr.findNow (.int .i64) (.int .i64 b) a i=some none/\uY l b=0/\(∀v,JF l b v=l++[(b,v)]))\/
 ∃j u,Instr.findNow (.int .i64) (.int .i64 b) a i=some (some (i+j,.int .i64 u))/\uY l b=u/\j<a.length/\l[j]? =some (b,u)/\∀v,JF l b v=l.set j (b,v)
 |[],[],i,_=>Or.inl ⟨rfl,rfl,λv=>rfl⟩
 |[],_::_,i,h=>by simp at h
 |_::_,[],i,h=>by simp at h
 |e::a,(j,u)::l,i,h=>by
  simp only[cK,List.cons.injEq,NX]at h;obtain⟨⟨r,s⟩,h⟩:=h;have k:Instr.sameNow (.int .i64) (.int .i64 b) e.key=some (b==j):=by rw[r];simp[Instr.sameNow]
  by_cases c:b=j
  .subst c;refine Or.inr ⟨0,u,?_,?_,aL,aL,?_⟩
   .simp[Instr.findNow,k,s]
   .simp[uY]
   .intro v;simp[JF]
  .have m:(b==j)=false:=by simpa using c
   rcases zD b a l (i+1) h with⟨d,f,g⟩|⟨q,t,d,f,g,o,p⟩
   .refine Or.inl ⟨?_,?_,?_⟩
    .simp[Instr.findNow,k,m,d]
    .simp[uY,c,f]
    .intro v;simp[JF,c,g]
   .refine Or.inr ⟨q+1,t,?_,?_,by simpa using g,by simpa using o,?_⟩
    .have n:i+1+q=i+(q+1):=V;simp[Instr.findNow,k,m,d,n]
    .simp[uY,c,f]
    .intro v;simp[JF,c,p]
def Om(f:jZ n g a)(e:Bx n g m){r:Option Operand}(d:wr c T G n g m i h k (.makeMap t r)):Fh c n a m ⟨i,.makeMap t r,h,o,j,l⟩ k:=by
 intro b q s Q p
 subst q;cases r with
 |some r=>exact d.elim
 |none=>
  refine jM (w:=b) (c:=.c (.mp b.heap.size)) (v:=.map (some b.heap.size)) (b:={b with heap:=b.heap.push (.map #[] 0)}) f (e.push _) rfl ⟨rfl,rfl,rfl⟩ d ?_ p;simp[execOp,Instr.makeMap]
def Ps(s:uj c T)(r:jZ n g a)(L:Bx n g m){z:Bool}(d:wr c T G n g m i h k (.lookup t b y z)):Fh c n a m ⟨i,.lookup t b y z,h,o,j,l⟩ k:=by
 intro e W ag ad S
 subst W;cases z with
 |true=>exact d.elim
 |false=>
  simp only[wr]at d;split at d
  .rename_i kt et sh ae B f V X Y;split at d
   .rename_i b1 b2 R P;obtain⟨u,⟨C,J,O,N⟩,Q⟩:=d;have F:=(BZ (s.yh V)).1;obtain⟨⟨K,hd,E⟩,_⟩:=nR (s.yh R);have M:K=.int .i64:=by
     unfold zY at E;split at E<;>simp_all
    subst M;obtain⟨A,Z,ac,ab⟩:=vX s P rfl;have aa:A=.int .i64 0:=by
     have:A.cells.toList=[Value.int .i64 0]:=Z;have U:=ab rfl;cases A<;>first|(simp[Value.cells]at this;done)|(simp[Value.cells]at this;rw[this.1,this.2])|exact absurd rfl (U _)
    have H:a.eval b=.map (some B):=r.eq X rfl;have I:a.eval y=.int .i64 f:=r.eq Y rfl;have D:(getObj B).run c e=.ok (.map C J) e:=by simp[getObj,Sem.run,O]
    refine jM (w:=e) (c:=.c (.i (uY u f))) (v:=.int .i64 (uY u f)) (b:=e) r L rfl (pu.az e) Q ?_ S;rcases zD f C.toList u 0 N with⟨p,q,_⟩|⟨af,ah,p,q,_⟩
    .simp[execOp,Instr.lookup,run_underlying F,H,I,D,sC hd,Instr.findKey,run_underlying hd,p,ac,aa,q]
    .simp[execOp,Instr.lookup,run_underlying F,H,I,D,sC hd,Instr.findKey,run_underlying hd,p,q]
   .exact d.elim
  .exact d.elim
def KI(L:uj c T)(s:jZ n g a)(K:Bx n g m){z:Operand}(r:wr c T G n g m i h k (.mapUpdate t b y z)):Fh c n a m ⟨i,.mapUpdate t b y z,h,o,j,l⟩ k:=by
 intro w hw ai ag Q
 subst hw;simp only[wr]at r;split at r
 .rename_i kt et sh ah e d v ht hx hy hz;split at r
  .rename_i b1 ae;obtain⟨Y,⟨p,q,E,x⟩,P⟩:=r;have U:=(BZ (L.yh ht)).1;obtain⟨⟨Z,hd,R⟩,_⟩:=nR (L.yh ae);have aa:Z=.int .i64:=by
    unfold zY at R;split at R<;>simp_all
   subst aa;have V:a.eval b=.map (some e):=s.eq hx rfl;have W:a.eval y=.int .i64 d:=s.eq hy rfl;have X:a.eval z=.int .i64 v:=s.eq hz rfl;have N:(getObj e).run c w=.ok (.map p q) w:=by simp[getObj,Sem.run,E]
   have S:∀I,(setObj e I).run c w=.ok () {w with heap:=w.heap.setIfInBounds e I}:=λI=>by simp[setObj,Sem.run,E]
   have M:e<w.heap.size:=(Array.getElem?_eq_some_iff.1 E).1;unfold Oper.wp;rcases zD d p.toList Y 0 x with⟨C,h2,D⟩|⟨f,aj,C,h2,D,J,h5⟩
   .have H:(execOp a.eval ⟨i,.mapUpdate t b y z,h,o,j,l⟩).run c w=.ok .skip {w with heap:=w.heap.setIfInBounds e (.map (p.push {key:=.int .i64 d,val:=.int .i64 v,born:=q}) (q+1))}:=by
     simp[execOp,Instr.mapUpdate,run_underlying U,V,W,X,N,sC hd,Instr.findKey,run_underlying hd,C,S]
    rw[H];have u:=mz (P {w with heap:=w.heap.setIfInBounds e (.map (p.push {key:=.int .i64 d,val:=.int .i64 v,born:=q}) (q+1))}.heap ?_ aL ?_)
    .exact Q g .un undef _ u.2 s (K.dv u.1) rfl ⟨rfl,rfl,rfl⟩
    .refine⟨_,_,by simp[M];exact⟨rfl,rfl⟩,?_⟩;rw[D];simp[x]
    .intro f F;simp[jQ (kE F)]
   .have ad:(p[f]?).map (·.key)=some (.int .i64 d):=by
     have:=nU (λA=>(A[f]?).map (·.1)) x;simpa[J]using this
    have af:(Instr.keyThatStays (.int .i64 d) (.int .i64 d)).run c w=.ok (.int .i64 d) w:=by
     simp[Instr.keyThatStays,Instr.sameBits]
    have H:(execOp a.eval ⟨i,.mapUpdate t b y z,h,o,j,l⟩).run c w=.ok .skip {w with heap:=w.heap.setIfInBounds e (.map (p.modify f λB=>{B with key:=.int .i64 d,val:=.int .i64 v}) q)}:=by
     simp only[execOp,Instr.mapUpdate,run_underlying U,V,W,X,N,sC hd,Instr.findKey,run_underlying hd,C,Sem.run_bind,Result.andThen_ok,Sem.run_pure,bU,ad,vt,af,S]
    rw[H];have u:=mz (P {w with heap:=w.heap.setIfInBounds e (.map (p.modify f λB=>{B with key:=.int .i64 d,val:=.int .i64 v}) q)}.heap ?_ aL ?_)
    .exact Q g .un undef _ u.2 s (K.dv u.1) rfl ⟨rfl,rfl,rfl⟩
    .refine⟨_,_,by simp[M];exact⟨rfl,rfl⟩,?_⟩;rw[h5];apply gV;intro A;have B:=nU (λ(q':List (Value×Value))=>q'[A]?) x;simp only[cJ]at B;simp only[cJ,jE,Xu,lH]at B⊢;by_cases O:f=A
     .subst O;have ac:f<Y.length:=(List.getElem?_eq_some_iff.1 J).1;have ab:f<p.size:=by simpa using D
      simp[ac,ab]
     .simp only[O,rI];exact B
    .intro f F;simp[jQ (kE F)]
  .exact r.elim
 .exact r.elim
def tv(l:List Ce)(z:O)(a f:Nat)(d:l.length=a*f)(w:World)(h:fQ w.heap z.D z.off l)(e:a<=z.len):
 (Builtin.firstCells f a z.v).run c w=.ok (bt l) w:=by
 cases z with
 |nil=>
  have b:a=0:=by simp at e;omega
  have:l=[]:=List.length_eq_zero_iff.1 (by rw[d,b];simp)
  subst this
  simp[Builtin.firstCells,O.v,bt]
 |zC g i j=>
  have b:a=0:=by simp at e;omega
  have:l=[]:=List.length_eq_zero_iff.1 (by rw[d,b];simp)
  subst this
  simp[Builtin.firstCells,O.v,bt,b,loadCells,loadCellsFrom]
 |mk b o i g=>
  simp only[Builtin.firstCells,O.v,<-d]
  exact PW l b o w h
def O0(a:List Ce)(z:Array Value)(b:z.toList=a.map Ce.v)(n:Nat):Builtin.zeroCells z n=bt (mH a n):=by
 have c:z.size=a.length:=by rw[<-Zh,b];simp
 rw[<-IZ a z b n,Builtin.zeroCells,c]
def Qd(l r:List Ce):bt (l++r)=bt l++bt r:=by simp[bt]
def Pr(H:uj c T)(C:jZ n g a)(L:Bx n g m){Z:Array Operand}(q:wr c T G n g m i h k (.call ⟨.builtin .append,Z,e⟩)):Fh c n a m ⟨i,.call ⟨.builtin .append,Z,e⟩,h,o,j,l⟩ k:=by
 intro d hw aM aE N
 subst hw;simp only[wr]at q;split at q
 .rename_i b y t aD am az;split at q
  .rename_i B sh aF e2 aN aG s z ht aA hx hy;split at q
   .rename_i f ac;cases u:(f.ux||Nat.beq f.bytes 0)
    .rw[u]at q;simp only[br]at u;obtain⟨A,Q,ar,ah,ai⟩:=q;have e1:Z=#[b,y]:=Array.toList_inj.1 (by simpa using am);have al:e=#[t,aD]:=Array.toList_inj.1 (by simpa using az);subst e1;subst al;have U:=(ka (H.yh ht)).1;have W:=(ka (H.yh aA)).1;obtain⟨zv,hz,ak,aK⟩:=vX H ac u.1;obtain⟨ti,hb,aJ,af,_⟩:=Gf H ac u.1;have S:=λd=>kv H ac u.1 d;have X:a.eval b=s.v:=C.eq hx rfl;have Y:a.eval y=z.v:=C.eq hy rfl;have E:(Builtin.lenOf z.v).run c d=.ok z.len d:=by cases z<;>simp[Builtin.lenOf,O.v,O.len]
     have aj:(f.sh.map Sh.zero).length=f.sh.length:=aL;rw[aj]at Q;simp only[aj]at ah ai;have M:∀r:World,r.heap=d.heap->(Builtin.firstCells f.sh.length z.len z.v).run c r=.ok (bt A) r:=λr ag=>
      tv A z z.len f.sh.length Q r (by rw[ag];exact ar) (ad _)
     have ay:=s.Xe;by_cases D:s.len+z.len<=s.cap
     .obtain⟨R,p⟩:=ah D;cases s with
      |nil=>
       simp only[O.OC,O.UD]at D R p;have J:z.len=0:=V;have:A=[]:=List.length_eq_zero_iff.1 (by rw[Q,J];simp);subst this;obtain⟨ab,p⟩:=mz p;refine jM (w:=d) (c:=.c (.s .nil)) (v:=.slice none 0 0) (b:=d) C L rfl (pu.az d) p ?_ N;have I:a.eval b=.slice none 0 0:=X;have F:=M d rfl;simp only[execOp,resolve,Sem.run_bind,Sem.run_pure,Result.andThen_ok,invoke,builtin,Builtin.append_,nk,cK,fD,I,Y];rw[J]at E F;simp[run_underlying U,run_underlying W,S,E,F]
      |zC K o0 sp=>
       simp only[O.RE,O.UC]at D R p;have J:z.len=0:=V;have:A=[]:=List.length_eq_zero_iff.1 (by rw[Q,J];simp);subst this;obtain⟨ab,p⟩:=mz p;refine jM (w:=d) (c:=.c (.s (.zC K o0 sp))) (v:=.slice (some ⟨K,o0,some sp⟩) 0 0) (b:=d) C L rfl (pu.az d) p ?_ N;have I:a.eval b=.slice (some ⟨K,o0,some sp⟩) 0 0:=X;have F:=M d rfl;simp only[execOp,resolve,Sem.run_bind,Sem.run_pure,Result.andThen_ok,invoke,builtin,Builtin.append_,nk,cK,fD,I,Y];rw[J]at E F;simp[run_underlying U,run_underlying W,S,E,F,bt,storeCells]
      |mk F K J aa=>
       simp only[O.gF,O.Oi,O.jB,O.mV]at D R p;obtain⟨ab,p⟩:=mz p;refine jM (w:=d) (c:=.c (.s (.mk F K (J+z.len) aa))) (v:=.slice (some ⟨F,K,none⟩) (J+z.len) aa) (b:=d.setCells F (K+J*f.sh.length) (A.map Ce.v)) C (by rw[kW];exact L.dv ab) rfl (qU _ _ _ _) (by rw[kW];exact p) ?_ N;have an:=Ef (d:=c) A F (K+J*f.sh.length) d R;have I:a.eval b=.slice (some ⟨F,K,none⟩) J aa:=X;simp only[execOp,resolve,Sem.run_bind,Sem.run_pure,Result.andThen_ok,invoke,builtin,Builtin.append_,nk,cK,fD,I,Y];simp[run_underlying U,run_underlying W,S,E,D,M d rfl,vD,bt,an]
     .obtain⟨ab,old,av,ax,p⟩:=ai V;have aH:=growslice_fits (need:=s.len+z.len) (old:=s.cap) (bytes:=f.bytes) V ab;have K:f.bytes≠0:=λB=>by rw[B]at u;simp at u
      have aI:¬(((s.len+z.len:Nat):Int)>IntKind.i64.max/\f.bytes=0):=λhh=>K hh.2;have aw:∀r:World,r.heap=d.heap->(Builtin.firstCells f.sh.length s.len s.v).run c r=.ok (bt old) r:=λr ag=>
       tv old s s.len f.sh.length av r (by rw[ag];exact ax) (ad _)
      let I:Question:=.appendCap (s.len+z.len) s.cap B;let nc:=I.cut (d.tape d.drawn I);let J:World:={d with drawn:=d.drawn+1};have ap:s.len+z.len<=nc:=Nat.le_add_right _ _;refine jM (w:=d) (c:=.c (.s (.mk d.heap.size 0 (s.len+z.len) nc))) (v:=.slice (some ⟨d.heap.size,0,none⟩) (s.len+z.len) nc)
       (b:={J with heap:=d.heap.push (.cells (bt (old++A++mH (f.sh.map Sh.zero) (nc -(s.len+z.len)))) B)}) C (L.push _) rfl ⟨rfl,rfl,rfl⟩ (mz (p nc ap)).2 ?_ N
      have aC:zv.cells.toList=(f.sh.map Sh.zero).map Ce.v:=by simp[hz]
      have aa:=O0 (f.sh.map Sh.zero) zv.cells aC (nc -(s.len+z.len));have an:I.forced=false:=rfl;have aq:¬(Builtin.nextslicecap (s.len+z.len) s.cap*f.bytes>2^48):=by
       have:(2:Nat)^48=281474976710656:=bh;omega
      simp only[execOp,resolve,Sem.run_bind,Sem.run_pure,Result.andThen_ok,invoke,builtin,Builtin.append_,nk,cK,fD,X,Y];have F:=aw J rfl;have R:=M J rfl;rw[ay]at F⊢;simp only[lI,sq,ic,Sem.run_bind,run_underlying U,run_underlying W,Result.andThen_ok,S,Sem.run_pure,E,jm,rI,D,af,hb,false_or];simp only[K,and_false,rI,aq,Sem.run_bind,run_choose,an,jm,Result.andThen_ok,af,run_askRoom,F,Mj,Mp,R,ak,aa,newRow,run_newObj,Sem.run_pure];simp[Qd];rw[hb,ae V,ae (show¬(Question.appendCap (s.len+z.len) s.cap B).forced=true by simp[Question.forced])];have au:(Builtin.firstCells f.sh.length s.len (Value.slice s.cy s.len s.cap)).run c d.drew=.ok (bt old) d.drew:=F;have ao:(Builtin.firstCells f.sh.length z.len z.v).run c d.drew=.ok (bt A) d.drew:=R;simp only[af,Result.andThen_ok,au,ao,ak];have aB:Builtin.zeroCells zv.cells ((Question.appendCap (s.len+z.len) s.cap B).cut (d.tape d.drawn (Question.appendCap (s.len+z.len) s.cap B)) -(s.len+z.len))=bt (mH (f.sh.map Sh.zero) (nc -(s.len+z.len))):=aa;rw[aB];rfl
    .rw[u]at q;exact q.elim
   .exact q.elim
  .exact q.elim
 .exact q.elim
end
end Go.Vc
end
section
namespace Go.Vc
variable{b:Program}{T:TT}{G:List Nat}
section
variable{n:Nat}{c:Fr}{a:Act}{m:E}{k:Fr->SV->E->Prop}{d:Option Tmp}{e:TypeId}{h:String}{f:Array Edge}{g:Option (Nat×Bool)}
def Sc(M:uj b T)(t:jZ n c a)(U:Bx n c m){r:Array Operand}{K:Array TypeId}(i:wr b T G n c m d e k (.call ⟨.builtin .copy,r,K⟩)):Fh b n a m ⟨d,.call ⟨.builtin .copy,r,K⟩,e,h,f,g⟩ k:=by
 intro j hw ah ae W
 subst hw;simp only[wr]at i;split at i
 .rename_i q R ad ai V ab;split at i
  .rename_i ag sh af s z ht hx hy;split at i
   .rename_i J aa;cases u:J.ux
    .rw[u]at i;obtain⟨o,C,X,Y,y⟩:=i;obtain⟨Z,y⟩:=mz y;have S:r=#[q,R]:=Array.toList_inj.1 (by simpa using V);subst S;have E:K[0]? =some ad:=by rw[<-Xu,ab];rfl
     have F:=(ka (M.yh ht)).1;have D:=λj=>kv M aa u j;have H:a.eval q=s.v:=t.eq hx rfl;have I:a.eval R=z.v:=t.eq hy rfl;have A:(Builtin.lenOf z.v).run b j=.ok z.len j:=by cases z<;>simp[Builtin.lenOf,O.v,O.len]
     have l:(Builtin.firstCells J.sh.length (Nat.min z.len s.len) z.v).run b j=.ok (bt o) j:=
      tv o z _ J.sh.length C j X (Nat.min_le_left _ _)
     refine jM (w:=j) (c:=.c (.i (Nat.min z.len s.len:Nat))) (v:=.int .i64 (Nat.min z.len s.len:Nat)) (b:=j.setCells s.D s.off (o.map Ce.v)) t (by rw[kW];exact U.dv Z) rfl (qU _ _ _ _) (by rw[kW];exact y) ?_ W;cases s with
     |nil=>
      have B:Nat.min z.len O.nil.len=0:=aL;have:o=[]:=List.length_eq_zero_iff.1 (by rw[C,B];simp);subst this;have p:a.eval q=.slice none 0 0:=H;simp only[O.OC]at l⊢;simp only[execOp,resolve,Sem.run_bind,Sem.run_pure,Result.andThen_ok,invoke,builtin,Builtin.copy_,nk,cK,fD,p,I,E];simp only[lI,sq,ic,Sem.run_bind,run_underlying F,Result.andThen_ok,A,D,l,Sem.run_pure];rfl
     |zC L N Q=>
      have B:Nat.min z.len (O.zC L N Q).len=0:=aL;have:o=[]:=List.length_eq_zero_iff.1 (by rw[C,B];simp);subst this;have p:a.eval q=.slice (some ⟨L,N,some Q⟩) 0 0:=H;simp only[O.RE]at l⊢;simp only[execOp,resolve,Sem.run_bind,Sem.run_pure,Result.andThen_ok,invoke,builtin,Builtin.copy_,nk,cK,fD,p,I,E];simp only[lI,sq,ic,Sem.run_bind,run_underlying F,Result.andThen_ok,A,D,l,Sem.run_pure,bt];rfl
     |mk B L ac N=>
      have Q:=Ef (d:=b) o B L j Y;have p:a.eval q=.slice (some ⟨B,L,none⟩) ac N:=H;simp only[O.gF]at l⊢;simp only[execOp,resolve,Sem.run_bind,Sem.run_pure,Result.andThen_ok,invoke,builtin,Builtin.copy_,nk,cK,fD,p,I,E];simp only[lI,sq,ic,Sem.run_bind,run_underlying F,Result.andThen_ok,A,D,l,Sem.run_pure,bt,Q];rfl
    .rw[u]at i;exact i.elim
   .exact i.elim
  .exact i.elim
 .exact i.elim
def Qf(o:uj b T)(u:Us b G)(l:jZ n c a)(j:Bx n c m)(p:Oper)(i:wr b T G n c m p.dst p.type k p.op):Fh b n a m p k:=by
 obtain⟨d,v,e,h,f,g⟩:=p;cases v with
 |alloc t=>exact Qz o l j i
 |box t x=>exact Tk l j i
 |buildSlice t q r=>exact Jy o l j i
 |store t x y=>exact QA o l j i
 |makeSlice t x y=>exact KH o l j i
 |makeFunc r first q=>exact Ms l j i
 |makeMap t w=>exact Om l j i
 |lookup t x y q=>exact Ps o l j i
 |mapUpdate t x y z=>exact KI o l j i
 |call r=>
  obtain⟨s,t,x⟩:=r;cases s with
  |builtin q=>
   cases q with
   |append=>exact Pr o l j i
   |copy=>exact Sc o l j i
   |_=>exact i.elim
  |value q=>exact Sb u l j i
  |invoke w q=>exact i.elim
 |_=>exact i.elim
end
end Go.Vc
end
section
namespace Go.Vc
variable{b:Array Bool}{j:Nat}{L:List (Nat×(World->Prop))}{a:Act}{w:World}
section
variable{P:Program}{c:Array Oper}{Q:Exit->Act->World->Prop}{d:Region.Mode}{e:Nat->Nat->Bool}
def vr(P:Program)(d:Region.Mode)(c:Array Oper)(Q:Exit->Act->World->Prop)(e:Nat->Nat->Bool)(L:List (Nat×(World->Prop))):Nat->Array Bool->Act->World->Prop
 |0,b,a,w=>Region.ready d c b=[]/\Q .normal a w
 |h+1,b,a,w=>
  (Region.ready d c b=[]->Q .normal a w)/\
  ∀i∈Region.ready d c b,wpOp P c Q i (λg f=>(∀x∈L,e i x.1=false->x.2 w->x.2 f)/\vr P d c Q e L h (b.setIfInBounds i true) g f) a w
def Mh{L:List (Nat×(World->Prop))}:∀(f:Nat)(b:Array Bool)(a:Act)(w:World),vr P d c Q e L f b a w->wpAny P d c Q f b a w
 |0,_,_,_,h=>h
 |f+1,_,_,_,h=>⟨h.1,λk j=>wpOp_mono (λg l i=>Mh f _ g l i.2) (h.2 k j)⟩
def DC{L g:List (Nat×(World->Prop))}(j:∀x∈g,x∈L):∀(f:Nat)(b:Array Bool)(a:Act)(w:World),vr P d c Q e L f b a w->vr P d c Q e g f b a w
 |0,_,_,_,h=>h
 |f+1,_,_,_,h=>⟨h.1,λn l=>wpOp_mono (λk o i=>⟨λx m=>i.1 x (j x m),DC j f _ k o i.2⟩) (h.2 n l)⟩
def Hl(e:Nat->Nat->Bool)(b:Array Bool):Prop:=∀i,b.getD i false=true->∀r,e i r=true->b.getD r false=true
def Up(d:Region.Mode)(c:Array Oper)(e:Nat->Nat->Bool):Prop:=
 ∀(i r:Nat)(o:Oper),c[i]? =some o->e i r=true->∃a∈o.after,Region.binds d a=true/\(a.on=r\/e a.on r=true)
def wW(k:Up d c e)(l:Hl e b)(n:j∈Region.ready d c b){r:Nat}(p:e j r=true):b.getD r false=true:=by
 obtain⟨_,q,o,g⟩:=mem_ready.1 n;obtain⟨f,m,i,h⟩:=k j r q o p;have a:=g f m i;rcases h with rfl|h
 .exact a
 .exact l _ a r h
def Hl.set(k:Up d c e)(a:Hl e b)(l:j∈Region.ready d c b):Hl e (b.setIfInBounds j true):=by
 intro i f r h;by_cases g:j=i
 .subst g;exact getD_set_true (wW k a l h)
 .rw[getD_set_ne false g]at f;exact getD_set_true (a i f r h)
def Hi{i:Nat}{l:Oper}{F:Value}{S:World->Prop}(I:Up d c e)(C:c[i]? =some l)(O:∀(j:Nat)(R:Oper) q p,c[j]? =some R->R.op≠.select q p)
 (V:∀f a w,Q (.panic f) (a.put l.dst F) w->Q (.panic f) a w):
 ∀(r:Nat)(b:Array Bool)(a:Act)(w:World),Hl e b->
  (∀j m,c[j]? =some m->j≠i->b.getD j true=false->(∀f∈m.after,Region.binds d f=true->f.on≠i)->l.apart c m=true)->
  i∈Region.ready d c b->YieldsIf P c S l F a->S w->
  vr P d c Q e ((i,S)::L) r (b.setIfInBounds i true) (a.put l.dst F) w->vr P d c Q e L (r+1) b a w:=by
 intro r
 induction r with
 |zero=>
  intro b a w _ _ k y x H
  refine⟨λh=>(by rw[h]at k;cases k),λj n=>?_⟩
  by_cases g:j=i
  .subst g;exact y.wpOp C x ⟨λz _ _ h=>h,H⟩
  .have:=ready_mono n g
   rw[H.1]at this
   cases this
 |succ r ih=>
  intro b a w J K k y x H
  refine⟨λh=>(by rw[h]at k;cases k),λj n=>?_⟩
  by_cases g:j=i
  .subst g;exact y.wpOp C x ⟨λz _ _ h=>h,DC (λz E=>ai _ E) _ _ _ _ H⟩
  .have u:=H.2 j (ready_mono n g)
   obtain⟨N,m,D,W⟩:=mem_ready.1 n
   have s:b.getD i false=false:=by
    have G:=(mem_ready.1 k).1;rcases aW i b.size with A|A
    .simp[A]at G⊢;exact G
    .simp[I5 A]
   have ad:∀f∈m.after,Region.binds d f=true->f.on≠i:=λf Y B Z=>by
    have u:=W f Y B;rw[Z,s]at u;cases u
   have X:e j i=false:=by
    cases B:e j i
    .rfl
    .have:=wW I J n B;rw[s]at this;cases this
   have U:=wpOp_putIf D (K j m D g N ad) (λq p=>O i l q p C) (λq p=>O j m q p D) V y u
   have aa:∀o t,c[o]? =some t->o≠i->(b.setIfInBounds j true).getD o true=false->
    (∀f∈t.after,Region.binds d f=true->f.on≠i)->l.apart c t=true:=λo t hk ab s ac=>by
    refine K o t hk ab ?_ ac
    by_cases M:j=o
    .subst M;exact N
    .rw[getD_set_ne true M]at s;exact s
   refine wpOp_mono (λT w' v=>⟨λz E=>v.2.1 z (ai _ E),
    ih (b.setIfInBounds j true) T w' (J.set I n) aa (ready_mono k (kE g)) v.1 (v.2.1 (i,S) bg X x) ?_⟩) U
   rw[Array.setIfInBounds_comm _ _ g]
   exact v.2.2
def Q9{f:Nat}(k:Region.ready d c b≠[])
 (j:∀i∈Region.ready d c b,wpOp P c Q i (λh g=>(∀x∈L,e i x.1=false->x.2 w->x.2 g)/\vr P d c Q e L f (b.setIfInBounds i true) h g) a w):
 vr P d c Q e L (f+1) b a w:=⟨λg=>absurd g k,j⟩
def Qe(f:Region.ready d c b=[])(h:Q .normal a w):
 ∀g,vr P d c Q e L g b a w
 |0=>⟨f,h⟩
 |_+1=>⟨λ_=>h,by rw[f];simp⟩
end
end Go.Vc
end
section
namespace Go.Vc
variable{o:Oper}{a:Act}{m:E}
variable{b:Program}{T:TT}{G:List Nat}{n:Nat}
def KX:Op->Bool
 | .alloc _| .box ..| .buildSlice ..| .store ..| .makeSlice ..| .makeMap ..| .lookup ..| .mapUpdate ..| .makeFunc ..=>true
 | .call ⟨.builtin .append,_,_⟩| .call ⟨.builtin .copy,_,_⟩=>true
 | .call ⟨.builtin _,_,_⟩=>false
 | .call _=>true
 |_=>false
def rZ(n:Nat):Option Nat->Bool
 |none=>true
 |some d=>Nat.blt d n
def KR(a:List Oper)(j:Nat):Option Nat:=
 match HQ a j with
 |some o=>o.dst
 |none=>none
def gd(e:List Oper)(a:Fr)(g:Option (Nat×Bool))(O9 b:Fr->Prop):Prop:=
 match g with
 |none=>O9 a
 |some (j,c)=>match KR e j with
  |none=>False
  |some d=>match ig a d with
   | .tt=>bif c then O9 a else b a
   | .ff=>bif c then b a else O9 a
   | .un=>b a
   | .c (.t x)=>(x=true->bif c then O9 ((d,.tt)::a)else b ((d,.tt)::a))/\(x=false->bif c then b ((d,.ff)::a)else O9 ((d,.ff)::a))
   |_=>False
def sk(b:Program)(T:TT)(G:List Nat)(n:Nat)(c:List Oper):List Oper->Fr->E->(Fr->E->Prop)->Prop
 |[],a,m,k=>k a m
 |o::jN,a,m,k=>
  bif rZ n o.dst then
   gd c a o.guard
    (λa=>bif KX o.op then wr b T G n a m o.dst o.type (λd x e=>sk b T G n c jN (tX d o.dst x) e k) o.op
     else rd T a m (λx=>sk b T G n c jN (tX a o.dst x) m k) o.op)
    (λa=>sk b T G n c jN (tX a o.dst .un) m k)
  else False
def zB:List Oper->List Nat
 |[]=>[]
 |o::r=>match o.dst with
  |some d=>d::zB r
  |none=>zB r
def mD(M:List Nat)(a b:Act):Prop:=∀t,t∉M->b.tmps.getD t undef=a.tmps.getD t undef
def mD.az(M:List Nat)(a:Act):mD M a a:=λ_ _=>rfl
def mD.trans{M:List Nat}{a b c:Act}(h:mD M a b)(k:mD M b c):mD M a c:=λt d=>(k t d).trans (h t d)
def mD.put{M:List Nat}{d:Option Nat}(hd:∀t,d=some t->t∈M)(v:Value)(a:Act):mD M a (a.put d v):=by
 cases d with
 |none=>exact mD.az M a
 |some d=>
  intro t c;have b:d≠t:=λe=>c (e▸hd d rfl);simp[Act.put,jQ b]
def Lb{d:Nat}(hd:o.dst=some d):∀(a:List Oper),o∈a->d∈zB a:=by
 intro a;induction a with
 |nil=>intro h;cases h
 |cons x r c=>
  intro h;rcases List.mem_cons.1 h with b|b
  .subst b;simp only[zB,hd];exact bg
  .have:=c b;unfold zB;cases x.dst with
   |none=>exact this
   |some e=>exact ai _ this
def DM{d:Option Nat}(h:rZ n d=true):∀t,d=some t->t<n:=by
 rintro t rfl;have:Nat.blt t n=true:=h;simpa[Nat.blt,Nat.succ_le_iff]using this
def IY(k:Array Oper){d:Fr}(f:jZ n d a)(e:Bx n d m)(o:Oper){O9 z:Fr->Prop}(h:gd k.toList d o.guard O9 z):
 (Region.wanted o (yielded k a.tmps)=true/\∃b,O9 b/\jZ n b a/\Bx n b m)\/
 (Region.wanted o (yielded k a.tmps)=false/\∃b,z b/\jZ n b a/\Bx n b m):=by
 unfold gd at h
 cases b:o.guard with
 |none=>
  rw[b]at h
  exact Or.inl ⟨by simp[Region.wanted,b],d,h,f,e⟩
 |some C=>
  obtain⟨r,v⟩:=C
  rw[b]at h
  simp only at h
  split at h
  .exact h.elim
  .rename_i g hd
   have y:(k[r]?).bind (·.dst)=some g:=by
    unfold KR at hd;rw[pI]at hd;have B:k.toList[r]? =k[r]? :=aL;rw[B]at hd;split at hd
    .rename_i i c;rw[c];exact hd
    .simp at hd
   have i:=f.aF g
   have w:∀j:Bool,a.tmps.getD g undef=.bool j->yielded k a.tmps r=some j:=by
    intro j l;have:a.tmps[g]? =some (.bool j):=by
     cases q:a.tmps[g]? with
     |none=>rw[zg,q]at l;simp[undef]at l
     |some t=>rw[zg,q]at l;simp at l;rw[l]
    simp[yielded,y,this]
   split at h
   .rename_i p
    rw[p]at i
    have c:=w true i
    cases v
    .exact Or.inr ⟨by simp[Region.wanted,b,c],d,h,f,e⟩
    .exact Or.inl ⟨by simp[Region.wanted,b,c],d,h,f,e⟩
   .rename_i p
    rw[p]at i
    have c:=w false i
    cases v
    .exact Or.inl ⟨by simp[Region.wanted,b,c],d,h,f,e⟩
    .exact Or.inr ⟨by simp[Region.wanted,b,c],d,h,f,e⟩
   .rename_i p
    rw[p]at i
    have c:yielded k a.tmps r=none:=by
     have s:a.tmps.getD g undef=undef:=i;rw[zg]at s;unfold yielded;rw[y];cases q:a.tmps[g]? with
     |none=>simp[q]
     |some t=>rw[q]at s;simp at s;subst s;simp[q,undef]
    exact Or.inr ⟨by simp[Region.wanted,b,c],d,h,f,e⟩
   .rename_i x p
    rw[p]at i
    have c:=w x i
    have u:∀j:Bool,x=j->jZ n ((g,if j then SV.tt else SV.ff)::d) a:=by
     rintro j rfl;refine⟨f.size,f.defers,λA=>?_⟩;simp only[ig];cases l:Nat.beq g A
     .exact f.aF A
     .have:=bq l;subst this;cases x<;>exact i
    obtain⟨s,t⟩:=h
    cases x
    .have t:=t rfl
     cases v
     .exact Or.inl ⟨by simp[Region.wanted,b,c],_,t,u false rfl,e.fU aL⟩
     .exact Or.inr ⟨by simp[Region.wanted,b,c],_,t,u false rfl,e.fU aL⟩
    .have s:=s rfl
     cases v
     .exact Or.inr ⟨by simp[Region.wanted,b,c],_,s,u true rfl,e.fU aL⟩
     .exact Or.inl ⟨by simp[Region.wanted,b,c],_,s,u true rfl,e.fU aL⟩
   .exact h.elim
def Ys(g:uj b T){c:Fr}(f:jZ n c a)(e:Bx n c m){k:SV->Prop}(h:rd T c m k o.op){w:World}(p:w.heap=m)
 {d:Act->World->Prop}{Q:Exit->Act->World->Prop}(j:∀x v,k x->x.Is v->d (a.put o.dst v) w):o.wp b a w d Q:=by
 obtain⟨x,v,i,q,l⟩:=Lk (P:=b) g f e o h
 unfold Oper.wp
 rw[l w (λr _=>by rw[p])]
 exact j x v i q
def uQ(l:uj b T)(s:Us b G)(c:Array Oper){Q:Exit->Act->World->Prop}{K:World}{H:Act}:
 ∀(jN:List Oper)(d:Fr)(m:E)(k:Fr->E->Prop)(a:Act)(w:World),(∀o∈jN,o∈c.toList)->sk b T G n c.toList jN d m k->jZ n d a->Bx n d m->w.heap=m->pu K w->
  mD (zB c.toList) H a->
  (∀g e f,k g f.heap->jZ n g e->Bx n g f.heap->pu K f->mD (zB c.toList) H e->Q .normal e f)->wpList b c Q jN a w
 |[],d,m,k,a,w,_,h,y,v,e,r,p,q=>by
  subst e;exact q d a w h y v r p
 |o::jN,d,m,k,a,w,I,h,y,v,e,r,p,q=>by
  simp only[sk]at h;cases hd:rZ n o.dst
  .rw[hd]at h;exact h.elim
  .rw[hd]at h;simp only[jH]at h;have z:=DM hd;have A:∀u,o.dst=some u->u∈zB c.toList:=λu N=>Lb N _ (I o bg);have B:=λS P=>I S (ai _ P);unfold wpList;rcases IY c y v o h with⟨D,g,t,j,i⟩|⟨D,g,O,j,i⟩
   .rw[an D];refine .inl ?_;cases J:KX o.op
    .simp only[J,mI]at t;refine Ys l j i t e λV U F C=>?_;exact uQ l s c jN _ m k _ w B F (j.put C z) (i.put _ _) e r (p.trans (mD.put A _ _)) q
    .simp only[J,jH]at t;refine Qf l s j i o t w e _ _ λW V U f F M L C R=>?_;exact uQ l s c jN _ _ k _ f B F (M.put C z) (L.put _ _) rfl (r.trans R) (p.trans (mD.put A _ _)) q
   .rw[ae (by rw[D];simp)];exact uQ l s c jN _ m k _ w B O (j.put (x:=.un) rfl z) (i.put _ _) e r (p.trans (mD.put A _ _)) q
end Go.Vc
end
section
namespace Go.Vc
variable{P:Program}{T:TT}{G:List Nat}{n:Nat}
def tZ:List Nat->Nat->Nat
 |[],_=>0
 |x::_,0=>x
 |_::r,n+1=>tZ r n
def lB:List Edge->Nat
 |[]=>0
 |e::r=>bif Region.binds .any e then 2^e.on|||lB r else lB r
def nW(a:List Nat):List Edge->Nat
 |[]=>0
 |e::r=>bif Region.binds .any e then(2^e.on|||tZ a e.on)|||nW a r else nW a r
def lg(a:List Nat):List Oper->List Nat->List Nat->Bool
 |[],[],[]=>true
 |o::d,p::e,b::c=>Nat.beq p (lB o.after.toList)&&Nat.beq b (nW a o.after.toList)&&lg a d e c
 |_,_,_=>false
def RH:Op->List Operand
 | .alloc _| .ready _| .waits _=>[]
 | .move x| .assign x| .box _ x| .load _ x| .nilCheck x| .unOp _ _ x| .convert _ _ x| .sliceToArrayPointer _ x| .makeInterface _ x
 | .makeChan _ x| .fieldAddr _ x _| .field _ x _| .range _ x| .next x _| .entry x| .typeAssert x _ _ _| .extract x _| .panic x| .recv _ x _=>[x]
 | .pick c a b=>[c,a,b]
 | .build _ b| .buildSlice _ _ b=>b.toList.map (·.2)
 | .store _ a v| .binOp _ _ a v _| .makeSlice _ a v| .indexAddr _ a v| .index _ a v| .lookup _ a v _| .mapEntry _ a v| .send a v=>[a,v]
 | .makeFunc _ first a=>first.toList++a.toList
 | .makeMap _ r=>r.toList
 | .slice _ x l h m=>[x]++l.toList++h.toList++m.toList
 | .mapUpdate _ m k v| .entryStore _ m k v| .insert _ m k v=>[m,k,v]
 | .call ⟨.value f,a,_⟩| .go ⟨.value f,a,_⟩| .defer ⟨.value f,a,_⟩=>f::a.toList
 | .call ⟨.invoke f _,a,_⟩| .go ⟨.invoke f _,a,_⟩| .defer ⟨.invoke f _,a,_⟩=>f::a.toList
 | .call ⟨.builtin _,a,_⟩| .go ⟨.builtin _,a,_⟩| .defer ⟨.builtin _,a,_⟩=>a.toList
 | .select a _=>(a.flatMap λc=>#[c.chan]++c.send.toArray).toList
def TP(a:Op):a.operands.toList=RH a:=by
 cases a<;>try (simp[Op.operands,RH];done)
 all_goals
  rename_i c
  obtain⟨b,d,e⟩:=c
  cases b<;>simp[Op.operands,RH,Call.operands]
def Jv(d:Nat):List Operand->Bool
 |[]=>false
 | .tmp t::r=>Nat.beq t d||Jv d r
 |_::r=>Jv d r
def OD(a:List Oper)(o:Oper)(d:Nat):Bool:=
 Jv d (RH o.op)||(match o.guard with
  |some (g,_)=>(match KR a g with|some t=>Nat.beq t d|none=>false)
  |none=>false)
def Of(a:List Oper)(x y:Oper):Bool:=
 (match x.dst with
  |some d=>!OD a y d&&(match y.dst with|some e=>!Nat.beq d e|none=>true)
  |none=>true)&&
 (match y.dst with
  |some d=>!OD a x d
  |none=>true)
def Xb:Op->Bool
 | .select ..=>true
 |_=>false
def zq(b:List Oper)(i:Nat)(a:Nat)(o:Oper):Nat->List Oper->List Nat->Bool
 |_,[],_=>true
 |_,_,[]=>true
 |j,x::c,p::d=>(Nat.beq j i||Nat.testBit p i||Nat.testBit a j||Of b o x)&&zq b i a o (j+1) c d
def Fm(a:List Oper)(b:List Nat):Nat->List Oper->List Nat->Bool
 |_,[],_=>true
 |_,_,[]=>true
 |i,o::e,c::d=>!Xb o.op&&(KX o.op||zq a i c o 0 a b)&&Fm a b (i+1) e d
def kN(done p i:Nat):Bool:=!(Nat.testBit done i)&&Nat.beq (p&&&done) p
def wN(done:Nat):Nat->List Oper->List Nat->Option Nat
 |_,[],_=>none
 |_,_,[]=>none
 |i,o::a,p::b=>bif kN done p i&&!(KX o.op)then some i else wN done (i+1) a b
def pJ(done:Nat):Nat->List Oper->List Nat->List Nat
 |_,[],_=>[]
 |_,_,[]=>[]
 |i,_::a,p::b=>bif kN done p i then i::pJ done (i+1) a b else pJ done (i+1) a b
def Lq(m a:E):List (Nat×Nat)->Prop->Prop
 |[],k=>k
 |(b,o)::r,k=>af a b o=af m b o/\Lq m a r k
def Dy(a:Nat)(m b:E):List (Nat×List (Nat×Nat))->Prop->Prop
 |[],k=>k
 |(r,c)::L,k=>bif Nat.testBit a r then Dy a m b L k else Lq m b c (Dy a m b L k)
def Oe:List Nat->(Nat->Prop)->Prop
 |[],_=>True
 |[i],f=>f i
 |i::r,f=>f i/\Oe r f
def oJ(P:Program)(T:TT)(G:List Nat)(n:Nat)(b:List Oper)(c d:List Nat):Nat->Nat->Fr->E->List (Nat×List (Nat×Nat))->(Fr->E->Prop)->Prop
 |0,done,a,m,_,k=>match pJ done 0 b c with
  |[]=>k a m
  |_=>False
 |e+1,done,a,m,L,k=>
  match wN done 0 b c with
  |some i=>match HQ b i with
   |some o=>bif rZ n o.dst then
    gd b a o.guard
     (λa=>rd T a m (λx=>oJ P T G n b c d e (done|||2^i) (tX a o.dst x) m ((i,SC T a o.op)::L) k) o.op)
     (λa=>oJ P T G n b c d e (done|||2^i) (tX a o.dst .un) m L k)
    else False
   |none=>False
  |none=>match pJ done 0 b c with
   |[]=>k a m
   |h=>Oe h λi=>match HQ b i with
    |some o=>bif rZ n o.dst then
     gd b a o.guard
      (λa=>wr P T G n a m o.dst o.type (λg x f=>Dy (tZ d i) m f L (oJ P T G n b c d e (done|||2^i) (tX g o.dst x) f L k)) o.op)
      (λa=>oJ P T G n b c d e (done|||2^i) (tX a o.dst .un) m L k)
     else False
    |none=>False
def np(r:Nat):∀(a:List Edge),Nat.testBit (lB a) r=true<->∃e∈a,Region.binds .any e=true/\e.on=r
 |[]=>by simp[lB]
 |e::a=>by
  have c:=np r a;simp only[lB];cases b:Region.binds .any e
  .simp only[mI,c,aV,exists_eq_or_imp,b];simp
  .simp only[jH,Uh,bQ,c,aV,exists_eq_or_imp,b,true_and,Nf,ar]
def yg(b:List Nat)(r:Nat):∀(a:List Edge),Nat.testBit (nW b a) r=true->∃e∈a,Region.binds .any e=true/\(e.on=r\/Nat.testBit (tZ b e.on) r=true)
 |[],h=>by simp[nW]at h
 |e::a,h=>by
  have i:=yg b r a;simp only[nW]at h;cases f:Region.binds .any e
  .simp only[f,mI]at h;obtain⟨c,g,d⟩:=i h;exact⟨c,ai _ g,d⟩
  .simp only[f,jH,Uh,bQ,Nf,ar]at h;rcases h with h|h
   .exact⟨e,bg,f,h⟩
   .obtain⟨c,g,d⟩:=i h;exact⟨c,ai _ g,d⟩
def lS(c:List Nat):∀{e:List Oper}{f a:List Nat},lg c e f a=true->∀(i:Nat)(o:Oper),e[i]? =some o->
 f[i]? =some (lB o.after.toList)/\tZ a i=nW c o.after.toList/\∃b,a[i]? =some b
 |[],[],[],_,i,o,h=>by simp at h
 |x::e,p::f,b::a,h,i,o,d=>by
  simp only[lg,bK]at h;obtain⟨⟨g,j⟩,k⟩:=h;cases i with
  |zero=>
   simp at d;subst d;exact⟨by simp[bq g],by simp[tZ,bq j],b,aL⟩
  |succ i=>
   have:=lS c k i o (by simpa using d);simpa[tZ]using this
 |[],[],_::_,h,_,_,_=>by simp[lg]at h
 |[],_::_,_,h,_,_,_=>by simp[lg]at h
 |_::_,[],_,h,_,_,_=>by simp[lg]at h
 |_::_,_::_,[],h,_,_,_=>by simp[lg]at h
def Jl(d:List Nat):∀{a:List Oper}{c b:List Nat},lg d a c b=true->c.length=a.length/\b.length=a.length
 |[],[],[],_=>⟨rfl,rfl⟩
 |x::a,p::c,e::b,h=>by
  simp only[lg,bK]at h;have:=Jl d h.2;simp[this.1,this.2]
 |[],[],_::_,h=>by simp[lg]at h
 |[],_::_,_,h=>by simp[lg]at h
 |_::_,[],_,h=>by simp[lg]at h
 |_::_,_::_,[],h=>by simp[lg]at h
end Go.Vc
end
section
namespace Go.Vc
variable{N a:Nat}{b:Array Bool}
variable{P:Program}{T:TT}{G:List Nat}{n:Nat}
def tJ{d:Nat}:∀{a:List Operand},Jv d a=false->d∉(a.filterMap λ| .tmp t=>some t|_=>none)
 |[],_=>aL
 |x::r,h=>by
  cases x with
  |tmp t=>
   simp only[Jv,br]at h;have b:=tJ h.2;have:t≠d:=λe=>by subst e;simp at h
   simp only[List.filterMap_cons,aV,vv];exact⟨λe=>this e.symm,b⟩
  |const v=>simpa using tJ (a:=r) (by simpa[Jv]using h)
  |global g=>simpa using tJ (a:=r) (by simpa[Jv]using h)
  |func f=>simpa using tJ (a:=r) (by simpa[Jv]using h)
def TD(a:Array Oper)(g:Nat):KR a.toList g=(a[g]?).bind (·.dst):=by
 unfold KR;rw[pI];have e:a.toList[g]? =a[g]? :=aL;rw[e];cases a[g]? <;>rfl
def Jj(b:Array Oper){o:Oper}{d:Nat}(h:OD b.toList o d=false):d∉o.looksAt b:=by
 simp only[OD,br]at h;unfold Oper.looksAt;rw[TP,List.mem_append,vv];refine⟨tJ h.1,?_⟩;have a:=h.2;cases c:o.guard with
 |none=>simp
 |some p=>
  obtain⟨g,f⟩:=p;rw[c]at a;simp only at a⊢;rw[TD]at a;cases hd:(b[g]?).bind (·.dst)with
  |none=>simp
  |some t=>
   rw[hd]at a;simp only at a;simp only[Option.toList_some,lG];intro e;subst e;simp at a
def Pm(b:Array Oper){x y:Oper}(h:Of b.toList x y=true):x.apart b y=true:=by
 simp only[Of,bK]at h;obtain⟨a,d⟩:=h;unfold Oper.apart;simp only[bK];constructor
 .cases i:x.dst with
  |none=>rfl
  |some f=>
   rw[i]at a;simp only[bK,iN]at a⊢;refine⟨?_,?_⟩
   .have:=Jj b a.1;simpa using this
   .have c:=a.2;cases e:y.dst with
    |none=>simp
    |some j=>
     rw[e]at c;simp only[iN]at c;simp only[vu,ne_eq,DF];intro g;subst g;simp at c
 .cases e:y.dst with
  |none=>rfl
  |some f=>
   rw[e]at d;simp only[iN]at d⊢;have:=Jj b d;simpa using this
def Dg(i:List Oper)(a d:Nat)(o:Oper):∀{g:List Oper}{k:List Nat}{c:Nat},zq i a d o c g k=true->∀(j:Nat)(x:Oper)(p:Nat),g[j]? =some x->k[j]? =some p->
 c+j=a\/Nat.testBit p a=true\/Nat.testBit d (c+j)=true\/Of i o x=true
 |[],_,_,_,j,x,p,h,_=>by simp at h
 |_::_,[],_,_,j,x,p,_,h=>by simp at h
 |y::g,q::k,c,h,j,x,p,f,e=>by
  simp only[zq,bK,bQ]at h;obtain⟨b,m⟩:=h;cases j with
  |zero=>
   simp at f e;subst f;subst e;rcases b with((b|b)|b)|b
   .exact Or.inl (by simpa using bq b)
   .exact Or.inr (Or.inl b)
   .exact Or.inr (Or.inr (Or.inl (by simpa using b)))
   .exact Or.inr (Or.inr (Or.inr b))
  |succ j=>
   have:=Dg i a d o m j x p (by simpa using f) (by simpa using e);have l:c+1+j=c+(j+1):=V;rw[l]at this;exact this
def wI(d:List Oper)(j:List Nat):∀{i:List Oper}{e:List Nat}{c:Nat},Fm d j c i e=true->∀(a:Nat)(o:Oper)(b:Nat),i[a]? =some o->e[a]? =some b->
 Xb o.op=false/\(KX o.op=true\/zq d (c+a) b o 0 d j=true)
 |[],_,_,_,a,o,b,h,_=>by simp at h
 |_::_,[],_,_,a,o,b,_,h=>by simp at h
 |y::i,q::e,c,h,a,o,b,g,f=>by
  simp only[Fm,bK,bQ,iN]at h;obtain⟨⟨l,m⟩,n⟩:=h;cases a with
  |zero=>simp at g f;subst g;subst f;exact⟨l,by simpa using m⟩
  |succ a=>
   have:=wI d j n a o b (by simpa using g) (by simpa using f);have k:c+1+a=c+(a+1):=V;rw[k]at this;exact this
def Ji(p d:Nat):Nat.beq (p&&&d) p=true<->∀r,Nat.testBit p r=true->Nat.testBit d r=true:=by
 constructor
 .intro h r a;have e:=bq h;rw[<-e,Nat.testBit_and]at a;simp only[bK]at a;exact a.2
 .intro h;have:p&&&d=p:=by
   apply Nat.eq_of_testBit_eq;intro r;rw[Nat.testBit_and];cases a:Nat.testBit p r
   .rfl
   .simp[h r a]
  rw[this];simp
structure NY(N done:Nat)(b:Array Bool):Prop where
 size:b.size=N
 XO:∀a,b.getD a false=Nat.testBit done a
def NY.un{done:Nat}(h:NY N done b)(c:a<N):b.getD a true=Nat.testBit done a:=by
 rw[<-h.XO a];have:a<b.size:=by rw[h.size];exact c
 simp[this]
def NY.set{done:Nat}(h:NY N done b)(c:a<N):NY N (done|||2^a) (b.setIfInBounds a true):=by
 refine⟨by simp[h.size],λj=>?_⟩;have d:a<b.size:=by rw[h.size];exact c
 rw[Uh,Nf];by_cases e:a=j
 .subst e;simp[d]
 .rw[getD_set_ne false e,h.XO j];simp[e]
def HY(d:Array Oper){q h r:List Nat}(n:lg h d.toList q r=true){done:Nat}(g:NY d.size done b)(a:Nat):
 a∈Region.ready .any d b<->∃o p,d[a]? =some o/\q[a]? =some p/\kN done p a=true:=by
 rw[mem_ready]
 constructor
 .rintro⟨m,o,c,s⟩
  have k:a<d.size:=(Array.getElem?_eq_some_iff.1 c).1
  have l:=(lS h n a o (by simpa using c)).1
  refine⟨o,_,c,l,?_⟩
  simp only[kN,bK,iN]
  refine⟨by rw[<-g.un k];exact m,(Ji _ _).2 λt e=>?_⟩
  obtain⟨f,j,i,rfl⟩:=(np t _).1 e
  rw[<-g.XO]
  exact s f (Array.mem_toList_iff.1 j) i
 .rintro⟨o,p,c,l,e⟩
  have k:a<d.size:=(Array.getElem?_eq_some_iff.1 c).1
  have m:=(lS h n a o (by simpa using c)).1
  rw[l]at m
  simp only[DF]at m
  subst m
  simp only[kN,bK,iN]at e
  refine⟨by rw[g.un k];exact e.1,o,c,λf j i=>?_⟩
  rw[g.XO]
  exact(Ji _ _).1 e.2 f.on ((np _ _).2 ⟨f,Array.mem_toList_iff.2 j,i,rfl⟩)
def Lc(done:Nat):∀{d:List Oper}{e:List Nat}{b a:Nat},a∈pJ done b d e<->∃j o p,a=b+j/\d[j]? =some o/\e[j]? =some p/\kN done p a=true
 |[],_,_,_=>by simp[pJ]
 |_::_,[],_,_=>by simp[pJ]
 |x::d,q::e,b,a=>by
  have h:=Lc done (d:=d) (e:=e) (b:=b+1) (a:=a);have k:(∃j o p,a=b+j/\(x::d)[j]? =some o/\(q::e)[j]? =some p/\kN done p a=true)<->
   ((a=b/\kN done q b=true)\/∃j o p,a=b+1+j/\d[j]? =some o/\e[j]? =some p/\kN done p a=true):=by
   constructor
   .rintro⟨j,o,p,rfl,g,f,c⟩
    cases j with
    |zero=>simp at f;subst f;exact Or.inl ⟨rfl,by simpa using c⟩
    |succ j=>exact Or.inr ⟨j,o,p,V,by simpa using g,by simpa using f,by rwa[show b+(j+1)=b+(j+1)from rfl]at c⟩
   .rintro(⟨rfl,c⟩|⟨j,o,p,rfl,g,f,c⟩)
    .exact⟨0,x,q,rfl,aL,aL,c⟩
    .exact⟨j+1,o,p,V,by simpa using g,by simpa using f,c⟩
  rw[k,<-h];simp only[pJ];cases c:kN done q b
  .simp
  .simp
def Jc(done:Nat):∀{d:List Oper}{e:List Nat}{c a:Nat},wN done c d e=some a->∃j o p,a=c+j/\d[j]? =some o/\e[j]? =some p/\kN done p a=true/\KX o.op=false
 |[],_,_,_,h=>by simp[wN]at h
 |_::_,[],_,_,h=>by simp[wN]at h
 |x::d,q::e,c,a,h=>by
  simp only[wN]at h;cases b:(kN done q c&&!(KX x.op))
  .rw[b]at h;obtain⟨j,o,p,rfl,f,g,i,k⟩:=Jc done h;exact⟨j+1,o,p,V,by simpa using f,by simpa using g,i,k⟩
  .rw[b]at h;simp at h;subst h;simp only[bK,iN]at b;exact⟨0,x,q,rfl,aL,aL,b.1,b.2⟩
def Nl:∀{l:List Nat}{f:Nat->Prop},Oe l f->∀a∈l,f a
 |[a],f,h,j,b=>by simp at b;subst b;exact h
 |a::c::r,f,h,j,b=>by
  rcases List.mem_cons.1 b with rfl|b
  .exact h.1
  .exact Nl h.2 j b
def Lr{m b:E}:∀{l:List (Nat×Nat)}{k:Prop},Lq m b l k->k/\∀q∈l,af b q.1 q.2=af m q.1 q.2
 |[],k,h=>⟨h,aL⟩
 |(e,o)::r,k,h=>by
  obtain⟨c,d⟩:=Lr h.2;refine⟨c,λq a=>?_⟩;rcases List.mem_cons.1 a with rfl|a
  .exact h.1
  .exact d q a
def Fa{c:Nat}{m g:E}:∀{L:List (Nat×List (Nat×Nat))}{k:Prop},Dy c m g L k->k/\∀x∈L,Nat.testBit c x.1=false->∀q∈x.2,af g q.1 q.2=af m q.1 q.2
 |[],k,h=>⟨h,aL⟩
 |(r,l)::L,k,h=>by
  simp only[Dy]at h;cases f:Nat.testBit c r
  .rw[f]at h;obtain⟨i,j⟩:=Lr h;obtain⟨d,e⟩:=Fa i;refine⟨d,λx a b=>?_⟩;rcases List.mem_cons.1 a with rfl|a
   .exact j
   .exact e x a b
  .rw[f]at h;obtain⟨d,e⟩:=Fa h;refine⟨d,λx a b=>?_⟩;rcases List.mem_cons.1 a with rfl|a
   .rw[f]at b;cases b
   .exact e x a b
def Zs(L:List (Nat×List (Nat×Nat)))(b:List (Nat×(World->Prop))):Prop:=
 ∀x∈b,(∀w,x.2 w)\/∃(a:List (Nat×Nat))(c:Nat×Nat->Option Value),(x.1,a)∈L/\x.2=λw=>∀q∈a,af w.heap q.1 q.2=c q
end Go.Vc
end
section
namespace Go.Vc
variable{a:Program}{T:TT}{G:List Nat}{n:Nat}
def OX(hT:uj a T)(hG:Us a G)(b:Array Oper)(U f:List Nat)(z:lg f b.toList U f=true)(ao:Fm b.toList U 0 b.toList f=true)
 {ag:Exit->Act->World->Prop}(hQ:∀N g w,¬ag (.panic N) g w){w0:World}{a0:Act}:
 ∀(F done:Nat)(D:Fr)(ac:E)(L:List (Nat×List (Nat×Nat)))(B:Fr->E->Prop)(M:List (Nat×(World->Prop)))(c:Array Bool)(g:Act)(w:World),
  oJ a T G n b.toList U f F done D ac L B->Zs L M->NY b.size done c->Hl (λi K=>Nat.testBit (tZ f i) K) c->jZ n D g->Bx n D ac->w.heap=ac->pu w0 w->
  mD (zB b.toList) a0 g->
  (∀s d k,B s k.heap->jZ n s d->Bx n s k.heap->pu w0 k->mD (zB b.toList) a0 d->ag .normal d k)->
  vr a .any b ag (λi K=>Nat.testBit (tZ f i) K) M F c g w:=by
 have H:Up .any b (λi K=>Nat.testBit (tZ f i) K):=by
  intro i K o d p;have X:=(lS f z i o (by simpa using d)).2.1;simp only[X]at p;obtain⟨e,he,hb,h⟩:=yg f K _ p;exact⟨e,Array.mem_toList_iff.1 he,hb,h⟩
 have aF:=Jl f z
 have av:∀(j:Nat)(o:Oper) cs r,b[j]? =some o->o.op≠.select cs r:=by
  intro j o cs r d e;obtain⟨_,_,bj,ay⟩:=lS f z j o (by simpa using d);have:=(wI _ _ ao j o bj (by simpa using d) ay).1;rw[e]at this;simp[Xb]at this
 have al:∀{done:Nat}{c:Array Bool},NY b.size done c->∀i,i∈Region.ready .any b c<->i∈pJ done 0 b.toList U:=by
  intro done c hD i;rw[HY b z hD i,Lc];constructor
  .rintro⟨o,R,d,O,p⟩;exact⟨i,o,R,V,by simpa using d,O,p⟩
  .rintro⟨j,o,R,e,d,O,p⟩;have:i=j:=V;subst this;exact⟨o,R,by simpa using d,O,p⟩
 have au:∀{done:Nat}{c:Array Bool},NY b.size done c->pJ done 0 b.toList U=[]->Region.ready .any b c=[]:=by
  intro done c hD h;apply List.eq_nil_iff_forall_not_mem.2;intro i m;rw[al hD i,h]at m;cases m
 intro F
 induction F with
 |zero=>
  intro done D ac L B M c g w h hL hD hC hR hB hw hs hk hq
  subst hw
  simp only[oJ]at h
  split at h
  .rename_i h0
   exact⟨au hD h0,hq D g w h hR hB hs hk⟩
  .exact h.elim
 |succ F Q=>
  intro done D ac L B M c g w h hL hD hC hR hB hw hs hk hq
  subst hw
  simp only[oJ]at h
  split at h
  · -- a reading is taken first
   rename_i i m
   obtain⟨j,o,R,e,d,O,p,aD⟩:=Jc done m
   have:i=j:=V
   subst this
   rw[pI,d]at h
   simp only at h
   have A:b[i]? =some o:=by simpa using d
   have aa:i<b.size:=(Array.getElem?_eq_some_iff.1 A).1
   have ab:i∈Region.ready .any b c:=(HY b z hD i).2 ⟨o,R,A,O,p⟩
   cases hd:rZ n o.dst
   .rw[hd]at h;exact h.elim
   .rw[hd]at h
    simp only[jH]at h
    have Y:=DM hd
    have Z:∀C,o.dst=some C->C∈zB b.toList:=λC ah=>Lb ah _ (iy d)
    have aq:∀j I,b[j]? =some I->j≠i->c.getD j true=false->(∀e∈I.after,Region.binds .any e=true->e.on≠i)->o.apart b I=true:=by
     intro j I ak aA ar aB;have az:j<b.size:=(Array.getElem?_eq_some_iff.1 ak).1;obtain⟨_,aE,bi,ap⟩:=lS f z i o d;rcases(wI _ _ ao i o bi d ap).2 with t|t
     .rw[aD]at t;cases t
     .have W:=(lS f z j I (by simpa using ak)).1;have u:tZ f i=bi:=by
       have:∀(l:List Nat)(i r:Nat),l[i]? =some r->tZ l i=r:=by
        intro l;induction l with
        |nil=>intro i r h;simp at h
        |cons ad l Q=>intro i r h;cases i with
         |zero=>simpa[tZ]using h
         |succ i=>simpa[tZ]using Q i r (by simpa using h)
       exact this f i bi ap
      rcases Dg _ _ _ _ t j I _ (by simpa using ak) W with e|e|e|e
      .exact absurd V aA
      .rw[bU]at e;obtain⟨q,y,hb,J⟩:=(np i _).1 e;exact absurd J (aB q (Array.mem_toList_iff.1 y) hb)
      .rw[bU,<-u]at e;have:=wW H hC ab e;rw[hD.XO]at this;rw[hD.un az,this]at ar;cases ar
      .exact Pm b e
    rcases IY b hR hB o h with⟨J,s,am,y,u⟩|⟨J,s,aj,y,u⟩
    .obtain⟨ad,aw,hx,hv,aC⟩:=Lk (P:=a) hT y u o am
     let ax:World->Prop:=λk=>∀q∈SC T s o.op,af k.heap q.1 q.2=af w.heap q.1 q.2
     refine Hi (S:=ax) H A av (λN g w hc=>absurd hc (hQ _ _ _)) F c g w hC aq ab (F:=aw) (Or.inl ⟨J,λk l=>aC k l⟩) (λq _=>rfl) ?_
     refine Q _ _ _ _ B _ _ _ w hx ?_ (hD.set aa) (hC.set H ab) (y.put hv Y) (u.put _ _) rfl hs (hk.trans (mD.put Z _ _)) hq
     intro W l
     rcases List.mem_cons.1 l with rfl|l
     .exact Or.inr ⟨_,λq=>af w.heap q.1 q.2,bg,rfl⟩
     .rcases hL W l with t|⟨As,N,X,h2⟩
      .exact Or.inl t
      .exact Or.inr ⟨As,N,ai _ X,h2⟩
    .refine Hi (S:=λ_=>True) H A av (λN g w hc=>absurd hc (hQ _ _ _)) F c g w hC aq ab (F:=undef) (Or.inr ⟨J,rfl⟩) trivial ?_
     refine Q _ _ _ _ B _ _ _ w aj ?_ (hD.set aa) (hC.set H ab) (y.put (x:=.un) rfl Y) (u.put _ _) rfl hs (hk.trans (mD.put Z _ _)) hq
     intro W l
     rcases List.mem_cons.1 l with rfl|l
     .exact Or.inl λ_=>trivial
     .exact hL W l
  .split at h
   .rename_i h0
    exact Qe (au hD h0) (hq D g w h hR hB hs hk) _
   .rename_i rs ax
    have ar:=Nl h
    refine Q9 ?_ ?_
    .intro e
     apply ax
     cases I:pJ done 0 b.toList U with
     |nil=>rfl
     |cons ad xs=>
      have:ad∈Region.ready .any b c:=(al hD ad).2 (by rw[I];exact bg)
      rw[e]at this
      cases this
    .intro i m
     have I:=ar i ((al hD i).1 m)
     obtain⟨o,R,A,O,p⟩:=(HY b z hD i).1 m
     have d:b.toList[i]? =some o:=by simpa using A
     have aa:i<b.size:=(Array.getElem?_eq_some_iff.1 A).1
     rw[pI,d]at I
     simp only at I
     cases hd:rZ n o.dst
     .rw[hd]at I;exact I.elim
     .rw[hd]at I
      simp only[jH]at I
      have Y:=DM hd
      have Z:∀C,o.dst=some C->C∈zB b.toList:=λC ah=>Lb ah _ (iy d)
      unfold wpOp
      simp only[A]
      rcases IY b hR hB o I with⟨J,s,am,y,u⟩|⟨J,s,aj,y,u⟩
      .rw[an J]
       refine .inl (Qf hT hG y u o am w rfl _ _ λaD ad aw k hx aq ap hv az=>?_)
       obtain⟨aA,aB⟩:=Fa hx
       refine⟨λW l aC ab=>?_,Q _ _ _ L B M _ _ k aA hL (hD.set aa) (hC.set H m) (aq.put hv Y) (ap.put _ _) rfl (hs.trans az) (hk.trans (mD.put Z _ _)) hq⟩
       rcases hL W l with t|⟨As,N,X,h2⟩
       .exact t k
       .rw[h2]at ab⊢
        intro q ak
        rw[aB _ X aC q ak,ab q ak]
      .rw[ae (by rw[J];simp)]
       exact⟨λW l _ ab=>ab,Q _ _ _ L B M _ _ w aj hL (hD.set aa) (hC.set H m) (y.put (x:=.un) rfl Y) (u.put _ _) rfl hs (hk.trans (mD.put Z _ _)) hq⟩
end Go.Vc
end
section
namespace Go.Vc
variable{M:List Nat}{a:Act}{s:Sh}{y:s.ty}
variable{P:Program}{T:TT}{G:List Nat}{b:Nat}
structure O1 where
 TH:List (Nat×List (Nat×Sh))
 UK:List (Nat×List (Nat×Sh))
 eB:List (Nat×List Nat)
def lk{α:Type}:List (Nat×α)->Nat->Option α
 |[],_=>none
 |(u,x)::r,t=>bif Nat.beq u t then some x else lk r t
def Dl:Code->Option Nat
 | .region id _ _=>some id
 | .seq a b=>match Dl a with
  |some i=>some i
  |none=>Dl b
 | .cond _ a b=>match Dl a with
  |some i=>some i
  |none=>Dl b
 | .block _ c=>Dl c
 | .loop c=>Dl c
 | .scope c=>Dl c
 |_=>none
def VK{α:Type}(l:List (Nat×α))(c:Code):Option α:=
 match Dl c with
 |some i=>lk l i
 |none=>none
def Hs:List (Nat×Sh)->Type
 |[]=>E->Prop
 |(_,s)::r=>s.ty->Hs r
def Ob:List (Nat×Sh)->Type
 |[]=>E->Nat
 |(_,s)::r=>s.ty->Ob r
def QK:(s:Sh)->SV->Option s.ty
 | .I,.c (.i b)=>some b
 | .U k,.c (.u c b)=>if k=c then some b else none
 | .T,.c (.t c)=>some c
 | .T,.tt=>some true
 | .T,.ff=>some false
 | .S,.c (.s x)=>some x
 | .P,.c (.p c o)=>some (c,o)
 | .P,.c (.bp _ c o)=>some (c,o)
 | .F,.c (.fn f a d)=>some (f,a,d)
 | .F,.c (.fv q)=>some q
 | .M,.c (.mp c)=>some c
 |_,_=>none
def Hv:(l:List (Nat×Sh))->Hs l->Fr->E->Prop
 |[],I,_,m=>I m
 |(t,s)::r,I,a,m=>match QK s (ig a t)with
  |some x=>Hv r (I x) a m
  |none=>False
def Og:(l:List (Nat×Sh))->Hs l->Ob l->Fr->E->Nat->Prop
 |[],I,μ,_,m,N=>I m/\μ m<N
 |(t,s)::r,I,μ,a,m,N=>match QK s (ig a t)with
  |some x=>Og r (I x) (μ x) a m N
  |none=>False
def Pj:(l:List (Nat×Sh))->Hs l->Fr->(Fr->(E->Prop)->Prop)->Prop
 |[],I,a,k=>k a I
 |(t,s)::r,I,a,k=>∀x:s.ty,Pj r (I x) ((t,.c (s.mk x))::a) k
def Pk:(l:List (Nat×Sh))->Hs l->Ob l->Fr->(Fr->(E->Prop)->(E->Nat)->Prop)->Prop
 |[],I,μ,a,k=>k a I μ
 |(t,s)::r,I,μ,a,k=>∀x:s.ty,Pk r (I x) (μ x) ((t,.c (s.mk x))::a) k
def nC:List Nat->Fr->Fr
 |[],a=>a
 |t::r,a=>(t,.fU)::nC r a
def oG:Code->List Nat
 | .region _ b _=>zB b.toList
 | .seq a b=>oG a++oG b
 | .cond _ a b=>oG a++oG b
 | .block _ c=>oG c
 | .loop c=>oG c
 |_=>[]
def pP(M:List Nat):List (Nat×Sh)->Bool
 |[]=>true
 |(t,_)::r=>uX t M&&pP M r
def WQ(x y:SV)(k:Prop):Prop:=x=y/\k
def aB(x:SV)(k:Prop):WQ x x k=k:=by simp[WQ]
def k8(A:O1)(c:Code):List Nat:=
 match VK A.eB c with
 |some K=>K
 |none=>[]
def Dh(b:Nat)(K:List Nat):Fr->List Nat
 |[]=>[]
 |(q,_)::r=>bif Nat.ble b q&&!uX q K then q::Dh b K r else Dh b K r
def uo(b:Nat)(K:List Nat)(a:Fr):Fr:=nC (Dh b K a) a
def Ul(a b:Fr):List Nat->Prop->Prop
 |[],k=>k
 |q::K,k=>WQ (ig b q) (ig a q) (Ul a b K k)
def Lj(c:Fr):Op->Option SV
 | .move x| .assign x=>match ev c x with
  | .fU=>none
  |y=>some y
 | .binOp d _ x y _=>match ev c x,ev c y with
  | .c (.i a),.c (.i b)=>match d with
   | .eql=>some (.c (.t (a==b)))
   | .neq=>some (.c (.t (a !=b)))
   | .lss=>some (.c (.t (decide (a<b))))
   | .leq=>some (.c (.t (decide (a<=b))))
   | .gtr=>some (.c (.t (decide (a>b))))
   | .geq=>some (.c (.t (decide (a>=b))))
   |_=>none
  |_,_=>none
 |_=>none
def qS(b:Nat):List Oper->Fr->Option Fr
 |[],a=>some a
 |o::r,a=>bif rZ b o.dst then
  match o.guard with
  |none=>match Lj a o.op with
   |some x=>qS b r (tX a o.dst x)
   |none=>none
  |some _=>none
  else none
def VM(A:O1)(b t:Nat):Code->Fr->Option Bool
 | .region _ e false,d=>match qS b e.toList d with
  |some a=>ly (ig a t)
  |none=>none
 | .seq (.region _ e false) (.cond (.tmp u) .skip c),d=>
  match VK A.UK (.cond (.tmp u) .skip c)with
  |some _=>none
  |none=>bif Nat.beq u t&&uX t (oG c)then
   match qS b e.toList d with
   |some a=>match ly (ig a t),VM A b t c a with
    |some x,some y=>some (x||y)
    |_,_=>none
   |none=>none
   else none
 |_,_=>none
def Yp(A:O1)(b:Nat)(d:Operand)(a c:Code)(e:Fr):Option (Nat×Bool):=
 match d,a with
 | .tmp t,.skip=>bif uX t (oG c)then
  match VM A b t c e with
  |some y=>some (t,y)
  |none=>none
  else none
 |_,_=>none
def uB(a:Fr)(c:Operand)(v:SV):Fr:=
 match c with
 | .tmp t=>(t,v)::a
 |_=>a
def UW:List Oper->List Nat
 |[]=>[]
 |o::r=>lB o.after.toList::UW r
def Td:List Nat->List Oper->List Nat
 |a,[]=>a
 |a,o::r=>Td (a++[nW a o.after.toList]) r
def qj:Code->Bool
 | .region _ b c=>!c||(lg (Td [] b.toList) b.toList (UW b.toList) (Td [] b.toList)&&Fm b.toList (UW b.toList) 0 b.toList (Td [] b.toList))
 | .seq a b=>qj a&&qj b
 | .cond _ a b=>qj a&&qj b
 | .block _ c=>qj c
 | .loop c=>qj c
 |_=>true
def vc(P:Program)(T:TT)(G:List Nat)(b:Nat)(A:O1):Code->Fr->E->(Exit->Fr->E->Prop)->Prop
 | .skip,c,m,Q=>Q .normal c m
 | .region id d e,c,m,Q=>
  bif e then oJ P T G b d.toList (UW d.toList) (Td [] d.toList) d.toList.length 0 c m [] (λc m=>Q .normal c m)
  else sk P T G b d.toList d.toList c m (λc m=>Q .normal c m)
 | .seq a g,c,m,Q=>match VK A.UK g with
  |none=>vc P T G b A a c m λ
   | .normal,e,d=>vc P T G b A g e d Q
   |h,e,d=>Q h e d
  |some l=>bif pP (oG a) l then∃K:Hs l,(vc P T G b A a c m λ
   | .normal,e,d=>Ul c e (k8 A g) (Hv l K e d)
   |h,e,d=>Q h e d)/\
   (Pj l K (nC (oG a) (uo b (k8 A g) c)) λe f=>∀d,f d->vc P T G b A g e d Q)else False
 | .cond f a g,c,m,Q=>match ev c f with
  | .tt=>vc P T G b A a c m Q
  | .ff=>vc P T G b A g c m Q
  | .c (.t x)=>match Yp A b f a g c with
   |some (t,y)=>Q .normal ((t,.c (.t (x||y)))::nC (oG g) c) m
   |none=>(x=true->vc P T G b A a (uB c f .tt) m Q)/\(x=false->vc P T G b A g (uB c f .ff) m Q)
  |_=>False
 | .block id f,c,m,Q=>vc P T G b A f c m λ
  | .exit i,e,d=>bif Nat.beq i id then Q .normal e d else Q (.exit i) e d
  |h,e,d=>Q h e d
 | .loop f,c,m,Q=>match VK A.TH f with
  |none=>False
  |some l=>bif pP (oG f) l then∃(I:Hs l)(μ:Ob l),Hv l I c m/\
   (Pk l I μ (nC (oG f) (uo b (k8 A f) c)) λe j μ'=>∀d,j d->vc P T G b A f e d λ
    | .normal,g,i=>Ul c g (k8 A f) (Og l I μ g i (μ' d))
    |h,g,i=>Q h g i)else False
 | .exit id,c,m,Q=>Q (.exit id) c m
 | .ret,c,m,Q=>Q .ret c m
 |_,_,_,_=>False
def mD.mono{b:List Nat}{c:Act}(h:mD M a c)(e:∀t∈M,t∈b):mD b a c:=λt f=>h t λd=>f (e t d)
def BK:∀(M:List Nat)(a:Fr)(t:Nat),(t∈M/\ig (nC M a) t=.fU)\/(t∉M/\ig (nC M a) t=ig a t)
 |[],_,_=>Or.inr ⟨aL,rfl⟩
 |u::M,a,t=>by
  simp only[nC,ig];cases d:Nat.beq u t
  .have f:u≠t:=λe=>by subst e;simp at d
   rcases BK M a t with⟨b,c⟩|⟨b,c⟩
   .exact Or.inl ⟨ai _ b,c⟩
   .exact Or.inr ⟨by simp only[aV,vv];exact⟨λe=>f e.symm,b⟩,c⟩
  .have:=bq d;subst this;exact Or.inl ⟨bg,rfl⟩
def Ac{d:Fr}{c:Act}(g:jZ b d a)(j:c.tmps.size=b)(hd:c.defers=[])(i:mD M a c):jZ b (nC M d) c:=by
 refine⟨j,hd,λt=>?_⟩;rcases BK M d t with⟨_,h⟩|⟨e,f⟩
 .rw[h];trivial
 .rw[f,i t e];exact g.aF t
def jZ.nC{c:Fr}{a:Act}(d:jZ b c a):∀(M:List Nat),jZ b (nC M c) a
 |[]=>d
 |t::M=>(jZ.nC d M).fU t
def Bx.nC{a:Fr}{m:E}(h:Bx b a m):∀(M:List Nat),Bx b (nC M a) m
 |[]=>h
 |t::M=>(Bx.nC h M).fU aL
def Nq{K:List Nat}{q:Nat}(d:b<=q)(c:q∉K):∀{a:Fr},q∈Dh b K a\/ig a q=.fU
 |[]=>Or.inr rfl
 |(u,x)::r=>by
  simp only[Dh,ig];cases i:Nat.beq u q
  .rcases Nq d c (a:=r)with h|h
   .left;cases(Nat.ble b u&&!uX u K)
    .exact h
    .exact ai _ h
   .exact Or.inr h
  .have:=bq i;subst this;have f:uX u K=false:=by
    cases g:uX u K
    .rfl
    .exact absurd (HN g) c
   have e:Nat.ble b u=true:=Xw d;simp[f,e]
def KJ{b c:Fr}:∀{K:List Nat}{k:Prop},Ul b c K k->(∀q∈K,ig c q=ig b q)/\k
 |[],k,h=>⟨aL,h⟩
 |q::K,k,h=>by
  obtain⟨d,e⟩:=KJ h.2;refine⟨λu a=>?_,e⟩;rcases List.mem_cons.1 a with rfl|a
  .exact h.1
  .exact d u a
def Bx.k8{K:List Nat}{c j:Fr}{v p:E}(h:Bx b c v)(r:Bx b j p)(s:∀q∈K,ig j q=ig c q):Bx b (Vc.nC M (uo b K c)) p:=by
 have i:∀{q d e l},lL (Vc.nC M (uo b K c)) q d e l->lL c q d e l/\lL j q d e l:=by
  intro q d e l a;have f:ig (Vc.nC M (uo b K c)) q=ig (uo b K c) q\/ig (Vc.nC M (uo b K c)) q=.fU:=by
   rcases BK M (uo b K c) q with⟨_,h⟩|⟨_,h⟩
   .exact Or.inr h
   .exact Or.inl h
  unfold lL at a;rcases f with f|f
  .rw[f]at a;unfold uo at a;rcases BK (Dh b K c) c q with⟨_,g⟩|⟨k,g⟩
   .rw[g]at a;simp at a
   .rw[g]at a;have t:b<=q:=h.key q d e l a;by_cases o:q∈K
    .refine⟨a,?_⟩;unfold lL;rw[s q o];exact a
    .rcases Nq (b:=b) t o (a:=c)with m|m
     .exact absurd m k
     .rw[m]at a;simp at a
  .rw[f]at a;simp at a
 exact⟨λq d e l a=>r.D q d e l (i a).2,λq w d e l m o u t k g=>h.Ol q w d e l m o u t (i k).1 (i g).1,λq d e l a=>h.key q d e l (i a).1⟩
def Sf{x:SV}(h:QK s x=some y):x.jI=true/\x.v=(s.mk y).v:=by
 unfold QK at h;split at h<;>first|(simp at h;subst h;exact⟨rfl,rfl⟩)|skip
 .split at h
  .rename_i a;subst a;simp at h;subst h;exact⟨rfl,rfl⟩
  .simp at h
 .simp at h
def Ln{d cy:Fr}{t:Nat}(g:jZ b d a)(c:jZ b cy a)(h:QK s (ig d t)=some y):jZ b ((t,.c (s.mk y))::cy) a:=by
 refine⟨c.size,c.defers,λu=>?_⟩;simp only[ig];cases i:Nat.beq t u
 .exact c.aF u
 .have:=bq i;subst this;have e:=g.aF t;obtain⟨j,k⟩:=Sf h;have f:=e.eq j;show _=_;rw[f,k];rfl
def SN:(l:List (Nat×Sh))->Hs l->Ob l->Fr->Fr->(E->Prop)->(E->Nat)->Prop
 |[],I,μ,b,c,a,μ'=>c=b/\a=I/\μ'=μ
 |(t,s)::r,I,μ,b,c,a,μ'=>∃x:s.ty,SN r (I x) (μ x) ((t,.c (s.mk x))::b) c a μ'
def Nm:∀{l:List (Nat×Sh)}{I:Hs l}{μ:Ob l}{b:Fr}{k:Fr->(E->Prop)->(E->Nat)->Prop},Pk l I μ b k->∀{fr' I' μ'},SN l I μ b fr' I' μ'->k fr' I' μ'
 |[],_,_,_,_,h,_,_,_,a=>by obtain⟨rfl,rfl,rfl⟩:=a;exact h
 |(t,s)::r,_,_,_,_,h,_,_,_,a=>by obtain⟨x,a⟩:=a;exact Nm (h x) a
def Sh.TM(s:Sh)(x:s.ty)(b e:Nat)(l:List Ce):SV.c (s.mk x)≠.box b e l/\SV.c (s.mk x)≠.zr b e l:=⟨aL,aL⟩
def Np{a:Act}{g:Fr}(i:jZ b g a):∀{l:List (Nat×Sh)}{I:Hs l}{μ:Ob l}{cy:Fr}{m:E}{N:Nat},jZ b cy a->Bx b cy m->Og l I μ g m N->
 ∃c d μ',SN l I μ cy c d μ'/\jZ b c a/\Bx b c m/\d m/\μ' m<N
 |[],I,μ,cy,_,_,f,e,h=>⟨cy,I,μ,⟨rfl,rfl,rfl⟩,f,e,h.1,h.2⟩
 |(t,s)::r,I,μ,cy,m,N,f,e,h=>by
  simp only[Og]at h;split at h
  .rename_i x p;obtain⟨c,d,μ',j,k,n,o⟩:=Np i (Ln i f p) (e.fU (s.TM x)) h;exact⟨c,d,μ',⟨x,j⟩,k,n,o⟩
  .exact h.elim
def No{a:Act}{g:Fr}(i:jZ b g a):∀{l:List (Nat×Sh)}{I:Hs l}{μ:Ob l}{cy:Fr}{m:E},jZ b cy a->Bx b cy m->Hv l I g m->
 ∃c d μ',SN l I μ cy c d μ'/\jZ b c a/\Bx b c m/\d m
 |[],I,μ,cy,_,f,e,h=>⟨cy,I,μ,⟨rfl,rfl,rfl⟩,f,e,h⟩
 |(t,s)::r,I,μ,cy,m,f,e,h=>by
  simp only[Hv]at h;split at h
  .rename_i x o;obtain⟨c,d,μ',j,k,n⟩:=No i (Ln i f o) (e.fU (s.TM x)) h;exact⟨c,d,μ',⟨x,j⟩,k,n⟩
  .exact h.elim
def Pn{a:Act}{i:Fr}(j:jZ b i a):∀{l:List (Nat×Sh)}{I:Hs l}{cy:Fr}{m:E}{k:Fr->(E->Prop)->Prop},jZ b cy a->Bx b cy m->Hv l I i m->Pj l I cy k->
 ∃c g,k c g/\jZ b c a/\Bx b c m/\g m
 |[],I,cy,_,_,e,d,h,f=>⟨cy,I,f,e,d,h⟩
 |(t,s)::r,I,cy,m,k,e,d,h,f=>by
  simp only[Hv]at h;split at h
  .rename_i x n;exact Pn j (Ln j e n) (d.fU (s.TM x)) h (f x)
  .exact h.elim
def Sy{l:Code}{Q:Exit->Act->World->Prop}(b:Nat->Act->World->Prop)
 (r:∀N a w,b N a w->l.wp P (Exit.then (λg k=>∃d,d<N/\b d g k) Q) a w):∀N a w,b N a w->(Code.loop l).wp P Q a w:=by
 have q:∀N a w,b N a w->∃M,b M a w/\∀c,c<M->¬b c a w:=by
  intro N;induction N using Nat.strongRecOn with
  |_ N j=>
   intro a w h;by_cases e:∃c,c<N/\b c a w
   .obtain⟨c,f,i⟩:=e;exact j c f a w i
   .exact⟨N,h,λc i f=>e ⟨c,i,f⟩⟩
 intro N a w o
 classical
 let μ:Act->World->Nat:=λa w=>if h:∃M,b M a w/\∀c,c<M->¬b c a w then Classical.choose h else 0
 have hμ:∀a w N,b N a w->b (μ a w) a w/\μ a w<=N:=by
  intro a w N h;have e:=q N a w h;have i:μ a w=Classical.choose e:=SE e;have n:=fL e;rw[i];refine⟨n.1,?_⟩;rcases aW N (Classical.choose e)with j|p
  .exact absurd h (n.2 N j)
  .exact p
 refine wp_loop (λa w=>∃N,b N a w) μ ⟨N,o⟩ ?_
 rintro a w ⟨N,h⟩
 refine Code.wp_mono ?_ (r (μ a w) a w (hμ a w N h).1)
 intro i g k m
 cases i with
 |normal=>
  obtain⟨d,j,f⟩:=m
  exact⟨⟨d,f⟩,nE (hμ g k d f).2 j⟩
 |_=>exact m
end Go.Vc
end
section
namespace Go.Vc
variable{i w:World}{j p:List Nat}{l a:Act}{f:Exit->Fr->E->Prop}{e:Exit}{b:E}
variable{g:Program}{h:TT}{G:List Nat}{d:Nat}{o:O1}
def kj(d:Nat)(i:World)(j:List Nat)(l:Act)(f:Exit->Fr->E->Prop):Exit->Act->World->Prop
 | .panic _,_,_=>False
 | .outgrown,_,_=>False
 |e,a,w=>∃b,jZ d b a/\Bx d b w.heap/\pu i w/\mD j l a/\f e b w.heap
def kj.mk{b:Fr}(g:(∀c,e≠.panic c)/\e≠.outgrown)
 (k:jZ d b a)(h:Bx d b w.heap)(o:pu i w)(m:mD j l a)(n:f e b w.heap):kj d i j l f e a w:=by
 cases e with
 |panic c=>exact absurd rfl (g.1 c)
 |outgrown=>exact absurd rfl g.2
 |_=>exact⟨b,k,h,o,m,n⟩
def kj.aT(h:kj d i j l f e a w):
 ((∀c,e≠.panic c)/\e≠.outgrown)/\∃b,jZ d b a/\Bx d b w.heap/\pu i w/\mD j l a/\f e b w.heap:=by
 cases e with
 |panic c=>exact h.elim
 |outgrown=>exact h.elim
 |_=>exact⟨⟨aL,aL⟩,h⟩
def kj.left(h:kj d i j l f e a w):kj d i (j++p) l f e a w:=by
 obtain⟨g,q,c,b,n,k,m⟩:=h.aT;exact kj.mk g c b n (k.mono (λt o=>bI _ o)) m
def kj.right(h:kj d i j l f e a w):kj d i (p++j) l f e a w:=by
 obtain⟨g,q,c,b,n,k,m⟩:=h.aT;exact kj.mk g c b n (k.mono (λt o=>eE _ o)) m
def Sq{f:Fr}{e:Op}{x:SV}{k:SV->Prop}(c:Lj f e=some x)(d:k x):KX e=false/\rd h f b k e:=by
 unfold Lj at c;split at c
 .split at c
  .simp at c
  .simp at c;subst c;exact⟨rfl,d⟩
 .split at c
  .simp at c
  .simp at c;subst c;exact⟨rfl,d⟩
 .rename_i o t y z l;split at c
  .rename_i a j g i;refine⟨rfl,?_⟩;simp only[rd,g,i];split at c<;>simp at c<;>subst c<;>exact d
  .simp at c
 .simp at c
def Eb(j:List Oper){b:E}{i:Fr->E->Prop}:∀{n:List Oper}{c e:Fr},qS d n c=some e->i e b->sk g h G d j n c b i
 |[],c,e,a,f=>by simp[qS]at a;subst a;exact f
 |o::s,c,e,a,f=>by
  simp only[qS]at a;simp only[sk];cases hd:rZ d o.dst
  .rw[hd]at a;simp at a
  .rw[hd]at a;simp only[jH]at a⊢;cases l:o.guard with
   |some p=>rw[l]at a;simp at a
   |none=>
    rw[l]at a;simp only[gd]at a⊢;split at a
    .rename_i x r;obtain⟨p,q⟩:=Sq (h:=h) (b:=b) (k:=λx=>sk g h G d j s (tX c o.dst x) b i) r (Eb j a f);rw[p];exact q
    .simp at a
def TQ(p:Nat){b:E}{f:Exit->Fr->E->Prop}:∀(k:Code)(n:Fr)(y:Bool),VM o d p k n=some y->(∀i,ly (ig i p)=some y->f .normal i b)->vc g h G d o k n b f
 | .region id A e,n,y,a,m=>by
  cases e
  .simp only[VM]at a;simp only[vc,mI];split at a
   .rename_i i q;exact Eb _ q (m i a)
   .simp at a
  .simp[VM]at a
 | .seq (.region id A false) (.cond (.tmp u) .skip k),n,y,a,m=>by
  simp only[VM]at a;split at a
  .simp at a
  .rename_i w;cases l:(Nat.beq u p&&uX p (oG k))
   .rw[l]at a;simp at a
   .rw[l]at a;simp only[jH]at a;simp only[bK]at l;have z:=bq l.1;subst z;split at a
    .rename_i i q;split at a
     .rename_i C B e r;simp at a;subst a;rw[vc,w];simp only;rw[vc];simp only[mI];refine Eb _ q ?_;rw[vc];have x:ev i (.tmp u)=(ig i u).nb:=rfl;rw[x];cases j:ig i u with
      |tt=>
       rw[j]at e;simp[ly]at e;subst e;simp only[SV.nb,vc];exact m i (by rw[j];simp[ly])
      |ff=>
       rw[j]at e;simp[ly]at e;subst e;simp only[SV.nb];exact TQ u k i B r (λs v=>m s (by simpa using v))
      |c s=>
       cases s with
       |t v=>
        rw[j]at e;simp[ly]at e;subst e;simp only[SV.nb,Yp,l.2,jH,r];exact m _ (by simp[ig,ly])
       |_=>rw[j]at e;simp[ly]at e
      |_=>rw[j]at e;simp[ly]at e
     .simp at a
    .simp at a
def Ua(hT:uj g h)(hG:Us g G)(au:g.follows .mixedOrders=true)(i:World):∀(D:Code),qj D=true->∀(l:Fr)(b:E)(f:Exit->Fr->E->Prop)(a:Act)(w:World),
 vc g h G d o D l b f->jZ d l a->Bx d l b->w.heap=b->pu i w->D.wp g (kj d i (oG D) a f) a w:=by
 intro D
 induction D with
 |skip=>
  intro hd l b f a w c k s x t
  subst x
  exact wp_skip ⟨l,k,s,t,mD.az _ _,c⟩
 |region id p z=>
  intro hd l b f a w c k s x t
  simp only[vc]at c
  cases z
  .simp only[mI]at c
   refine wp_region_list ?_
   exact uQ hT hG p p.toList l b (f .normal) a w (λ_ c=>c) c k s x t (mD.az _ _) λB I S j r v u q=>⟨B,r,v,u,q,j⟩
  .simp only[jH]at c
   simp only[qj,NS,Ve,bK]at hd
   refine wp_region_any au (Mh (e:=λy C=>Nat.testBit (tZ (Td [] p.toList) y) C) (L:=[]) _ _ _ _ ?_)
   have F:p.toList.length=p.size:=aL
   rw[F]at c
   refine OX hT hG p _ _ hd.1 hd.2 (λD a w hx=>hx) (w0:=i) (a0:=a) p.size 0 l b [] (f .normal) [] _ a _ c (λC hx=>by cases hx) ⟨aL,λy=>by simp[Vd];split<;>rfl⟩ (λy hi=>by simp[Vd]at hi;split at hi<;>simp at hi) k s x ⟨t.os,t.tape,t.output⟩ (mD.az _ _) λB I S j r v u q=>⟨B,r,v,u,q,j⟩
 |seq C U ac X=>
  intro hd l b f a w c k s x t
  simp only[vc]at c
  simp only[qj,bK]at hd
  refine wp_seq ?_
  split at c
  .refine Code.wp_mono ?_ (ac hd.1 l b _ a w c k s x t)
   intro e I S j
   obtain⟨p,B,r,v,u,z,j⟩:=j.aT
   cases e with
   |normal=>
    refine Code.wp_mono ?_ (X hd.2 B _ f I S j r v rfl u)
    intro e R aa j
    obtain⟨p,V,J,F,O,K,j⟩:=j.aT
    exact kj.mk p J F O ((z.mono (λH q=>bI _ q)).trans (K.mono (λH q=>eE _ q))) j
   |panic D=>exact absurd rfl (p.1 D)
   |outgrown=>exact absurd rfl p.2
   |exit y=>exact kj.mk (e:=.exit y) p r v u (z.mono (λH q=>bI _ q)) j
   |goto y=>exact kj.mk (e:=.goto y) p r v u (z.mono (λH q=>bI _ q)) j
   |ret=>exact kj.mk (e:=.ret) p r v u (z.mono (λH q=>bI _ q)) j
  .rename_i N hl
   cases ab:pP (oG C) N
   .rw[ab]at c;exact c.elim
   rw[ab]at c
   obtain⟨ad,h1,W⟩:=c
   refine Code.wp_mono ?_ (ac hd.1 l b _ a w h1 k s x t)
   intro e I S j
   obtain⟨p,B,r,v,u,z,j⟩:=j.aT
   cases e with
   |normal=>
    obtain⟨af,j⟩:=KJ j
    obtain⟨ag,K',h3,Y,Z,h5⟩:=Pn r (Ac (k.nC _) r.size r.defers z) (Bx.k8 s v af) j W
    refine Code.wp_mono ?_ (X hd.2 ag _ f I S (h3 _ h5) Y Z rfl u)
    intro e R aa j
    obtain⟨p,V,J,F,O,K,j⟩:=j.aT
    exact kj.mk p J F O ((z.mono (λH q=>bI _ q)).trans (K.mono (λH q=>eE _ q))) j
   |panic D=>exact absurd rfl (p.1 D)
   |outgrown=>exact absurd rfl p.2
   |exit y=>exact kj.mk (e:=.exit y) p r v u (z.mono (λH q=>bI _ q)) j
   |goto y=>exact kj.mk (e:=.goto y) p r v u (z.mono (λH q=>bI _ q)) j
   |ret=>exact kj.mk (e:=.ret) p r v u (z.mono (λH q=>bI _ q)) j
 |cond ad C U ac X=>
  intro hd l b f a w c k s x t
  simp only[vc]at c
  simp only[qj,bK]at hd
  have aj:∀{K:Bool},a.eval ad=.bool K->jZ d (uB l ad (if K then .tt else .ff)) a:=by
   intro K F;unfold uB;split
   .rename_i H;refine⟨k.size,k.defers,λR=>?_⟩;simp only[ig];cases Y:Nat.beq H R
    .exact k.aF R
    .have:=bq Y;subst this;cases K<;>exact F
   .exact k
  have ak:∀{C:SV},(∀K e N,C≠.box K e N/\C≠.zr K e N)->Bx d (uB l ad C) b:=by
   intro C hx;unfold uB;split
   .exact s.fU hx
   .exact s
  split at c
  .rename_i Z
   exact wp_cond_true (k.eq Z rfl) (Code.wp_mono (λ_ _ _ c=>c.left) (ac hd.1 l b f a w c k s x t))
  .rename_i Z
   exact wp_cond_false (k.eq Z rfl) (Code.wp_mono (λ_ _ _ c=>c.right) (X hd.2 l b f a w c k s x t))
  .rename_i K Z
   have aa:a.eval ad=.bool K:=k.eq Z rfl
   split at c
   .rename_i H y' J
    unfold Yp at J
    split at J
    .rename_i O
     cases ai:uX O (oG U)
     .rw[ai]at J;simp at J
     .rw[ai]at J
      simp only[jH]at J
      split at J
      .rename_i y0 ao
       simp at J
       obtain⟨rfl,rfl⟩:=J
       have am:a.tmps.getD O undef=.bool K:=aa
       refine wp_cond_split aa (λq=>?_) (λq=>?_)
       .subst x
        subst q
        refine wp_skip (kj.mk (e:=.normal) (b:=(O,.c (.t (true||y0)))::nC (oG U) l) ⟨aL,aL⟩ ?_ ((s.nC _).fU aL) t (mD.az _ _) c)
        have F:=Ac (M:=oG U) k k.size k.defers (mD.az _ a)
        refine⟨F.size,F.defers,λR=>?_⟩
        simp only[ig]
        cases Y:Nat.beq O R
        .exact F.aF R
        .have:=bq Y
         subst this
         simpa[SV.Is,SV.v,Ce.v]using am
       .subst q
        have hv:=TQ (g:=g) (h:=h) (G:=G) (o:=o) (d:=d) O (b:=b) (f:=λe B V=>e=.normal/\V=b/\ly (ig B O)=some y0) U l y0 ao (λB V=>⟨rfl,rfl,V⟩)
        refine Code.wp_mono ?_ (X hd.2 l b _ a w hv k s x t)
        intro e I S j
        obtain⟨p,B,r,v,u,z,rfl,ah,al⟩:=j.aT
        refine kj.mk (e:=.normal) (b:=(O,.c (.t (false||y0)))::nC (oG U) l) p ?_ (by rw[ah];exact(s.nC _).fU aL) u (z.mono (λH q=>eE _ q)) (by rw[ah];exact c)
        have F:=Ac (M:=oG U) k r.size r.defers z
        refine⟨F.size,F.defers,λR=>?_⟩
        simp only[ig]
        cases Y:Nat.beq O R
        .exact F.aF R
        .have:=bq Y
         subst this
         obtain⟨V,W⟩:=wJ al
         have h3:=(r.aF O).eq V
         rw[W]at h3
         simpa[SV.Is,SV.v,Ce.v]using h3
      .simp at J
    .simp at J
   .refine wp_cond_split aa (λq=>?_) (λq=>?_)
    .subst q
     exact Code.wp_mono (λ_ _ _ c=>c.left) (ac hd.1 _ b f a w (c.1 rfl) (aj aa) (ak aL) x t)
    .subst q
     exact Code.wp_mono (λ_ _ _ c=>c.right) (X hd.2 _ b f a w (c.2 rfl) (aj aa) (ak aL) x t)
  .exact c.elim
 |block id C J=>
  intro hd l b f a w c k s x t
  simp only[vc]at c
  refine wp_block (Code.wp_mono ?_ (J hd l b _ a w c k s x t))
  intro e I S j
  obtain⟨p,B,r,v,u,z,j⟩:=j.aT
  cases e with
  |exit y=>
   simp only[Exit.inBlock]
   simp only at j
   cases F:Nat.beq y id
   .rw[F]at j
    have q:y≠id:=λe=>by subst e;simp at F
    rw[ae q]
    exact kj.mk (e:=.exit y) p r v u z j
   .rw[F]at j
    rw[an (bq F)]
    exact kj.mk (e:=.normal) ⟨aL,aL⟩ r v u z j
  |normal=>exact kj.mk (e:=.normal) p r v u z j
  |panic D=>exact absurd rfl (p.1 D)
  |outgrown=>exact absurd rfl p.2
  |goto y=>exact kj.mk (e:=.goto y) p r v u z j
  |ret=>exact kj.mk (e:=.ret) p r v u z j
 |loop C J=>
  intro hd l b f a w c k s x t
  subst x
  simp only[vc]at c
  split at c
  .exact c.elim
  .rename_i N hl
   cases ab:pP (oG C) N
   .rw[ab]at c;exact c.elim
   rw[ab]at c
   obtain⟨O,μ,h0,h1⟩:=c
   let Y:Nat->Act->World->Prop:=λK I w=>∃B H μ',SN N O μ (nC (oG C) (uo d (k8 o C) l)) B H μ'/\jZ d B I/\Bx d B w.heap/\H w.heap/\μ' w.heap=K/\pu i w/\mD (oG C) a I
   obtain⟨aa,R,μ1,ap,al,ad,aj⟩:=No (μ:=μ) k (Ac (k.nC _) k.size k.defers (mD.az (oG C) a)) (Bx.k8 s s (λ_ _=>rfl)) h0
   refine Sy Y ?_ (μ1 w.heap) a w ⟨aa,R,μ1,ap,al,ad,aj,rfl,t,mD.az _ _⟩
   rintro K Z w ⟨B,H,μ',hi,r,v,ai,rfl,u,V⟩
   have ao:=Nm h1 hi w.heap ai
   refine Code.wp_mono ?_ (J hd B w.heap _ Z w ao r v rfl u)
   intro e I S j
   obtain⟨p,ag,q,z,F,W,j⟩:=j.aT
   cases e with
   |normal=>
    obtain⟨af,j⟩:=KJ j
    obtain⟨ac,X,μ3,aq,am,ah,ak,ar⟩:=Np q (Ac (k.nC _) q.size q.defers (V.trans W)) (Bx.k8 s z af) j
    exact⟨_,ar,ac,X,μ3,aq,am,ah,ak,rfl,F,V.trans W⟩
   |panic D=>exact absurd rfl (p.1 D)
   |outgrown=>exact absurd rfl p.2
   |exit y=>exact kj.mk (e:=.exit y) p q z F (V.trans W) j
   |goto y=>exact kj.mk (e:=.goto y) p q z F (V.trans W) j
   |ret=>exact kj.mk (e:=.ret) p q z F (V.trans W) j
 |exit id=>
  intro hd l b f a w c k s x t
  subst x
  exact wp_exit ⟨l,k,s,t,mD.az _ _,c⟩
 |ret=>
  intro hd l b f a w c k s x t
  subst x
  exact wp_ret ⟨l,k,s,t,mD.az _ _,c⟩
 |rangeFunc j k C U _ _=>intro _ l b f a w c;exact c.elim
 |scope C _=>intro _ l b f a w c;exact c.elim
 |label N=>intro _ l b f a w c;exact c.elim
 |goto N=>intro _ l b f a w c;exact c.elim
 |refuse s=>intro _ l b f a w c;exact c.elim
def um:Nat->List SV->Fr
 |_,[]=>[]
 |i,x::r=>(i,x)::um (i+1) r
def Ge(h:TT)(a:Fr)(b:E):List ResultVar->(List SV->Prop)->Prop
 |[],k=>k []
 | .tmp t::r,k=>bif (ig a t).jI then Ge h a b r λl=>k (ig a t::l)else False
 | .cell p t::r,k=>rd h a b (λx=>bif x.jI then Ge h a b r λl=>k (x::l)else False) (.load t (.tmp p))
def W7(h:TT)(c:List ResultVar)(a:Fr)(b:E)(R:Value->E->Prop):Prop:=
 Ge h a b c λ
  |[x]=>R x.v b
  |l=>R (.tuple (l.map SV.v).toArray) b
def Sx(g:Program)(h:TT)(G:List Nat)(o:O1)(d:Nat)(c:List ResultVar)(f:Code)(e:List SV)(b:E)(R:Value->E->Prop):Prop:=
 vc g h G d o f (um 0 e) b λ
  | .normal,a,b=>W7 h c a b R
  | .ret,a,b=>W7 h c a b R
  |_,_,_=>False
def Hw:∀(a:List SV)(i t:Nat),(t<i/\ig (um i a) t=.fU)\/(i<=t/\ig (um i a) t=a.getD (t -i) .fU)
 |[],i,t=>by
  rcases aW t i with h|h
  .exact Or.inl ⟨h,rfl⟩
  .exact Or.inr ⟨h,by simp[um,ig]⟩
 |x::r,i,t=>by
  simp only[um,ig];cases c:Nat.beq i t
  .have f:i≠t:=λe=>by subst e;simp at c
   rcases Hw r (i+1) t with⟨d,b⟩|⟨d,b⟩
   .exact Or.inl ⟨V,b⟩
   .refine Or.inr ⟨V,?_⟩;have e:t -i=(t -(i+1))+1:=V;rw[e,List.getD_cons_succ];exact b
  .have:=bq c;subst this;exact Or.inr ⟨ad _,aL⟩
def Lp(a:Array Value):ResultVar->Sem Value
 | .tmp t=>pure (a.getD t undef)
 | .cell p t=>do loadVar t (<-asAddr (a.getD p undef))
def QY(b:Func)(c:Array Value):results b c=(do
 let a<-b.results.mapM (Lp c)
 pure (if h:a.size=1 then a[0]else .tuple a)):=by
 unfold results
 congr 2
def HZ{i:Fr}{a:Act}(v:uj g h)(f:jZ d i a):∀(D:List ResultVar)(k:List SV->Prop)(w:World),Bx d i w.heap->Ge h i w.heap D k->
 ∃p,k p/\(D.mapM (Lp a.tmps)).run g w=.ok (p.map SV.v) w
 |[],k,w,_,b=>⟨[],b,aL⟩
 | .tmp t::A,k,w,j,b=>by
  simp only[Ge]at b;cases c:(ig i t).jI
  .rw[c]at b;exact b.elim
  .rw[c]at b;obtain⟨p,s,u⟩:=HZ v f A _ w j b;refine⟨_,s,?_⟩;have z:=(f.aF t).eq c;have r:Lp a.tmps (.tmp t)=pure (a.tmps.getD t undef):=rfl;simp only[Uf,Sem.run_bind,Sem.run_pure,Result.andThen_ok,u,cK,z,r]
 | .cell q t::A,k,w,j,m=>by
  obtain⟨E,B,n,z,b⟩:=Lk (P:=g) v f j ⟨none,.load t (.tmp q),0,"",#[],none⟩ m;have b:=b w (λC _=>rfl);cases x:E.jI
  .rw[x]at n;exact n.elim
  rw[x]at n;obtain⟨p,s,u⟩:=HZ v f A _ w j n;refine⟨_,s,?_⟩;have G:∃c o,a.tmps.getD q undef=.pointer (some ⟨c,o,none⟩):=by
   have l:=SV.TN (f.aF q);simp only[Ge,rd,ev]at m;split at m
   .rename_i c o y;rw[y]at l;exact⟨c,o,l⟩
   .rename_i C c o y;rw[y]at l;exact⟨c,o,l⟩
   .exact m.elim
  obtain⟨c,o,y⟩:=G;simp only[execOp,Instr.loadAt,Act.eval,y,Instr.sureAddr,Sem.run_bind,Sem.run_pure,Result.andThen_ok]at b;have F:(loadVar t ⟨c,o,none⟩).run g w=.ok B w:=by
   cases C:(loadVar t ⟨c,o,none⟩).run g w with
   |ok I H=>
    rw[C]at b;simp at b;rw[b.1,b.2]
   |halt e H=>rw[C]at b;simp at b
  have H:B=E.v:=z.eq x;have r:(Lp a.tmps (.cell q t)).run g w=.ok B w:=by
   simp only[Lp,y,Sem.run_bind,asAddr,Sem.run_pure,Result.andThen_ok,F]
  simp only[Uf,Sem.run_bind,Sem.run_pure,Result.andThen_ok,r,u,cK,H]
def xL(z:uj g h)(K:Us g G)(O:g.follows .mixedOrders=true){y:FuncId}{i:Func}{m:Code}{r:List ResultVar}{a:List SV}{R:Value->E->Prop}
 (N:g.funcs[y]? =some i)(M:i.body=some m)(P:i.ntmps=d)(S:i.results=r.toArray)(A:a.all SV.jI=true)(X:a.length<=d)(hd:qj m=true)
 (j:Sx g h G o d r m a b R):aN g y (a.map SV.v) b R:=by
 intro w U
 refine calls_of_wp N M ?_
 have L:jZ d (um 0 a) {tmps:=(a.map SV.v).toArray++Array.replicate (i.ntmps -(a.map SV.v).toArray.size) undef,defers:=[]}:=by
  refine⟨by simp[P];omega,rfl,λt=>?_⟩;rcases Hw a 0 t with⟨n,_⟩|⟨_,p⟩
  .omega
  .rw[p,Xi];rcases aW t a.length with k|s
   .have u:(a[t]).jI=true:=List.all_eq_true.1 A _ (List.getElem_mem k);have c:a.getD t .fU=a[t]:=by simp[k]
    rw[c];have f:((a.map SV.v).toArray++Array.replicate (i.ntmps -(a.map SV.v).toArray.size) undef).getD t undef=(a[t]).v:=by
     simp[Array.getElem?_append,k]
    rw[f];exact nK _
   .have c:a.getD t .fU=.fU:=by simp[cN s]
    rw[c];trivial
 have v:∀{q x e l},¬lL (um 0 a) q x e l:=by
  intro q x e l f;rcases Hw a 0 q with⟨n,_⟩|⟨_,p⟩
  .omega
  .unfold lL at f;rw[p,Xi]at f;rcases aW q a.length with k|s
   .have u:(a[q]).jI=true:=List.all_eq_true.1 A _ (List.getElem_mem k);have c:a.getD q .fU=a[q]:=by simp[k]
    rw[c]at f;rcases f with f|f<;>rw[f]at u<;>simp[SV.jI]at u
   .have c:a.getD q .fU=.fU:=by simp[cN s]
    rw[c]at f;simp at f
 have I:Bx d (um 0 a) b:=⟨λ_ _ _ _ j=>absurd j v,λ_ _ _ _ _ _ _ _ _ j=>absurd j v,λ_ _ _ _ j=>absurd j v⟩
 refine Code.wp_mono ?_ (Ua z K O w m hd _ b _ _ w j L I U (pu.az w))
 intro e s k c
 obtain⟨B,H,u,J,T,W,c⟩:=c.aT
 have C:∀(c:W7 h r H k.heap R),s.defers=[]/\∃D,(results i s.tmps).run g k=.ok D k/\∃F,Ending.returned D=.returned F/\pu w k/\R F k.heap:=by
  intro c;refine⟨u.defers,?_⟩;obtain⟨l,n,p⟩:=HZ z u r _ k J c;have Q:(results i s.tmps).run g k=.ok (if j:(l.map SV.v).toArray.size=1 then(l.map SV.v).toArray[0]else .tuple (l.map SV.v).toArray) k:=by
   rw[QY,S,Un];simp only[Sem.run_bind,Sem.run_map];rw[p];rfl
  refine⟨_,Q,_,rfl,T,?_⟩;cases l with
  |nil=>exact n
  |cons V l=>cases l with
   |nil=>exact n
   |cons Y l=>exact n
 cases e with
 |normal=>exact C c
 |ret=>exact C c
 |exit V=>exact c.elim
 |goto V=>exact c.elim
 |panic m=>exact absurd rfl (B.1 m)
 |outgrown=>exact absurd rfl B.2
end Go.Vc
end
section
namespace Go.Vc
abbrev vi(n:Int):Value:=.int .i64 n
abbrev vb(b:Bool):Value:=.bool b
abbrev vp(b o:Nat):Value:=.pointer (some ⟨b,o,none⟩)
def Oh(f:Func):Code:=
 match f.body with
 |some c=>c
 |none=>.skip
end Go.Vc
end
section
namespace Go.Vc
variable{a p:Prop}{m c d:E}{b o k f n:Nat}{v:Value}{l:List Nat}{s:O}{P:Program}{K e:Value->E->Prop}
structure J(m c:E):Prop where
 size:m.size<=c.size
 same:∀b,b<m.size->c[b]? =m[b]?
def J.az(m:E):J m m:=⟨ad _,λ_ _=>rfl⟩
def J.trans{a b c:E}(h:J a b)(k:J b c):J a c:=
 ⟨bH h.size k.size,λi d=>(k.same i (aO d h.size)).trans (h.same i d)⟩
def J.push(m:E)(o:Obj):J m (m.push o):=
 ⟨aL,λb a=>by rw[mM,ae V]⟩
def J.aK{a:E}(h:J a m)(o:Obj):J a (m.push o):=h.trans (J.push m o)
def J.ah{a:E}(h:J a m)(d:a.size<=b)(o:Nat)(l:List Ce):J a (ah m b o l):=
 ⟨by rw[aw];exact h.size,λj c=>by rw[bd l m b o V];exact h.same j c⟩
def J.af(h:J m c)(a:af m b o=some v):af c b o=some v:=by
 rw[aJ (h.same b (mf a))];exact a
def J.iB(h:J m c){l:List Ce}(e:fQ m b o l):fQ c b o l:=λi a d=>h.af (e i a d)
def cE.ext(h:J m c){e:Nat}{l:List Ce}(a:cE m b e l):cE c b e l:=by
 unfold cE at*;rw[h.same b (Array.getElem?_eq_some_iff.1 a).1];exact a
structure eT{α:Type}(m:E)(sz:Nat)(R:List Ce->α->Prop)(s:O)(l:List α):Prop where
 len:s.len=l.length
 cap:s.len<=s.cap
 gT:s.len<=9223372036854775807
 iB:∀(k:Nat)(x:α),l[k]? =some x->∃cs,R cs x/\fQ m s.D (s.off+k*sz) cs
def eT.mono{α:Type}{d:Nat}{R b:List Ce->α->Prop}{l:List α}(h:eT m d R s l)(j:J m c)(g:∀a x,R a x->b a x):eT c d b s l:=
 ⟨h.len,h.cap,h.gT,λk x i=>let⟨a,e,f⟩:=h.iB k x i;⟨a,g _ _ e,j.iB f⟩⟩
def Ut(a:List Ce)(n:Int):Prop:=a=[.i n]
abbrev ap(m:E)(s:O)(l:List Int):Prop:=eT m 1 Ut s l
def ap.aF{l:List Int}(h:ap m s l){x:Int}(a:l[k]? =some x):af m s.D (s.off+k*1)=some (vi x):=by
 obtain⟨c,rfl,b⟩:=h.iB k x a;exact b 0 (.i x) rfl
def ap.ext(a:J m c){l:List Int}(h:ap m s l):ap c s l:=h.mono a λ_ _ h=>h
def dB{α:Type}{l:List α}(h:k<l.length):∃x,l[k]? =some x:=⟨l[k],by simp[h]⟩
def cG{α:Type}(l:List α)(k:Nat)(h:k<l.length:=by(omega)):∃x,l[k]? =some x:=dB h
def oh(x:a)(h:a->p:=by(omega)):p:=h x
def O8{b:Prop}(x:a)(y:b)(h:a->b->p:=by(omega)):p:=h x y
def sx(h:a=False:=by(simp))(x:a):p:=(h▸x:False).elim
def av{α:Type}{l:List α}{x:α}(h:l[k]? =some x):k<l.length:=(List.getElem?_eq_some_iff.1 h).1
def aU{α:Type}{l:List α}{x:α}(h:l[k]? =some x):l.take (k+1)=l.take k++[x]:=by
 rw[List.take_add_one,h];rfl
def bY{α:Type}{l:List α}(h:l.length<=k):l.take k=l:=nD h
def Ho(P:Program)(f:Nat)(a:List Value)(m:E)(v:Value):Prop:=aN P f a m λb c=>b=v/\J m c
def aN.post{a:List Value}(h:aN P f a m K)(b:∀v c,K v c->e v c):aN P f a m e:=h.mono b
def Ho.then{a:List Value}(h:Ho P f a m v)(d:∀c,J m c->K v c):aN P f a m K:=
 h.mono λ_ _⟨b,e⟩=>b▸d _ e
def O.BA{t:O}:s.v=t.v<->s=t:=by
 refine⟨λh=>?_,λh=>h▸rfl⟩;cases s<;>cases t<;>simp_all [O.v]
def J.dv(h:J m c)(d:∀b∈l,b<m.size):eG l m c:=λb a=>h.same b (d b a)
def J.lt(h:J m c)(a:b<m.size):b<c.size:=aO a h.size
def J.da(h:J m c)(a:Vc.af m b o=some v):Vc.af c b o=Vc.af m b o:=by rw[h.af a,a]
def kC(h:k<n)(a:n<=9223372036854775807):cT ((k:Int)+1)=((k+1:Nat):Int):=by rw[aQ V V];rfl
def Dr(h:k<n):((n:Int) -((k+1:Nat):Int)).toNat<((n:Int) -(k:Int)).toNat:=V
def dU(g:n<=9223372036854775807){d:(Int->E->Prop)->(Int->E->Nat)->Int->E->Prop}(Q:Nat->E->Prop)(e:Q 0 m)
 (h:∀(k:Nat)(a:E)(I:Int->E->Prop)(μ:Int->E->Nat),k<=n->Q k a->
  (k<n->∀c,Q (k+1) c->I (cT ((k:Int)+1)) c/\μ (cT ((k:Int)+1)) c<μ k a)->d I μ k a):
 ∃(I:Int->E->Prop)(μ:Int->E->Nat),I 0 m/\∀i a,I i a->d I μ i a:=by
 refine⟨λi c=>∃k:Nat,i=k/\k<=n/\Q k c,λi _=>(n -i).toNat,⟨0,rfl,dN _,e⟩,?_⟩
 rintro i a ⟨k,rfl,f,j⟩
 refine h k a _ _ f j λb c l=>?_
 rw[kC b g]
 exact⟨⟨k+1,rfl,b,l⟩,Dr b⟩
def eA{σ:Type}(l:n<=9223372036854775807){f:σ}{e:(σ->Int->E->Prop)->(σ->Int->E->Nat)->σ->Int->E->Prop}(Q:Nat->σ->E->Prop)(g:Q 0 f m)
 (h:∀(k:Nat)(s:σ)(a:E)(I:σ->Int->E->Prop)(μ:σ->Int->E->Nat),k<=n->Q k s a->
  (k<n->∀b c,Q (k+1) b c->I b (cT ((k:Int)+1)) c/\μ b (cT ((k:Int)+1)) c<μ s k a)->e I μ s k a):
 ∃(I:σ->Int->E->Prop)(μ:σ->Int->E->Nat),I f 0 m/\∀s i a,I s i a->e I μ s i a:=by
 refine⟨λs i c=>∃k:Nat,i=k/\k<=n/\Q k s c,λ_ i _=>(n -i).toNat,⟨0,rfl,dN _,g⟩,?_⟩
 rintro s i a ⟨k,rfl,j,o⟩
 refine h k s a _ _ j o λd b c p=>?_
 rw[kC d l]
 exact⟨⟨k+1,rfl,d,p⟩,Dr d⟩
def dt(P:Program)(f:Nat)(a:List Value)(m:E)(p:Prop):Prop:=aN P f a m λv c=>∃b:Bool,v=.bool b/\(b=true<->p)/\J m c
def dt.then{a:List Value}(h:dt P f a m p)(g:∀(b:Bool) c,(b=true<->p)->J m c->K (.bool b) c):aN P f a m K:=
 h.mono λ_ _⟨b,e,d,i⟩=>e▸g b _ d i
def dt.aH{e:List Value}(i:dt P f e m p)(g:J d m)(q:∀b∈l,b<d.size)
 (o:∀(b:Bool) c,(b=true<->p)->J m c->J d c->K (.bool b) c):aN P f e m λv c=>eG l m c/\K v c:=
 i.mono λ_ _⟨b,n,j,a⟩=>⟨a.dv λh k=>g.lt (q h k),n▸o b _ j a (g.trans a)⟩
def Ho.aH{e:List Value}(i:Ho P f e m v)(g:J d m)(o:∀b∈l,b<d.size)
 (n:∀c,J m c->J d c->K v c):aN P f e m λv c=>eG l m c/\K v c:=
 i.mono λ_ _⟨k,a⟩=>⟨a.dv λh j=>g.lt (o h j),k▸n _ a (g.trans a)⟩
def aN.aH{a:List Value}(j:aN P f a m K)(o:J d m)(n:∀b∈l,b<d.size)
 (g:∀v c,K v c->J m c/\e v c):aN P f a m λv c=>eG l m c/\e v c:=
 j.mono λv c h=>⟨(g v c h).1.dv λi k=>o.lt (n i k),(g v c h).2⟩
def eU{b:Bool}(h:b=true<->p)(d:J m c):∃a:Bool,Value.bool b=.bool a/\(a=true<->p)/\J m c:=⟨b,rfl,h,d⟩
def bW(h:¬p)(b:J m c):∃a:Bool,Value.bool false=.bool a/\(a=true<->p)/\J m c:=⟨false,rfl,by simp[h],b⟩
def iO(h:p)(b:J m c):∃a:Bool,Value.bool true=.bool a/\(a=true<->p)/\J m c:=⟨true,rfl,by simp[h],b⟩
def nb{b:Bool}(a:b=true<->p)(h:(!b)=true):¬p:=λc=>by simp[a.2 c]at h
def yb{b:Bool}(a:b=true<->p)(h:(!b)=false):p:=a.1 (by simpa using h)
def fb{b:Bool}(a:b=true<->p)(h:b=false):¬p:=λc=>by simp[a.2 c]at h
def bB{α:Type}{l:List α}{x:α}{p:α->Prop}(c:l[k]? =some x)(h:∀y∈l.take k,p y)(b:p x):∀y∈l.take (k+1),p y:=by
 rw[aU c];intro y a;rcases List.mem_append.1 a with a|a
 .exact h y a
 .simp at a;subst a;exact b
def db{α:Type}{l:List α}{p:α->Prop}(a:l.length<=k)(h:∀y∈l.take k,p y):∀y∈l,p y:=by rw[<-bY a];exact h
def aq{α:Type}{l:List α}{x:α}(h:l[k]? =some x):x∈l:=iy h
end Go.Vc
end
section
namespace Go.Vc
variable{m:E}{s:O}{k:Nat}
structure bz where
 sU:Int
 to:Int
 cons:List (List Int)
structure Instr where
 op:Int
 dst:Int
 bP:Int
 bZ:Int
 args:List Int
 eM:List Int
structure dy where
 params:List Int
 cR:List Int
 aS:Int
 ak:Int
 dq:List Instr
structure cO where
 bo:List bz
 cF:List dy
def mO(m:E)(a:List Ce)(c:List Int):Prop:=∃f,a=[.s f]/\ap m f c
def iL(m:E)(a:List Ce)(d:bz):Prop:=∃f,a=[.i d.sU,.i d.to,.s f]/\eT m 1 (mO m) f d.cons
def dS(m:E)(b:List Ce)(x:Instr):Prop:=∃a j,b=[.i x.op,.i x.dst,.i x.bP,.i x.bZ,.s a,.s j]/\ap m a x.args/\ap m j x.eM
def lp(m:E)(b:List Ce)(p:dy):Prop:=
 ∃a l c,b=[.s a,.s l,.i p.aS,.i p.ak,.s c]/\ap m a p.params/\ap m l p.cR/\eT m 6 (dS m) c p.dq
abbrev pb(m:E)(s:O)(l:List (List Int)):Prop:=eT m 1 (mO m) s l
abbrev cx(m:E)(s:O)(l:List bz):Prop:=eT m 3 (iL m) s l
abbrev fg(m:E)(s:O)(l:List Instr):Prop:=eT m 6 (dS m) s l
abbrev iH(m:E)(s:O)(l:List dy):Prop:=eT m 5 (lp m) s l
structure fw(m:E)(d p:O)(im:cO):Prop where
 bo:cx m d im.bo
 cF:iH m p im.cF
def mO.ext{m b:E}(g:J m b)(a:List Ce)(c:List Int):mO m a c->mO b a c:=λ⟨f,d,e⟩=>⟨f,d,e.ext g⟩
def pb.ext{m b:E}(a:J m b){s:O}{l:List (List Int)}(h:pb m s l):pb b s l:=h.mono a (mO.ext a)
def iL.ext{m b:E}(g:J m b)(a:List Ce)(c:bz):iL m a c->iL b a c:=λ⟨f,d,e⟩=>⟨f,d,pb.ext g e⟩
def cx.ext{m b:E}(a:J m b){s:O}{l:List bz}(h:cx m s l):cx b s l:=h.mono a (iL.ext a)
def dS.ext{m d:E}(b:J m d)(a:List Ce)(c:Instr):dS m a c->dS d a c:=λ⟨e,j,f,g,h⟩=>⟨e,j,f,g.ext b,h.ext b⟩
def fg.ext{m b:E}(a:J m b){s:O}{l:List Instr}(h:fg m s l):fg b s l:=h.mono a (dS.ext a)
def lp.ext{m d:E}(a:J m d)(b:List Ce)(c:dy):lp m b c->lp d b c:=λ⟨e,l,c,f,g,h,i⟩=>⟨e,l,c,f,g.ext a,h.ext a,fg.ext a i⟩
def iH.ext{m b:E}(a:J m b){s:O}{l:List dy}(h:iH m s l):iH b s l:=h.mono a (lp.ext a)
def fw.ext{m c:E}(a:J m c){d p:O}{b:cO}(h:fw m d p b):fw c d p b:=⟨cx.ext a h.bo,iH.ext a h.cF⟩
def pb.aF{l:List (List Int)}(h:pb m s l){x:List Int}(b:l[k]? =some x):
 ∃f,ap m f x/\af m s.D (s.off+k*1)=some (O.v f):=by
 obtain⟨d,⟨f,rfl,a⟩,c⟩:=h.iB k x b
 exact⟨f,a,c 0 (.s f) rfl⟩
def cx.aF{l:List bz}(h:cx m s l){x:bz}(c:l[k]? =some x):
 ∃f,pb m f x.cons/\af m s.D (s.off+k*3)=some (vi x.sU)/\af m s.D (s.off+k*3+1)=some (vi x.to)/\af m s.D (s.off+k*3+2)=some (O.v f):=by
 obtain⟨d,⟨f,rfl,b⟩,a⟩:=h.iB k x c
 exact⟨f,b,a 0 (.i x.sU) rfl,a 1 (.i x.to) rfl,a 2 (.s f) rfl⟩
def fg.aF{l:List Instr}(h:fg m s l){x:Instr}(e:l[k]? =some x):
 ∃b j,ap m b x.args/\ap m j x.eM/\af m s.D (s.off+k*6)=some (vi x.op)/\af m s.D (s.off+k*6+1)=some (vi x.dst)/\af m s.D (s.off+k*6+2)=some (vi x.bP)/\
  af m s.D (s.off+k*6+3)=some (vi x.bZ)/\af m s.D (s.off+k*6+4)=some (O.v b)/\af m s.D (s.off+k*6+5)=some (O.v j):=by
 obtain⟨f,⟨b,j,rfl,c,d⟩,a⟩:=h.iB k x e
 exact⟨b,j,c,d,a 0 (.i x.op) rfl,a 1 (.i x.dst) rfl,a 2 (.i x.bP) rfl,a 3 (.i x.bZ) rfl,a 4 (.s b) rfl,a 5 (.s j) rfl⟩
def iH.aF{l:List dy}(h:iH m s l){x:dy}(i:l[k]? =some x):
 ∃a b c,ap m a x.params/\ap m b x.cR/\fg m c x.dq/\af m s.D (s.off+k*5)=some (O.v a)/\af m s.D (s.off+k*5+1)=some (O.v b)/\af m s.D (s.off+k*5+2)=some (vi x.aS)/\
  af m s.D (s.off+k*5+3)=some (vi x.ak)/\af m s.D (s.off+k*5+4)=some (O.v c):=by
 obtain⟨j,⟨a,b,c,rfl,e,f,g⟩,d⟩:=h.iB k x i
 exact⟨a,b,c,e,f,g,d 0 (.s a) rfl,d 1 (.s b) rfl,d 2 (.i x.aS) rfl,d 3 (.i x.ak) rfl,d 4 (.s c) rfl⟩
end Go.Vc
end
section
namespace Go.Vc
variable{g a:E}{f:Nat}{s:O}{l:List Ce}{d:List (List Ce)}
structure gW(g a:E)(f sz:Nat)(s:O)(l:List Ce):Prop where
 len:l.length=s.len*sz
 aF:s=.nil\/∃b c tail,s=.mk b 0 s.len c/\g.size<=b/\cE a b f (l++tail)/\(l++tail).length=c*sz/\s.len<=c
def gW.nil(g a:E)(f b:Nat):gW g a f b .nil []:=⟨aL,Or.inl rfl⟩
def gW.new(h:J g a)(f c:Nat)(l:List Ce)(k:Nat)(b:l.length=k*c):gW g (a.push (.cells (bt l) f)) f c (.mk a.size 0 k k) l:=
 ⟨b,Or.inr ⟨a.size,k,[],rfl,h.size,by rw[dY];exact cE.push _ _ _,by simpa using b,ad _⟩⟩
def gW.congr{g a d:E}{f e:Nat}{s:O}{l:List Ce}(h:gW g a f e s l)(c:d[s.D]? =a[s.D]?):gW g d f e s l:=by
 refine⟨h.len,?_⟩;rcases h.aF with b|⟨i,j,tail,b,h2,h3,h4,h5⟩
 .exact Or.inl b
 .refine Or.inr ⟨i,j,tail,b,h2,h3.congr ?_,h4,h5⟩;rw[b]at c;exact c
def gW.lt{g a:E}{f c:Nat}{s:O}{l:List Ce}(h:gW g a f c s l):s=.nil\/s.D<a.size:=by
 rcases h.aF with b|⟨d,e,tail,b,h2,h3,h4,h5⟩
 .exact Or.inl b
 .rw[b];exact Or.inr h3.lt
def gW.ext{c:E}{d:Nat}(h:gW g a f d s l)(e:J a c):gW g c f d s l:=by
 rcases h.lt with b|b
 .subst b;exact⟨h.len,Or.inl rfl⟩
 .exact h.congr (e.same _ b)
def gW.cy{c:E}{d:Nat}(h:gW c a f d s l)(j:g.size<=c.size):gW g a f d s l:=by
 refine⟨h.len,?_⟩;rcases h.aF with b|⟨e,i,tail,b,h2,h3,h4,h5⟩
 .exact Or.inl b
 .exact Or.inr ⟨e,i,tail,b,bH j h2,h3,h4,h5⟩
def gW.D{c:Nat}(h:gW g a f c s l):s=.nil\/g.size<=s.D:=by
 rcases h.aF with b|⟨d,e,tail,b,h2,h3,h4,h5⟩
 .exact Or.inl b
 .rw[b];exact Or.inr h2
def fQ.MK{b o:Nat}{r:List Ce}(h:fQ a b o (l++r)):fQ a b o l:=λi d c=>h i d (by rw[ax (av c)];exact c)
def gW.iB{g a:E}{f e:Nat}{s:O}{l:List Ce}(h:gW g a f e s l):fQ a s.D s.off l:=by
 rcases h.aF with b|⟨i,c,tail,b,h2,h3,h4,h5⟩
 .have:l=[]:=List.length_eq_zero_iff.1 (by rw[h.len,b];simp);subst this;intro j c d;simp at d
 .rw[b];exact h3.iB.MK
def BV(l a tail:List Ce)(h:a.length<=tail.length):jb (l++tail) l.length a=l++a++tail.drop a.length:=by
 apply gV;intro i;rw[vY];simp only[be];by_cases b:l.length<=i/\i<l.length+a.length/\i<l.length+tail.length
 .rw[an b,fC,aI b.1,ax V]
 .rw[ae b];by_cases c:i<l.length
  .rw[ax c,fC,ax c]
  .rw[aI V,fC,aI V,aI V,rY];congr 1;omega
def gW.append{zs:List Ce}{v:Nat}{x:O}{d:List Ce}{K:O->E->Prop}(j:gW g a f zs.length s l)(p:J g a)
 (q:d.length=x.len*zs.length)(F:fQ a x.D x.off d)(t:(s.len+x.len)*v<=140737488355328)
 (u:∀k n,gW g n f zs.length k (l++d)->J g n->k.len=s.len+x.len->a.size<=n.size->(∀c,c<a.size->(s≠.nil->c≠s.D)->n[c]? =a[c]?)->((s=.nil/\k=.nil)\/(s≠.nil/\k.D=s.D/\k≠.nil)\/k.D=a.size)->K k n):
 jL a f zs v s x K:=by
 refine⟨d,q,F,λC=>?_,λI=>⟨t,l,j.len,j.iB,λi y=>?_⟩⟩
 .rcases j.aF with h|⟨c,i,tail,h,h2,h3,h4,h5⟩
  .subst h
   have w:x.len=0:=by simpa using C
   have A:d=[]:=List.length_eq_zero_iff.1 (by rw[q,w];simp)
   subst A
   refine⟨λB z=>by simp at z,?_⟩
   exact u .nil _ ⟨by rw[dY];exact j.len,Or.inl rfl⟩ (by simpa[ah]using p) (by simp[w]) (tV (aw _ _ _ _).symm) (λc t _=>by simp[ah]) (Or.inl ⟨rfl,rfl⟩)
  .have z:=j.len
   have H:s.cap=i:=by rw[h];rfl
   rw[h]
   simp only[O.jB,O.mV,O.gF,bU]
   simp only[be]at h4
   have B:d.length<=tail.length:=by
    have A:(s.len+x.len)*zs.length<=i*zs.length:=dh _ V;rw[gN]at A;omega
   refine⟨h3.fK (by simp only[be];omega),?_⟩
   have w:=cE.ah (m:=a) (b:=c) (e:=f) (r:=d) (o:=s.len*zs.length) h3
   rw[<-z,BV l d tail B]at w
   refine u _ _ ⟨?_,Or.inr ⟨c,i,tail.drop d.length,rfl,h2,?_,?_,?_⟩⟩ (p.ah h2 _ _) aL (tV (aw _ _ _ _).symm) (λG _ D=>bd _ _ _ _ ?_) (Or.inr (Or.inl ⟨by rw[h];simp,by rw[h];rfl,aL⟩))
   .simp only[be,O.gF,gN];omega
   .rw[<-z];exact w
   .simp only[be,List.length_drop];omega
   .simp only[O.gF];omega
   .have:=D (by rw[h];simp)
    rw[h]at this;exact this
 .refine u _ _ ⟨?_,Or.inr ⟨a.size,i,mH zs (i -(s.len+x.len)),rfl,p.size,cE.push _ _ _,?_,by simpa using y⟩⟩ (p.aK _) aL aL (λc t _=>by rw[mM,ae V]) (Or.inr (Or.inr rfl))
  .simp only[be,O.gF,gN,j.len,q]
  .simp only[be,rG,j.len,q]
   rw[Nat.sub_mul,<-gN]
   have:(s.len+x.len)*zs.length<=i*zs.length:=dh _ y
   omega
def ap.gA{l:List Int}(h:gW g a f 1 s (l.map Ce.i))(n:l.length<=9223372036854775807):ap a s l:=by
 have i:s.len=l.length:=by have:=h.len;simp at this;omega
 refine⟨i,?_,V,λk x e=>⟨[.i x],rfl,λj d c=>?_⟩⟩
 .rcases h.aF with b|⟨m,d,tail,b,h2,h3,h4,h5⟩
  .rw[b];exact ad _
  .rw[b];exact h5
 .have b:j=0:=by have:=av c;simp at this;omega
  subst b;simp at c;subst c;have:=h.iB k (.i x) (by simp[e]);simpa using this
def fW{g:Nat}:∀{d:List (List Ce)}(_:∀a∈d,a.length=g){b:Nat}{a:List Ce}(_:d[b]? =some a){i:Nat}{c:Ce}(_:a[i]? =some c),d.flatten[b*g+i]? =some c
 |[],_,b,a,h,_,_,_=>by simp at h
 |x::d,f,0,a,h,i,c,e=>by
  simp at h;subst h;rw[jD,Qm,bU,ax (av e)];exact e
 |x::d,f,b+1,a,h,i,c,e=>by
  have k:x.length=g:=f x bg;rw[jD,aI (by rw[k,gN];omega)];have:=fW (d:=d) (λy l=>f y (ai _ l)) (b:=b) (by simpa using h) e;rw[<-this];congr 1;rw[k,gN];omega
def cw{b:Nat}:∀{d:List (List Ce)},(∀a∈d,a.length=b)->d.flatten.length=d.length*b
 |[],_=>aL
 |x::d,a=>by
  rw[jD,be,cw (λy c=>a y (ai _ c)),a x bg,aZ,gN];omega
structure gQ{α:Type}(sz:Nat)(R:List Ce->α->Prop)(d:List (List Ce))(l:List α):Prop where
 len:d.length=l.length
 size:∀cs∈d,cs.length=sz
 dz:∀(j:Nat)(cs:List Ce)(x:α),d[j]? =some cs->l[j]? =some x->R cs x
def gQ.nil{α:Type}(a:Nat)(R:List Ce->α->Prop):gQ a R [] []:=⟨rfl,aL,aL⟩
def gQ.yD{α:Type}{f:Nat}{R:List Ce->α->Prop}{l:List α}(h:gQ f R d l){cs:List Ce}{x:α}(i:cs.length=f)(k:R cs x):gQ f R (d++[cs]) (l++[x]):=by
 refine⟨by simp[h.len],λe a=>?_,λj e y a b=>?_⟩
 .rcases List.mem_append.1 a with a|a
  .exact h.size e a
  .simp at a;subst a;exact i
 .rcases aW j d.length with c|c
  .rw[ax c]at a;rw[ax (h.len▸c)]at b;exact h.dz j e y a b
  .rw[aI c]at a;rw[aI (by rw[<-h.len];exact c),<-h.len]at b;have g:j -d.length=0:=by have:=av a;simp at this;omega
   rw[g]at a b;simp at a b;subst a;subst b;exact k
def gQ.mono{α:Type}{c:Nat}{R b:List Ce->α->Prop}{l:List α}(h:gQ c R d l)(g:∀a x,R a x->b a x):gQ c b d l:=
 ⟨h.len,h.size,λj a x e f=>g _ _ (h.dz j a x e f)⟩
def eT.gA{α:Type}{e:Nat}{R:List Ce->α->Prop}{l:List α}(h:gW g a f e s d.flatten)(c:gQ e R d l)(q:0<e)(t:l.length<=9223372036854775807):eT a e R s l:=by
 have p:s.len=l.length:=by
  have b:=h.len;rw[cw c.size]at b;have:=Ug q b;rw[<-this,c.len]
 refine⟨p,?_,V,λk x n=>?_⟩
 .rcases h.aF with b|⟨j,i,tail,b,h2,h3,h4,h5⟩
  .rw[b];exact ad _
  .rw[b];exact h5
 .let⟨j,m⟩:=cG d k (by rw[c.len];exact av n);refine⟨j,c.dz k j x m n,λr i o=>?_⟩;have:=h.iB (k*e+r) i (fW c.size m o);rwa[<-dj]at this
end Go.Vc
end
section
namespace Go.Vc
variable{S c:List Nat}{m a d:E}{b o e:Nat}{l:List Ce}{s:O}
def bG(S:List Nat)(m:E):E:=m.mapIdx λb o=>if b∈S then .cells #[] 0 else o
def Le(M a:E):Prop:=∀b o v,af M b o=some v->af a b o=some v
def eQ{v:Value}:af (bG S m) b o=some v<->b∉S/\af m b o=some v:=by
 unfold af bG;rw[Xt];cases h:m[b]? with
 |none=>simp
 |some x=>by_cases a:b∈S<;>simp[a]
def Le.az(m:E):Le m m:=λ_ _ _ h=>h
def Le.trans{a b c:E}(h:Le a b)(k:Le b c):Le a c:=λx o v d=>k x o v (h x o v d)
def J.le(h:J m a):Le m a:=λ_ _ _ b=>h.af b
def bA(S:List Nat)(m:E):Le (bG S m) m:=λ_ _ _ h=>(eQ.1 h).2
def pD(h:∀b,b<m.size->b∉S->b∉c/\a[b]? =m[b]?):Le (bG S m) (bG c a):=λb o v i=>by
 let⟨e,d⟩:=eQ.1 i;let⟨f,g⟩:=h b (mf d) e;exact eQ.2 ⟨f,by rw[aJ g];exact d⟩
def J.bG(h:J m a)(d:∀b∈c,b∈S\/m.size<=b):Le (bG S m) (bG c a):=
 pD λb e g=>⟨λf=>(d b f).elim g λh=>V,h.same b e⟩
def J.df(h:J m a)(S:List Nat):Le (Vc.bG S m) (Vc.bG S a):=h.bG λ_ b=>Or.inl b
def iS(m:E)(a:∀b∈c,b∈S):Le (bG S m) (bG c m):=(J.az m).bG λb d=>Or.inl (a b d)
def Le.iB{M a:E}(h:Le M a)(e:fQ M b o l):fQ a b o l:=λi c d=>h _ _ _ (e i c d)
def eT.le{α:Type}{d:Nat}{R c:List Ce->α->Prop}{l:List α}(h:eT m d R s l)(j:Le m a)(g:∀b x,R b x->c b x):eT a d c s l:=
 ⟨h.len,h.cap,h.gT,λk x i=>let⟨b,e,f⟩:=h.iB k x i;⟨b,g _ _ e,j.iB f⟩⟩
def ap.le{m a:E}(b:Le m a){s:O}{l:List Int}(h:ap m s l):ap a s l:=eT.le h b λ_ _ h=>h
def mO.le{m a:E}(g:Le m a)(b:List Ce)(c:List Int):mO m b c->mO a b c:=λ⟨f,d,e⟩=>⟨f,d,e.le g⟩
def iL.le{m a:E}(d:Le m a)(b:List Ce)(c:bz):iL m b c->iL a b c:=λ⟨f,e,g⟩=>⟨f,e,eT.le g d (mO.le d)⟩
def cx.le{m a:E}(b:Le m a){s:O}{l:List bz}(h:cx m s l):cx a s l:=eT.le h b (iL.le b)
def Kf(a:b∉S)(h:fQ m b o l):fQ (bG S m) b o l:=λi c d=>eQ.2 ⟨a,h i c d⟩
def eT.QT{α:Type}{a:Nat}{R:List Ce->α->Prop}{c:List (List Ce)}{l:List α}(o:∀b∈S,b<d.size)(h:gW d m e a s c.flatten)(q:gQ a R c l)(r:0<a)(p:l.length<=9223372036854775807):eT (bG S m) a R s l:=by
 have H:=eT.gA h q r p;refine⟨H.len,H.cap,H.gT,λt x i=>?_⟩;let⟨j,k,n⟩:=H.iB t x i;rcases h.D with f|f
 .have g:=H.len;have:=av i;rw[f]at g;simp at g;omega
 .exact⟨j,k,Kf (λg=>oh (o _ g)) n⟩
def ap.QT{l:List Int}(k:∀b∈S,b<d.size)(h:gW d m e 1 s (l.map Ce.i))(n:l.length<=9223372036854775807):ap (bG S m) s l:=by
 have H:=ap.gA h n;refine⟨H.len,H.cap,H.gT,λo x f=>?_⟩;let⟨g,i,j⟩:=H.iB o x f;rcases h.D with a|a
 .have c:=H.len;have:=av f;rw[a]at c;simp at c;omega
 .exact⟨g,i,Kf (λc=>oh (k _ c)) j⟩
end Go.Vc
end
section
namespace Go.Vc
variable{X Y S:List Nat}{a b c m d:E}{f:List Ce}{s:O}{k:Nat}
structure Fz(X:List Nat)(m d:E):Prop where
 size:m.size<=d.size
 same:∀b,b<m.size->b∉X->d[b]? =m[b]?
def Fz.az(X:List Nat)(m:E):Fz X m m:=⟨ad _,λ_ _ _=>rfl⟩
def Fz.rX(h:Fz X a b)(k:Fz Y b c)(g:∀y∈Y,y∈X\/a.size<=y):Fz X a c:=
 ⟨bH h.size k.size,λi d e=>(k.same i (aO d h.size) λf=>(g i f).elim e λh=>V).trans (h.same i d e)⟩
def Fz.trans(h:Fz X a b)(k:Fz X b c):Fz X a c:=h.rX k λ_ d=>Or.inl d
def J.fz(h:J m d)(X:List Nat):Fz X m d:=⟨h.size,λb a _=>h.same b a⟩
def Fz.then(h:Fz X a b)(k:J b c):Fz X a c:=h.trans (k.fz X)
def Fz.push{X:List Nat}{a m:E}(h:Fz X a m)(o:Obj):Fz X a (m.push o):=h.then (J.push m o)
def Fz.ext(h:Fz [] m d):J m d:=⟨h.size,λb a=>h.same b a aL⟩
def Fz.DB(h:Fz X m d)(f:∀b∈X,b∈Y\/m.size<=b):Fz Y m d:=⟨h.size,λb a e=>h.same b a λc=>(f b c).elim e λh=>V⟩
def Fz.ah(h:Fz X a m){b:Nat}(c:b∈X\/a.size<=b)(o:Nat)(l:List Ce):Fz X a (ah m b o l):=
 ⟨by rw[aw];exact h.size,λj f d=>by
  have e:j≠b:=λe=>by subst e;exact c.elim d λc=>V
  rw[bd l m b o e];exact h.same j f d⟩
def Fz.bG(h:Fz X m d){a:List Nat}(f:∀b∈X,b∈S)(e:∀b∈a,b∈S\/m.size<=b):Le (bG S m) (bG a d):=
 pD λb g c=>⟨λi=>(e b i).elim c λh=>V,h.same b g λj=>c (f b j)⟩
def Fz.df(h:Fz X m d)(a:∀b∈X,b∈S):Le (Vc.bG S m) (Vc.bG S d):=h.bG a λ_ h=>Or.inl h
def Fz.dv(h:Fz X m d){l:List Nat}(c:∀b∈l,b<m.size/\b∉X):eG l m d:=λb a=>h.same b (c b a).1 (c b a).2
inductive Ex where
 |mk (op bP:Int) (bD:List Ex)
def Ex.op:Ex->Int| .mk o _ _=>o
def Ex.bP:Ex->Int| .mk _ n _=>n
def Ex.bD:Ex->List Ex| .mk _ _ k=>k
structure Mq(β:Type)where
 op:Int
 bP:Int
 bZ:Int
 args:List Int
 bD:List β
inductive Bk where
 |mk (aD:List (Mq Bk)) (aS:Int)
abbrev cU:=Mq Bk
def Bk.aD:Bk->List cU| .mk s _=>s
def Bk.aS:Bk->Int| .mk _ r=>r
@[simp] theorem Ex.VL (o n:Int) (k:List Ex):(Ex.mk o n k).op=o:=rfl
@[simp] theorem Ex.TO (o n:Int) (k:List Ex):(Ex.mk o n k).bP=n:=rfl
@[simp] theorem Ex.RC (o n:Int) (k:List Ex):(Ex.mk o n k).bD=k:=rfl
@[simp] theorem Bk.jT (s:List cU) (r:Int):(Bk.mk s r).aD=s:=rfl
@[simp] theorem Bk.jv (s:List cU) (r:Int):(Bk.mk s r).aS=r:=rfl
inductive BG(m:E):List Ce->Ex->Prop
 |mk (op bP:Int) (bD:List Ex) (s:O) (css:Nat->List Ce) (hl:s.len=bD.length) (hc:s.len<=s.cap) (hm:s.len<=9223372036854775807)
  (hr:∀(k:Nat)(x:Ex),bD[k]? =some x->fQ m s.D (s.off+k*3) (css k)) (hk:∀(k:Nat)(x:Ex),bD[k]? =some x->BG m (css k) x):BG m [.i op,.i bP,.s s] (.mk op bP bD)
inductive rJ(m:E):List Ce->Bk->Prop
 |mk (aD:List (Mq Bk)) (r:Int) (s:O) (hl:s.len=aD.length) (hc:s.len<=s.cap) (hm:s.len<=9223372036854775807) (aa ks:Nat->O) (kcs:Nat->Nat->List Ce)
  (hr:∀(k:Nat)(x:Mq Bk),aD[k]? =some x->fQ m s.D (s.off+k*5) [.i x.op,.i x.bP,.i x.bZ,.s (aa k),.s (ks k)]/\ap m (aa k) x.args/\(ks k).len=x.bD.length/\(ks k).len<=(ks k).cap/\(ks k).len<=9223372036854775807)
  (hb:∀(k:Nat)(x:Mq Bk)(j:Nat)(b:Bk),aD[k]? =some x->x.bD[j]? =some b->fQ m (ks k).D ((ks k).off+j*2) (kcs k j))
  (hk:∀(k:Nat)(x:Mq Bk)(j:Nat)(b:Bk),aD[k]? =some x->x.bD[j]? =some b->rJ m (kcs k j) b):rJ m [.s s,.i r] (.mk aD r)
def gE(m:E)(f:List Ce)(x:cU):Prop:=∃a k,f=[.i x.op,.i x.bP,.i x.bZ,.s a,.s k]/\ap m a x.args/\eT m 2 (rJ m) k x.bD
abbrev fG(m:E)(s:O)(l:List Ex):Prop:=eT m 3 (BG m) s l
abbrev eP(m:E)(s:O)(l:List cU):Prop:=eT m 5 (gE m) s l
abbrev nF(m:E)(s:O)(l:List Bk):Prop:=eT m 2 (rJ m) s l
def BG.le(h:Le m d){e:Ex}(a:BG m f e):BG d f e:=by
 induction a with
 |mk n bP bD s b g c i a o l=>exact .mk n bP bD s b g c i (λk x j=>h.iB (a k x j)) l
def rJ.le{m d:E}(h:Le m d){f:List Ce}{b:Bk}(a:rJ m f b):rJ d f b:=by
 induction a with
 |mk aD t s o n p e ks r a l u q=>
  exact .mk aD t s o n p e ks r (λk x c=>let⟨g,i,j⟩:=a k x c;⟨h.iB g,i.le h,j⟩) (λk x j b c g=>h.iB (l k x j b c g)) q
def eT.choose{α:Type}{m:E}{a:Nat}{R:List Ce->α->Prop}{s:O}{l:List α}(h:eT m a R s l):
 ∃b:Nat->List Ce,∀(k:Nat)(x:α),l[k]? =some x->R (b k) x/\fQ m s.D (s.off+k*a) (b k):=by
 have:∀k:Nat,∃f:List Ce,∀x:α,l[k]? =some x->R f x/\fQ m s.D (s.off+k*a) f:=λk=>by
  cases e:l[k]? with
  |none=>exact⟨[],λx c=>by simp at c⟩
  |some x=>obtain⟨f,d⟩:=h.iB k x e;exact⟨f,λy c=>by simp at c;exact c▸d⟩
 exact⟨λk=>Classical.choose (this k),λk=>fL (this k)⟩
def BG.aT{e:Ex}(h:BG m f e):∃s,f=[.i e.op,.i e.bP,.s s]/\fG m s e.bD:=by
 cases h with
 |mk l bP bD s b g c i j d=>exact⟨s,rfl,g,c,i,λk x a=>⟨b k,d k x a,j k x a⟩⟩
def BG.of{b bP:Int}{bD:List Ex}(h:fG m s bD):BG m [.i b,.i bP,.s s] (.mk b bP bD):=by
 let⟨d,c⟩:=h.choose;exact .mk b bP bD s d h.len h.cap h.gT (λk x a=>(c k x a).2) λk x a=>(c k x a).1
def rJ.aT{b:Bk}(h:rJ m f b):∃s,f=[.s s,.i b.aS]/\eP m s b.aD:=by
 cases h with
 |mk aD w s r p t d ks v u o q=>
  exact⟨s,rfl,r,p,t,λk x a=>let⟨e,g,i,l,n⟩:=u k x a;⟨_,⟨d k,ks k,rfl,g,i,l,n,λj b c=>⟨v k j,q k x j b a c,o k x j b a c⟩⟩,e⟩⟩
def rJ.of{r:Int}{aD:List cU}(h:eP m s aD):rJ m [.s s,.i r] (.mk aD r):=by
 let⟨n,l⟩:=h.choose;have:∀k:Nat,∃(a c:O)(kc:Nat->List Ce),∀x:cU,aD[k]? =some x->n k=[.i x.op,.i x.bP,.i x.bZ,.s a,.s c]/\ap m a x.args/\(c.len=x.bD.length/\c.len<=c.cap/\c.len<=9223372036854775807)/\
  ∀(j:Nat)(b:Bk),x.bD[j]? =some b->rJ m (kc j) b/\fQ m c.D (c.off+j*2) (kc j):=λk=>by
  cases o:aD[k]? with
  |none=>exact⟨.nil,.nil,λ_=>[],λx d=>by simp at d⟩
  |some x=>
   obtain⟨⟨a,c,f,g,e⟩,_⟩:=l k x o
   let⟨kc,p⟩:=e.choose
   exact⟨a,c,kc,λy i=>by simp at i;subst i;exact⟨f,g,⟨e.len,e.cap,e.gT⟩,p⟩⟩
 have H:=λk=>fL (fL (fL (this k)));refine .mk aD r s h.len h.cap h.gT (λk=>Classical.choose (this k)) (λk=>Classical.choose (fL (this k))) (λk=>Classical.choose (fL (fL (this k)))) (λk x d=>?_) (λk x j b d i=>((H k x d).2.2.2 j b i).2) λk x j b d i=>((H k x d).2.2.2 j b i).1;obtain⟨f,g,e,_⟩:=H k x d;exact⟨by rw[<-f];exact(l k x d).2,g,e⟩
def gE.le{m d:E}(h:Le m d){f:List Ce}{x:cU}:gE m f x->gE d f x:=λ⟨a,k,b,c,e⟩=>⟨a,k,b,c.le h,eT.le e h λ_ _=>rJ.le h⟩
def fG.le{m d:E}(a:Le m d){s:O}{l:List Ex}(h:fG m s l):fG d s l:=eT.le h a λ_ _=>BG.le a
def eP.le{m d:E}(a:Le m d){s:O}{l:List cU}(h:eP m s l):eP d s l:=eT.le h a λ_ _=>gE.le a
def nF.le{m d:E}(a:Le m d){s:O}{l:List Bk}(h:nF m s l):nF d s l:=eT.le h a λ_ _=>rJ.le a
def fG.aF{l:List Ex}(h:fG m s l){x:Ex}(b:l[k]? =some x):
 ∃t,fG m t x.bD/\af m s.D (s.off+k*3)=some (vi x.op)/\af m s.D (s.off+k*3+1)=some (vi x.bP)/\af m s.D (s.off+k*3+2)=some (O.v t):=by
 let⟨f,d,a⟩:=h.iB k x b
 obtain⟨t,rfl,c⟩:=d.aT
 exact⟨t,c,a 0 _ rfl,a 1 _ rfl,a 2 _ rfl⟩
def eP.aF{l:List cU}(h:eP m s l){x:cU}(e:l[k]? =some x):
 ∃a t,ap m a x.args/\nF m t x.bD/\af m s.D (s.off+k*5)=some (vi x.op)/\af m s.D (s.off+k*5+1)=some (vi x.bP)/\af m s.D (s.off+k*5+2)=some (vi x.bZ)/\af m s.D (s.off+k*5+3)=some (O.v a)/\af m s.D (s.off+k*5+4)=some (O.v t):=by
 obtain⟨f,⟨a,t,rfl,c,d⟩,b⟩:=h.iB k x e
 exact⟨a,t,c,d,b 0 _ rfl,b 1 _ rfl,b 2 _ rfl,b 3 _ rfl,b 4 _ rfl⟩
def nF.aF{l:List Bk}(h:nF m s l){x:Bk}(b:l[k]? =some x):
 ∃t,eP m t x.aD/\af m s.D (s.off+k*2)=some (O.v t)/\af m s.D (s.off+k*2+1)=some (vi x.aS):=by
 let⟨f,d,a⟩:=h.iB k x b
 obtain⟨t,rfl,c⟩:=d.aT
 exact⟨t,c,a 0 _ rfl,a 1 _ rfl⟩
def Bk.w:Bk->Nat
 | .mk aD _=>1+(aD.map λs=>1+s.args.length+(s.bD.map Bk.w).sum).sum
decreasing_by
 rename_i s a _ _
 have b:=oK a
 have c:=oK (by assumption:_∈s.bD)
 have d:SizeOf.sizeOf s.bD<SizeOf.sizeOf s:=by cases s;simp;omega
 simp;omega
def Mq.w(s:Mq Bk):Nat:=1+s.args.length+(s.bD.map Bk.w).sum
def Bk.YZ(b:Bk):b.w=1+(b.aD.map Mq.w).sum:=by
 cases b;rw[Bk.w];rfl
def Ex.n:Ex->Nat
 | .mk _ _ bD=>1+(bD.map Ex.n).sum
end Go.Vc
end
section
namespace Go.Vc
variable{S Y S' X:List Nat}{d a c:E}{b k n h tb:Nat}{s x:O}{g cs i:List Ce}{f:List (List Ce)}{K:O->E->Prop}
structure oA{α:Type}(sz:Nat)(R:E->List Ce->α->Prop):Prop where
 le:∀{M M':E}{cs:List Ce}{x:α},Le M M'->R M cs x->R M' cs x
 len:∀{M:E}{cs:List Ce}{x:α},R M cs x->cs.length=sz
def tW(_:E)(cs:List Ce)(n:Int):Prop:=Ut cs n
def tW.mono:oA 1 tW:=⟨λ_ h=>h,λh=>by rw[h];rfl⟩
def BG.mono:oA 3 BG:=⟨λh=>BG.le h,λh=>by obtain⟨s,rfl,_⟩:=h.aT;rfl⟩
def rJ.mono:oA 2 rJ:=⟨λh=>rJ.le h,λh=>by obtain⟨s,rfl,_⟩:=h.aT;rfl⟩
def gE.mono:oA 5 gE:=⟨λh=>gE.le h,λh=>by obtain⟨_,_,rfl,_⟩:=h;rfl⟩
structure Gr{α:Type}(S:List Nat)(d a:E)(b sz:Nat)(R:E->List Ce->α->Prop)(s:O)(l:List α):Prop where
 iW:s≠.nil
 aR:∃f,gW d a b sz s f.flatten/\gQ sz (R (bG (s.D::S) a)) f l
def Gr.len{α:Type}{S:List Nat}{d a:E}{b e:Nat}{R:E->List Ce->α->Prop}{s:O}{l:List α}(h:Gr S d a b e R s l)(i:0<e):s.len=l.length:=by
 obtain⟨_,f,g,c⟩:=h;have:=g.len;rw[cw c.size]at this;rw[<-c.len,Ug i this]
def Gr.bn{α:Type}{g:Nat}{R:E->List Ce->α->Prop}{l:List α}(h:Gr S d a b g R s l):d.size<=s.D/\s.D<a.size:=by
 let⟨c,f,e,i⟩:=h;exact⟨e.D.resolve_left c,e.lt.resolve_left c⟩
def Gr.new{α:Type}(S:List Nat){d a:E}(h:d.size<=a.size)(b c:Nat)(R:E->List Ce->α->Prop):Gr S d (a.push (.cells (bt []) b)) b c R (.mk a.size 0 0 0) []:=
 ⟨aL,[],(gW.new (J.az a) b c [] 0 aL).cy h,gQ.nil _ _⟩
def Gr.eB{α:Type}{g:Nat}{R:E->List Ce->α->Prop}{l:List α}(o:oA g R)(h:Gr S d a b g R s l)(j:Fz Y a c)(i:∀e∈Y,e∈S/\e<d.size):Gr S d c b g R s l:=by
 have q:=h.bn;let⟨k,f,m,n⟩:=h;refine⟨k,f,m.congr (j.same _ q.2 λp=>oh ((i _ p).2)),n.mono λcs x=>o.le ?_⟩;exact j.df λe p=>ai _ (i e p).1
def Gr.Nw{α:Type}{g:Nat}{R:E->List Ce->α->Prop}{l:List α}(n:oA g R)(h:Gr S d a b g R s l)(i:Fz Y a c)(o:∀e∈Y,e∈S)(q:s.D∉Y):Gr S d c b g R s l:=by
 have r:=h.bn;let⟨j,f,k,m⟩:=h;exact⟨j,f,k.congr (i.same _ r.2 q),m.mono λcs x=>n.le (i.df λe p=>ai _ (o e p))⟩
def Gr.re{α:Type}{h:Nat}{R:E->List Ce->α->Prop}{l:List α}(o:oA h R)(i:Gr S d a b h R s l)(j:Fz Y a c)(q:∀e∈Y,e∈S)(r:s.D∉Y)(p:∀e∈S',e∈S\/a.size<=e):Gr S' d c b h R s l:=by
 have t:=i.bn;let⟨k,f,m,n⟩:=i;refine⟨k,f,m.congr (j.same _ t.2 r),n.mono λcs x=>o.le (j.bG (λe g=>ai _ (q e g)) λe g=>?_)⟩;rcases List.mem_cons.1 g with g|g
 .exact Or.inl (by rw[g];exact bg)
 .exact(p e g).imp (ai _) id
def Gr.ext{α:Type}{e:Nat}{R:E->List Ce->α->Prop}{l:List α}(f:oA e R)(h:Gr S d a b e R s l)(g:J a c):Gr S d c b e R s l:=
 h.eB f (g.fz []) aL
def Gr.done{α:Type}{c:Nat}{R:E->List Ce->α->Prop}{l:List α}(j:oA c R)(h:Gr S d a b c R s l)(k:∀e∈S,e<d.size)(o:0<c)(n:l.length<=9223372036854775807):eT (bG S a) c (R (bG S a)) s l:=by
 obtain⟨_,f,g,i⟩:=h;exact eT.QT k g (i.mono λcs x=>j.le (iS a λe m=>ai _ m)) o n
def J.MK(h:k<=a.size):J (a.extract 0 k) a:=by
 refine⟨bE,λb c=>?_⟩;have d:b<k:=by simp at c;omega
 rw[Array.getElem?_extract];simp;omega
def mg(h:k<=a.size):(a.extract 0 k).size=k:=bE
def Gr.next{α:Type}{F:Nat}{R:E->List Ce->α->Prop}{C D:List α}(G:oA g.length R)(W:0<g.length)
 (y:Gr S d a b g.length R s C)(H:Fz X d a)(u:x.len=f.length)(T:fQ a x.D x.off f.flatten)(n:gQ g.length (R (bG (s.D::S) a)) f D)(i:(C.length+D.length)*F<=140737488355328)
 (P:∀r c,Gr S d c b g.length R r (C++D)->Fz X d c->(a.size<=c.size/\(r.D=s.D\/a.size<=r.D))->(∀e,e<a.size->e≠s.D->c[e]? =a[e]?)->K r c):jL a b g F s x K:=by
 have Q:=y.len W
 have hy:=y.bn
 let⟨z,w,O,j⟩:=y
 have q:d.size<=a.size:=H.size
 refine gW.append (g:=a.extract 0 d.size) (zs:=g) (d:=f.flatten) (l:=w.flatten) (O.cy (by rw[mg q];exact ad _)) (J.MK q) ?_ T (by rw[Q,u,n.len];exact i) λr c Y k2 k3 Z k5 B=>?_
 .rw[cw n.size,u]
 have A:∀e,e<a.size->e≠s.D->c[e]? =a[e]? :=λe i k=>k5 e i λ_=>k
 have U:r≠.nil:=by
  rcases B with⟨h,_⟩|⟨_,_,h⟩|h
  .exact absurd h z
  .exact h
  .intro b;rw[b]at h;simp at h;omega
 have L:a.size<=c.size:=Z
 have I:Le (bG (s.D::S) a) (bG (r.D::S) c):=pD λe i k=>by
  simp only[aV,vv]at k;refine⟨?_,A e i k.1⟩;simp only[aV,vv];refine⟨?_,k.2⟩;rcases B with⟨h,_⟩|⟨_,h,_⟩|h
  .exact absurd h z
  .rw[h];exact k.1
  .omega
 refine P r c ⟨U,w++f,?_,?_⟩ ⟨bH q L,λe i u=>?_⟩ ⟨L,?_⟩ A
 .rw[qJ]
  exact Y.cy (by rw[mg q];exact ad _)
 .refine⟨by simp[j.len,n.len],λm o=>?_,λM m N t v=>?_⟩
  .rcases List.mem_append.1 o with o|o
   .exact j.size m o
   .exact n.size m o
  .rcases aW M w.length with p|p
   .rw[ax p]at t
    rw[ax (j.len▸p)]at v
    exact G.le I (j.dz M m N t v)
   .rw[aI p]at t
    rw[aI (by rw[<-j.len];exact p),<-j.len]at v
    exact G.le I (n.dz _ m N t v)
 .rw[A e (aO i q) V];exact H.same e i u
 .rcases B with⟨h,_⟩|⟨_,h,_⟩|h
  .exact absurd h z
  .exact Or.inl h
  .exact Or.inr V
def Gr.kK{α:Type}{n:Nat}{R:E->List Ce->α->Prop}{m:List α}{k:α}(i:oA g.length R)(z:0<g.length)
 (q:Gr S d a b g.length R s m)(w:Fz X d a)(p:R (bG (s.D::S) a) cs k)(j:(m.length+1)*n<=140737488355328)
 (x:∀r c,Gr S d c b g.length R r (m++[k])->Fz X d c->(a.size<=c.size/\(r.D=s.D\/a.size<=r.D))->(∀f,f<a.size->f≠s.D->c[f]? =a[f]?)->K r c):jL (a.push (.cells (bt cs) b)) b g n s (.mk a.size 0 1 1) K:=by
 have h:=J.push a (.cells (bt cs) b)
 refine Gr.next (f:=[cs]) (D:=[k]) i z (q.ext i h) (w.then h) rfl ?_ ?_ j λr c t u o v=>x r c t u ⟨bH h.size o.1,o.2.imp id (bH h.size)⟩ λf j y=>(v f (aO j h.size) y).trans (h.same f j)
 .have:=(cE.push a (e:=b) (l:=cs)).iB
  simpa using this
 .have:=gQ.yD (gQ.nil g.length (R (bG (s.D::S) (a.push (.cells (bt cs) b))))) (i.len p) (i.le (h.df _) p)
  simpa using this
def eT.VN{α:Type}{b:Nat}{R:List Ce->α->Prop}{l:List α}(z:∀cs x,R cs x->cs.length=b)(r:eT a b R s l):
 ∃f,s.len=f.length/\fQ a s.D s.off f.flatten/\gQ b R f l:=by
 let⟨e,k⟩:=r.choose
 have w:∀(c:Nat)(cs:List Ce),((List.range l.length).map e)[c]? =some cs->c<l.length/\cs=e c:=λc cs d=>by
  simp only[cJ,jG]at d;let⟨E,o,B⟩:=d;let⟨t,u⟩:=List.getElem?_eq_some_iff.1 o;simp at t u;subst u;exact⟨t,B.symm⟩
 have m:∀cs∈(List.range l.length).map e,cs.length=b:=λcs D=>by
  let⟨c,d⟩:=List.mem_iff_getElem?.1 D;obtain⟨o,rfl⟩:=w c cs d;let⟨x,h⟩:=dB o;exact z _ _ (k c x h).1
 refine⟨(List.range l.length).map e,by simp[r.len],λi A q=>?_,aL,m,λc cs x d h=>?_⟩
 .rcases jY b with n|n
  .have g:=av q
   rw[cw m,n]at g;simp at g
  have g:=av q
  rw[cw m]at g
  simp at g
  have d:i/b<l.length:=Nat.div_lt_of_lt_mul (by rw[Nat.mul_comm];exact g)
  let⟨x,h⟩:=dB d
  have y:i=i/b*b+i%b:=by rw[Nat.mul_comm];exact(Nat.div_add_mod i b).symm
  have H:=Nat.mod_lt i n
  have G:(e (i/b)).length=b:=z _ _ (k _ x h).1
  let⟨F,v⟩:=cG (e (i/b)) (i%b)
  have p:=fW (d:=(List.range l.length).map e) m (b:=i/b) (a:=e (i/b)) (by simp[d]) v
  rw[<-y,q]at p
  simp at p;subst p
  have C:=(k _ x h).2 _ A v
  rw[y,<-dj];exact C
 .obtain⟨_,rfl⟩:=w c cs d
  exact(k c x h).1
def Gr.all{α:Type}{j:Nat}{R:E->List Ce->α->Prop}{l i:List α}(k:oA g.length R)(v:0<g.length)
 (h:Gr S d a b g.length R s l)(t:Fz X d a)(p:eT (bG (s.D::S) a) g.length (R (bG (s.D::S) a)) x i)(q:(l.length+i.length)*j<=140737488355328)
 (u:∀r c,Gr S d c b g.length R r (l++i)->Fz X d c->(a.size<=c.size/\(r.D=s.D\/a.size<=r.D))->(∀e,e<a.size->e≠s.D->c[e]? =a[e]?)->K r c):jL a b g j s x K:=by
 let⟨f,m,n,o⟩:=p.VN λ_ _ h=>k.len h
 exact Gr.next k v h t m ((bA _ _).iB n) o q u
def Gr.lit{α:Type}{e:Nat}{R:E->List Ce->α->Prop}{l:List α}(j:oA e R)(i:d.size<=a.size)(p:∀g∈S,g<d.size)(k:cs=f.flatten)(m:n=f.length)(h:gQ e (R (bG S a)) f l):
 Gr S d (a.push (.cells (bt cs) b)) b e R (.mk a.size 0 n n) l:=by
 subst k m
 refine⟨aL,f,(gW.new (J.az a) b e f.flatten f.length (cw h.size)).cy i,h.mono λo x=>j.le ?_⟩
 exact(J.push a _).bG λg c=>by
  rcases List.mem_cons.1 c with c|c
  .exact Or.inr (by simp[c])
  .exact Or.inl c
def Gr.nH{α:Type}{c:Nat}{R:E->List Ce->α->Prop}{l:List α}(m:oA c R)(h:Gr S d a b c R s l)(n:s.D∉S)(q:0<c)(p:l.length<=9223372036854775807):eT (bG S a) c (R (bG S a)) s l:=by
 obtain⟨_,f,e,g⟩:=h;have H:=eT.gA e (g.mono λcs x=>m.le (iS a λj i=>ai s.D i)) q p;exact⟨H.len,H.cap,H.gT,λk x o=>let⟨cs,i,j⟩:=H.iB k x o;⟨cs,i,Kf n j⟩⟩
def Gr.ne{α:Type}{p:Nat}{R:E->List Ce->α->Prop}{o:List α}(k:Gr S d a b p R s o)(g:cE a h tb i)(n:tb≠b):s.D≠h:=by
 let⟨l,f,m,w⟩:=k;let⟨q,r,tail,j,t,c,u,v⟩:=m.aF.resolve_left l;intro e;rw[j]at e;simp only[O.jB]at e;subst e;unfold cE at g c;rw[g]at c;simp at c;exact n c.2
def Gr.Ld{α β:Type}{q:E}{r c t:Nat}{R:E->List Ce->α->Prop}{g:E->List Ce->β->Prop}{e:O}{o:List α}{p:List β}(j:Gr S d a b r R s o)(k:Gr S' q a c t g e p)(n:c≠b):s.D≠e.D:=by
 let⟨l,f,m,z⟩:=k;let⟨u,v,tail,h,w,i,x,y⟩:=m.aF.resolve_left l;have:=j.ne i n;rw[h];exact this
def Gr.box{α:Type}{L:List Nat}{j y:Nat}{R:E->List Ce->α->Prop}{u:List α}{w:α}{K:E->Prop}(B:oA g.length R)(U:0<g.length)
 (o:Gr S d a b g.length R s u)(C:Fz X d a)(P:R (bG (s.D::S) a) cs w)(k:(u.length+1)*y<=140737488355328)
 (p:cE a h tb i)(hi:j<i.length)(G:tb≠b)(t:d.size<=h/\h∈S)(A:∀e∈L,e<a.size/\e≠h/\e≠s.D)
 (Q:∀r c,Gr S d c b g.length R r (u++[w])->cE c h tb (jb i j [.s r])->Fz X d c->a.size<=c.size->(∀e,e<a.size->e≠s.D->e≠h->c[e]? =a[e]?)->K c):
 af (a.push (.cells (bt cs) b)) h j=af a h j/\
 jL (a.push (.cells (bt cs) b)) b g y s (.mk a.size 0 1 1) λr c=>eG L (a.push (.cells (bt cs) b)) c/\fK c h j 1/\(eG L c (ah c h j [.s r])/\K (ah c h j [.s r])):=by
 have D:=p.lt
 have H:=J.push a (.cells (bt cs) b)
 have hy:=o.bn
 refine⟨aJ (H.same h D) j,Gr.kK B U o C P k λr c z I W v=>?_⟩
 have q:cE c h tb i:=p.congr (v h D (kE (o.ne p G)))
 have T:=z.ne q G
 have n:∀e,e≠h->(ah c h j [.s r])[e]? =c[e]? :=λe k=>bd _ _ _ _ k
 have Z:=C.size
 have Y:=t.1
 refine⟨λe k=>?_,q.fK V,λe k=>n e (A e k).2.1,Q r _ ?_ (cE.ah (m:=c) q) (I.ah (Or.inr t.1) _ _) (by rw[aw];exact W.1) λe l N O=>(n e O).trans (v e l N)⟩
 .have l:=A e k
  rw[v e l.1 l.2.2,H.same e l.1]
 .let⟨M,f,g1,g2⟩:=z
  refine⟨M,f,g1.congr (n _ T),g2.mono λcs x=>B.le ?_⟩
  exact pD λe k F=>⟨F,n e λb=>F (by rw[b];exact ai _ t.2)⟩
def ap.lit(b:Nat)(l:List Int)(d:∀c∈S,c<a.size)(c:cs=l.map Ce.i)(f:n=l.length)(e:l.length<=9223372036854775807):ap (bG S (a.push (.cells (bt cs) b))) (.mk a.size 0 n n) l:=by
 subst c f;have h:=gW.new (J.az a) b 1 (l.map Ce.i) l.length aL;exact ap.QT d h e
end Go.Vc
end
section
namespace Go.Vc
variable{x y:Operand}{k:SV->Prop}{l h:List Ce}{f:Int->Prop}{r:List Sh}{a:Int}{g:Array (Nat×Operand)}{e:List Oper}{Q:Exit->Fr->E->Prop}{c:Code}
section
variable{P:Program}{T:TT}{G:List Nat}{n:Nat}{A:O1}{m q:E}{p u:Fr}{b o j i t:Nat}{s:Sh}{d:Option Nat}{v:Value}
def nc(n:Nat):Int:=n
def nce{n:Nat}:nc n=n:=rfl
def Vt:Tc T p .len [t] [x] k=match fJ T t,ev p x with
 |some ⟨.slice _,_,_⟩,.c (.s s)=>k (.c (.i (nc s.len)))
 |_,_=>False:=rfl
def Vu{l:List Nat}:Tc T p .max l [x,y] k=match ev p x,ev p y with
 | .c (.i a),.c (.i b)=>k (.c (.i (if b>a then b else a)))
 |_,_=>False:=rfl
def Vv{l:List Nat}:Tc T p .min l [x,y] k=match ev p x,ev p y with
 | .c (.i a),.c (.i b)=>k (.c (.i (if b<a then b else a)))
 |_,_=>False:=rfl
def RF(m:E)(k:E->Prop):OE m k=(let q:=m;k q):=rfl
def pa{α:Type}(x:α)(f:α->Prop):Prop:=f x
def SA(s:Sh)(f:s.ty->Prop):Prop:=∃x,f x
def Uv(s:Sh)(f:s.ty->Prop):Prop:=∀x,f x
def exI:SA .I f=∃x,pa x f:=rfl
def exU{k:IntKind}:SA (.U k) f=∃x,pa x f:=rfl
def exB{f:Bool->Prop}:SA .T f=∃x,pa x f:=rfl
def Yd{f:O->Prop}:SA .S f=∃x,pa x f:=rfl
def exP{f:Nat×Nat->Prop}:SA .P f=∃x,pa x f:=rfl
def exF{f:Fn×Array Value×Array Value->Prop}:SA .F f=∃x,pa x f:=rfl
def exM{f:Nat->Prop}:SA .M f=∃x,pa x f:=rfl
def alI:Uv .I f=∀x,f x:=rfl
def alU{k:IntKind}:Uv (.U k) f=∀x,f x:=rfl
def alB{f:Bool->Prop}:Uv .T f=∀x,f x:=rfl
def XK{f:O->Prop}:Uv .S f=∀x,f x:=rfl
def alP{f:Nat×Nat->Prop}:Uv .P f=∀x,f x:=rfl
def alF{f:Fn×Array Value×Array Value->Prop}:Uv .F f=∀x,f x:=rfl
def alM{f:Nat->Prop}:Uv .M f=∀x,f x:=rfl
def cU8{x:Int}:kL (.int .u8 x)=some (.u .u8 x):=rfl
def z0:mH h 0=[]:=rfl
def z1:mH h (n+1)=h++mH h n:=rfl
def tb{a b:Nat}:Nat.testBit a b=(1&&&(a>>>b)!=0):=rfl
def Vo{e:Edge}{a:List Edge}:lB (e::a)=bif Region.binds .any e then 2^e.on|||lB a else lB a:=rfl
def b1:Region.binds .any ⟨i,.data⟩=true:=rfl
def b2:Region.binds .any ⟨i,.chain⟩=true:=rfl
def b3:Region.binds .any ⟨i,.guard⟩=true:=rfl
def b4:Region.binds .any ⟨i,.phase⟩=true:=rfl
def b5{x:Departure}:Region.binds .any ⟨i,.gcOnly x⟩=false:=rfl
def b6{x:Departure}:Region.binds .any ⟨i,.textOnly x⟩=false:=rfl
def Rz(c:Ce)(k:List Ce->Prop)(l:List Ce):Prop:=k (c::l)
def UO(k:SV->Prop)(l:List Ce):Prop:=k (.agg l)
def ZR(m:E)(b o j:Nat)(s:Sh)(r:List Sh)(k:List Ce->Prop)(x:s.ty):Prop:=
 af m b (bif j==0 then o else o+j)=some (s.mk x).v/\VI m b o (j+1) r (Rz (s.mk x) k)
def XZ{k:List Ce->Prop}:VI m b o j (s::r) k=SA s (ZR m b o j s r k):=by
 cases j<;>rfl
def ZQ(m:E)(b o:Nat)(s:Sh)(k:SV->Prop)(x:s.ty):Prop:=af m b o=some (s.mk x).v/\k (.c (s.mk x))
def Tt{t:Nat}:PJ T m t b o k=match fJ T t with
 |some ⟨.struct _,a,_⟩=>VI m b o 0 a (UO k)
 |some ⟨.cell,[s],_⟩=>SA s (ZQ m b o s k)
 |some ⟨.slice _,[_],_⟩=>∃x:O,af m b o=some x.v/\k (.c (.s x))
 |_=>False:=rfl
def ile{b:Int}:Int.le a b=(a<=b):=rfl
def ZP(s:O)(z:Nat)(l:Int)(k:SV->Prop)(h:Int):Prop:=Int.le 0 l/\Int.le l h/\Int.le h (nc s.cap)/\k (.c (.s (s.cut l.toNat h.toNat z)))
def ZS(p:Fr)(a:Option Operand)(s:O)(z:Nat)(k:SV->Prop)(l:Int):Prop:=MI p a (nc s.len) (ZP s z l k)
def XW{f:Nat}{mk:Nat->SV}:FA T t f o mk k=match fJ T t with
 |some ⟨.struct c,_,_⟩=>match HQ c f with
  |some (a,u)=>match fJ T u with
   |some b=>bif b.ux||Nat.beq b.sh.length 0 then False else bif a==0 then k (mk o)else k (mk (o+a))
   |none=>False
  |none=>False
 |_=>False:=by
 have h:∀a,(bif a==0 then k (mk o)else k (mk (o+a)))=k (mk (o+a)):=λa=>by cases a<;>rfl
 simp only[h];rfl
def Vs{s:O}{n:Int}:WU T t s n k=match fJ T t with
 |some ⟨.slice e,_,_⟩=>match fJ T e with
  |some a=>bif a.ux then False else Int.le 0 n/\n<nc s.len/\k (.c (.p s.D (s.off+n.toNat*a.sh.length)))
  |none=>False
 |_=>False:=rfl
def Rt{s:O}{b a:Option Operand}:Q5 T p t s b a k=match fJ T t with
 |some ⟨.slice e,_,_⟩=>match fJ T e with
  |some c=>bif c.ux then False else MI p b 0 (ZS p a s c.sh.length k)
  |none=>False
 |_=>False:=rfl
def Rp:rd T p m k (.build t g)=match fJ T t with
 |some ⟨.struct a,b,_⟩=>bif uZ T a then Ft T p a (b.map Sh.zero) g.toList (UO k)else False
 |_=>False:=rfl
def ZW(s:Sh)(r:List Sh)(k:List Ce->Prop)(x:s.ty):Prop:=Um r (Rz (s.mk x) k)
def Vq{k:List Ce->Prop}:Um (s::r) k=SA s (ZW s r k):=rfl
def Yk(a:AV)(k:List AV->Prop)(l:List AV):Prop:=k (a::l)
def ZY(T:TT)(r:List Nat)(k:List AV->Prop)(l:List Ce):Prop:=Sd T r (Yk (.agg l) k)
def ZX(T:TT)(s:Sh)(r:List Nat)(k:List AV->Prop)(x:s.ty):Prop:=Sd T r (Yk (.c (s.mk x)) k)
def Vr{r:List Nat}{k:List AV->Prop}:Sd T (t::r) k=match fJ T t with
 |some ⟨.struct _,a,_⟩=>Um a (ZY T r k)
 |some ⟨.cell,[s],_⟩=>SA s (ZX T s r k)
 |some ⟨.slice _,[_],_⟩=>∃x:O,Sd T r (Yk (.c (.s x)) k)
 |_=>False:=rfl
def ZV(v:Value)(k:SV->Prop)(l:List AV):Prop:=v=.tuple (l.map AV.v).toArray/\k (.Xd l)
def ZU(v:Value)(k:SV->Prop)(l:List Ce):Prop:=v=.agg (l.map Ce.v).toArray/\k (.agg l)
def ZT(v:Value)(s:Sh)(k:SV->Prop)(x:s.ty):Prop:=v=(s.mk x).v/\k (.c (s.mk x))
def VA:PT T t v k=match fJ T t with
 |some ⟨.tuple [],_,_⟩=>k .fU
 |some ⟨.tuple a,_,_⟩=>Sd T a (ZV v k)
 |some ⟨.struct _,a,_⟩=>Um a (ZU v k)
 |some ⟨.cell,[s],_⟩=>SA s (ZT v s k)
 |some ⟨.slice _,[_],_⟩=>∃x:O,v=x.v/\k (.c (.s x))
 |_=>False:=rfl
def UP(k:Fr->SV->E->Prop)(p:Fr)(m:E)(x:SV):Prop:=k p x m
def inG(G:List Nat)(g:Nat):Prop:=G.elem g=true
def Yi{G:List Nat}{g:Nat}:inG G g=(G.elem g=true):=rfl
def nz(b:Int):Prop:=b≠0
def nze{b:Int}:nz b=(b≠0):=rfl
def Vx{b:Int}:rO .quo a b k=(nz b/\k (.c (.i (cT (a.tdiv b))))):=rfl
def Vz{b:Int}:rO .rem a b k=(nz b/\k (.c (.i (a.tmod b)))):=rfl
def Tp{c:Nat}{f:Operand}{a:List Operand}{k:Fr->SV->E->Prop}:Tf P T G n p m c f a k=match Tz p (a.map (ev p))with
 |none=>False
 |some u=>match ev p f with
  | .c (.fn (.func g) first b)=>bif G.elem g&&a.all (λx=>(ev p x).jI)then
   aN P g (first.toList++(a.map λx=>(ev p x).v)++b.toList) m λv q=>Ad (Mo n u []) m q (PT T c v (UP k u q))
   else False
  | .c (.fv b)=>bif a.all (λx=>(ev p x).jI)then
   ∃g,b.1=.func g/\inG G g/\aN P g (b.2.1.toList++(a.map λx=>(ev p x).v)++b.2.2.toList) m λv q=>Ad (Mo n u []) m q (PT T c v (UP k u q))
   else False
  |_=>False:=rfl
def p3(m:E)(k:Fr->SV->E->Prop)(p:Fr)(x:SV):Prop:=k p x m
def p2(m:E)(k:SV->E->Prop)(x:SV):Prop:=k x m
def Tv{k:Fr->SV->E->Prop}:Sn n p none m t l k=OE (m.push (.cells (bt l) t)) λq=>p3 q k p (.c (.p m.size 0)):=rfl
def Tw{j:Nat}{k:Fr->SV->E->Prop}:Sn n p (some j) m t l k=match ig p (n+j)with
 | .zr _ _ _=>False
 |_=>OE (m.push (.cells (bt l) t)) λq=>p3 q k ((n+j,.box m.size t l)::p) (.c (.bp (n+j) m.size 0)):=rfl
def Yb{x:SV}{k:Fr->SV->E->Prop}:OS n p m x l k=match x with
 | .c (.p b o)=>fK m b o l.length/\OE (ah m b o l) λq=>Ad (Mo n p []) m q (k p .un q)
 | .c (.bp d b o)=>match ig p d with
  | .box a e c=>bif Nat.ble (o+l.length) c.length then Mw a b (OE (ah m b o l) λq=>p3 q k ((d,.box a e (jb c o l))::p) .un)else False
  | .zr _ _ _=>False
  |_=>fK m b o l.length/\OE (ah m b o l) λq=>Ad (Mo n p []) m q (k p .un q)
 |_=>False:=rfl
def Ya{b:Nat}{k:Fr->SV->E->Prop}:wr P T G n p m d b k (.makeSlice t x y)=match fJ T t,ev p x,ev p y with
 |some ⟨.slice e,_,_⟩,.c (.i l),.c (.i c)=>match fJ T e with
  |some a=>bif a.ux then False else Int.le 0 l/\Int.le l c/\Int.le (nc a.bytes*c) 281474976710656/\Int.le c 9223372036854775807/\
   OE (m.push (.cells (bt (mH (a.sh.map Sh.zero) c.toNat)) e)) λq=>p3 q k p (.c (.s (.mk m.size 0 l.toNat c.toNat)))
  |none=>False
 |_,_,_=>False:=rfl
def X0{a:Nat}{k:Fr->SV->E->Prop}:wr P T G n p m d a k (.makeMap t none)=OE (m.push (.map #[] 0)) λq=>p3 q k p (.c (.mp m.size)):=rfl
def Vp{z:Nat}{s x:O}{k:SV->E->Prop}:WK m z s x k=∃a:List Ce,a.length=Nat.min x.len s.len*z/\fQ m x.D x.off a/\fK m s.D s.off a.length/\
 OE (ah m s.D s.off a) λq=>p2 q k (.c (.i (nc (Nat.min x.len s.len)))):=rfl
def ZN(p:Fr)(m:E)(e a:Nat)(k:Fr->SV->E->Prop)(l:List Ce):Prop:=match Fx p l with
 |some u=>OE (m.push (.cells (bt l) e)) λq=>p3 q k u (.c (.s (.mk m.size 0 a a)))
 |none=>False
def XV{c a:Nat}{k:Fr->SV->E->Prop}:wr P T G n p m d c k (.buildSlice t a g)=match fJ T t with
 |some ⟨.slice e,_,_⟩=>match fJ T e with
  |some b=>bif b.ux||!(Nat.ble (a*b.sh.length) 16777216)then False else
   wU T p b.sh.length (mH (b.sh.map Sh.zero) a) g.toList (ZN p m e a k)
  |none=>False
 |_=>False:=rfl
def ZO(n:Nat)(p:Fr)(m:E)(k:Fr->SV->E->Prop)(x:SV)(q:E):Prop:=Ad (Mo n p []) m q (k p x q)
def Tq{b:Nat}{u:Nat}{c:List Nat}{k:Fr->SV->E->Prop}:wr P T G n p m d b k (.call ⟨.builtin .copy,⟨[x,y]⟩,⟨u::c⟩⟩)=match fJ T u,ev p x,ev p y with
 |some ⟨.slice e,_,_⟩,.c (.s s),.c (.s z)=>match fJ T e with
  |some a=>bif a.ux then False else WK m a.sh.length s z (ZO n p m k)
  |none=>False
 |_,_,_=>False:=rfl
def kw(P:Program)(T:TT)(G:List Nat)(n:Nat)(e:List Oper)(d:Option Nat)(jN:List Oper)(k:Fr->E->Prop)(p:Fr)(x:SV)(m:E):Prop:=sk P T G n e jN (tX p d x) m k
def kr(P:Program)(T:TT)(G:List Nat)(n:Nat)(e:List Oper)(d:Option Nat)(jN:List Oper)(k:Fr->E->Prop)(p:Fr)(m:E)(x:SV):Prop:=sk P T G n e jN (tX p d x) m k
def ky(P:Program)(T:TT)(G:List Nat)(n:Nat)(e:List Oper)(o:Oper)(jN:List Oper)(k:Fr->E->Prop)(m:E)(p:Fr):Prop:=
 bif KX o.op then wr P T G n p m o.dst o.type (kw P T G n e o.dst jN k) o.op else rd T p m (kr P T G n e o.dst jN k p m) o.op
def kn(P:Program)(T:TT)(G:List Nat)(n:Nat)(e:List Oper)(d:Option Nat)(jN:List Oper)(k:Fr->E->Prop)(m:E)(p:Fr):Prop:=sk P T G n e jN (tX p d .un) m k
def Vw{o:Oper}{jN:List Oper}{k:Fr->E->Prop}:sk P T G n e (o::jN) p m k=
 bif rZ n o.dst then gd e p o.guard (ky P T G n e o jN k m) (kn P T G n e o.dst jN k m)else False:=rfl
abbrev LL:=List (Nat×List (Nat×Nat))
def ZD(P:Program)(T:TT)(G:List Nat)(n:Nat)(e:List Oper)(c a:List Nat)(b done:Nat)(o:Oper)(i:Nat)(m:E)(L:LL)(k:Fr->E->Prop)(p:Fr)(x:SV):Prop:=
 oJ P T G n e c a b (done|||2^i) (tX p o.dst x) m ((i,SC T p o.op)::L) k
def ZG(P:Program)(T:TT)(G:List Nat)(n:Nat)(e:List Oper)(c a:List Nat)(b done:Nat)(o:Oper)(i:Nat)(m:E)(L:LL)(k:Fr->E->Prop)(p:Fr):Prop:=
 rd T p m (ZD P T G n e c a b done o i m L k p) o.op
def Y8(P:Program)(T:TT)(G:List Nat)(n:Nat)(e:List Oper)(c a:List Nat)(b done:Nat)(o:Oper)(i:Nat)(m:E)(L:LL)(k:Fr->E->Prop)(p:Fr):Prop:=
 oJ P T G n e c a b (done|||2^i) (tX p o.dst .un) m L k
def ZE(P:Program)(T:TT)(G:List Nat)(n:Nat)(e:List Oper)(c a:List Nat)(b done:Nat)(o:Oper)(i:Nat)(m:E)(L:LL)(k:Fr->E->Prop)(p:Fr)(x:SV)(q:E):Prop:=
 Dy (tZ a i) m q L (oJ P T G n e c a b (done|||2^i) (tX p o.dst x) q L k)
def ZH(P:Program)(T:TT)(G:List Nat)(n:Nat)(e:List Oper)(c a:List Nat)(b done:Nat)(o:Oper)(i:Nat)(m:E)(L:LL)(k:Fr->E->Prop)(p:Fr):Prop:=
 wr P T G n p m o.dst o.type (ZE P T G n e c a b done o i m L k) o.op
def ZF(P:Program)(T:TT)(G:List Nat)(n:Nat)(e:List Oper)(c a:List Nat)(b done:Nat)(m:E)(L:LL)(k:Fr->E->Prop)(p:Fr)(i:Nat):Prop:=match HQ e i with
 |some o=>bif rZ n o.dst then gd e p o.guard (ZH P T G n e c a b done o i m L k) (Y8 P T G n e c a b done o i m L k)else False
 |none=>False
def Ts{a b:List Nat}{c done:Nat}{L:LL}{k:Fr->E->Prop}:oJ P T G n e a b (c+1) done p m L k=match wN done 0 e a with
 |some i=>match HQ e i with
  |some o=>bif rZ n o.dst then gd e p o.guard (ZG P T G n e a b c done o i m L k) (Y8 P T G n e a b c done o i m L k)else False
  |none=>False
 |none=>match pJ done 0 e a with
  |[]=>k p m
  |d=>Oe d (ZF P T G n e a b c done m L k p):=rfl
def Tm{f:Nat->Prop}:Oe [i] f=f i:=rfl
def Tn{r:List Nat}{f:Nat->Prop}:Oe (i::j::r) f=(f i/\Oe (j::r) f):=rfl
def kq(Q:Exit->Fr->E->Prop)(p:Fr)(m:E):Prop:=Q .normal p m
def Vy{e:Array Oper}{a:Bool}:vc P T G n A (.region i e a) p m Q=
 bif a then oJ P T G n e.toList (UW e.toList) (Td [] e.toList) e.toList.length 0 p m [] (kq Q)
 else sk P T G n e.toList e.toList p m (kq Q):=rfl
def ZL(t:Nat)(s:Sh)(r:List (Nat×Sh))(I:s.ty->Hs r)(p:Fr)(k:Fr->(E->Prop)->Prop)(x:s.ty):Prop:=Pj r (I x) ((t,.c (s.mk x))::p) k
def Vm{r:List (Nat×Sh)}{I:s.ty->Hs r}{k:Fr->(E->Prop)->Prop}:Pj ((t,s)::r) I p k=Uv s (ZL t s r I p k):=rfl
def ZM(t:Nat)(s:Sh)(r:List (Nat×Sh))(I:s.ty->Hs r)(μ:s.ty->Ob r)(p:Fr)(k:Fr->(E->Prop)->(E->Nat)->Prop)(x:s.ty):Prop:=Pk r (I x) (μ x) ((t,.c (s.mk x))::p) k
def Vn{r:List (Nat×Sh)}{I:s.ty->Hs r}{μ:s.ty->Ob r}{k:Fr->(E->Prop)->(E->Nat)->Prop}:Pk ((t,s)::r) I μ p k=Uv s (ZM t s r I μ p k):=rfl
def ks(P:Program)(T:TT)(G:List Nat)(n:Nat)(A:O1)(b:Code)(Q:Exit->Fr->E->Prop):Exit->Fr->E->Prop
 | .normal,u,q=>vc P T G n A b u q Q
 |e,u,q=>Q e u q
def kc(A:O1)(b:Code)(p:Fr)(l:List (Nat×Sh))(K:Hs l)(Q:Exit->Fr->E->Prop):Exit->Fr->E->Prop
 | .normal,u,q=>Ul p u (k8 A b) (Hv l K u q)
 |e,u,q=>Q e u q
def ki(P:Program)(T:TT)(G:List Nat)(n:Nat)(A:O1)(b:Code)(Q:Exit->Fr->E->Prop)(u:Fr)(a:E->Prop):Prop:=∀q,a q->vc P T G n A b u q Q
def VB{a b:Code}:vc P T G n A (.seq a b) p m Q=match VK A.UK b with
 |none=>vc P T G n A a p m (ks P T G n A b Q)
 |some l=>bif pP (oG a) l then∃K:Hs l,vc P T G n A a p m (kc A b p l K Q)/\
  Pj l K (nC (oG a) (uo n (k8 A b) p)) (ki P T G n A b Q)else False:=by
 unfold ks kc ki;rfl
def kb(i:Nat)(Q:Exit->Fr->E->Prop):Exit->Fr->E->Prop
 | .exit j,u,q=>bif Nat.beq j i then Q .normal u q else Q (.exit j) u q
 |e,u,q=>Q e u q
def Ro:vc P T G n A (.block i c) p m Q=vc P T G n A c p m (kb i Q):=by
 unfold kb;rfl
def ke(A:O1)(c:Code)(p:Fr)(l:List (Nat×Sh))(I:Hs l)(μ:Ob l)(N:Nat)(Q:Exit->Fr->E->Prop):Exit->Fr->E->Prop
 | .normal,a,b=>Ul p a (k8 A c) (Og l I μ a b N)
 |e,a,b=>Q e a b
def kl(P:Program)(T:TT)(G:List Nat)(n:Nat)(A:O1)(c:Code)(p:Fr)(l:List (Nat×Sh))(I:Hs l)(μ:Ob l)(Q:Exit->Fr->E->Prop)(u:Fr)(a:E->Prop)(μ':E->Nat):Prop:=
 ∀q,a q->vc P T G n A c u q (ke A c p l I μ (μ' q) Q)
def Tu:vc P T G n A (.loop c) p m Q=match VK A.TH c with
 |none=>False
 |some l=>bif pP (oG c) l then∃(I:Hs l)(μ:Ob l),Hv l I p m/\
  Pk l I μ (nC (oG c) (uo n (k8 A c) p)) (kl P T G n A c p l I μ Q)else False:=by
 unfold kl ke;rfl
def kR(m:E)(R:Value->E->Prop)(l:List SV):Prop:=match l with
 |[x]=>R x.v m
 |l=>R (.tuple (l.map SV.v).toArray) m
def kx(x:SV)(k:List SV->Prop)(l:List SV):Prop:=k (x::l)
def kz(T:TT)(p:Fr)(m:E)(r:List ResultVar)(k:List SV->Prop)(x:SV):Prop:=bif x.jI then Ge T p m r (kx x k)else False
def Rq{r:List ResultVar}{k:List SV->Prop}:Ge T p m (.tmp t::r) k=bif (ig p t).jI then Ge T p m r (kx (ig p t) k)else False:=rfl
def Rr{a:Nat}{r:List ResultVar}{k:List SV->Prop}:Ge T p m (.cell a t::r) k=rd T p m (kz T p m r k) (.load t (.tmp a)):=rfl
def kf(T:TT)(a:List ResultVar)(R:Value->E->Prop):Exit->Fr->E->Prop
 | .normal,p,m=>Ge T p m a (kR m R)
 | .ret,p,m=>Ge T p m a (kR m R)
 |_,_,_=>False
def XY{b:List ResultVar}{a:List SV}{R:Value->E->Prop}:Sx P T G A n b c a m R=vc P T G n A c (um 0 a) m (kf T b R):=by
 unfold kf kR;rfl
end
def Tg(_:Prop):Type:=Prop
def Tg.p{q:Prop}(t:Tg q):Prop:=t
def Tg.lf(q:Prop):Tg q:=q
def Tg.pm{a b:Prop}{h:Tg a=Tg b}:Tg.p (Eq.mpr h (Tg.lf b))=b:=rfl
def rg1:List.range 1=[0]:=rfl
def rg2:List.range 2=[0,1]:=rfl
def rg3:List.range 3=[0,1,2]:=rfl
def rg4:List.range 4=[0,1,2,3]:=rfl
def rg5:List.range 5=[0,1,2,3,4]:=rfl
def rg6:List.range 6=[0,1,2,3,4,5]:=rfl
def rg7:List.range 7=[0,1,2,3,4,5,6]:=rfl
def Tg.pm2{a b c:Prop}{h:Tg a=Tg b}{d:Tg b=Tg c}:Tg.p (Eq.mpr h (Eq.mpr d (Tg.lf c)))=c:=rfl
def Wi(_ _:Prop):Type:=Unit
def mkT{a X:Prop}(_:Wi a X)(t:Tg a)(_:t.p=X):True:=trivial
end Go.Vc
end
namespace Go.Proofs.YtkoifinbblcbiaaGreat
open Go.Vc
section
noncomputable abbrev cp:=Tryz.prog
def WI:TT:=[(0,⟨.tuple [],[],0⟩),
 (3,⟨.cell,[.I],8⟩),
 (4,⟨.cell,[.T],1⟩),
 (5,⟨.cell,[(.U .u8)],1⟩),
 (22,⟨.slice 5,[.S],24⟩),
 (23,⟨.slice 90,[.S],24⟩),
 (24,⟨.slice 43,[.S],24⟩),
 (26,⟨.struct [(0,23),(1,24)],[.S,.S],48⟩),
 (27,⟨.slice 3,[.S],24⟩),
 (28,⟨.slice 46,[.S],24⟩),
 (29,⟨.slice 38,[.S],24⟩),
 (31,⟨.struct [(0,3),(1,3),(2,3),(3,3),(4,27),(5,28),(6,29)],[.I,.I,.I,.I,.S,.S,.S],104⟩),
 (32,⟨.tuple [26,31],[],0⟩),
 (34,⟨.tuple [31,4],[],0⟩),
 (38,⟨.struct [(0,3),(1,3),(2,3),(3,27),(4,27),(5,27)],[.I,.I,.I,.S,.S,.S],96⟩),
 (40,⟨.struct [(0,3),(1,3),(2,3),(3,3),(4,27),(5,27)],[.I,.I,.I,.I,.S,.S],80⟩),
 (41,⟨.slice 40,[.S],24⟩),
 (43,⟨.struct [(0,27),(1,27),(2,3),(3,3),(4,41)],[.S,.S,.I,.I,.S],88⟩),
 (46,⟨.struct [(0,3),(1,3),(2,27)],[.I,.I,.S],40⟩),
 (49,⟨.tuple [26,31,3],[],0⟩),
 (54,⟨.tuple [26,3],[],0⟩),
 (57,⟨.struct [(0,3),(1,3),(2,3),(3,3),(4,3),(5,3),(6,3),(7,3)],[.I,.I,.I,.I,.I,.I,.I,.I],64⟩),
 (58,⟨.tuple [57,4],[],0⟩),
 (63,⟨.cell,[.P],8⟩),
 (68,⟨.struct [(0,26),(2,3),(3,31)],[.S,.S,.I,.I,.I,.I,.I,.S,.S,.S],160⟩),
 (69,⟨.cell,[.P],8⟩),
 (71,⟨.struct [(0,26),(2,31)],[.S,.S,.I,.I,.I,.I,.S,.S,.S],152⟩),
 (87,⟨.struct [(0,22),(1,3)],[.S,.I],32⟩),
 (88,⟨.slice 218,[.S],24⟩),
 (90,⟨.struct [(0,3),(1,3),(2,88)],[.I,.I,.S],40⟩),
 (94,⟨.cell,[.P],8⟩),
 (95,⟨.cell,[.P],8⟩),
 (101,⟨.cell,[.F],8⟩),
 (107,⟨.slice 163,[.S],24⟩),
 (109,⟨.struct [(0,23),(1,107)],[.S,.S],48⟩),
 (110,⟨.tuple [109,4],[],0⟩),
 (113,⟨.tuple [27,4],[],0⟩),
 (120,⟨.cell,[.P],8⟩),
 (122,⟨.slice 175,[.S],24⟩),
 (124,⟨.struct [(0,23),(1,122)],[.S,.S],48⟩),
 (127,⟨.cell,[.P],8⟩),
 (129,⟨.struct [(0,3),(1,3),(2,3),(3,3),(4,3),(5,3),(6,3),(7,3)],[.I,.I,.I,.I,.I,.I,.I,.I],64⟩),
 (130,⟨.tuple [3,3],[],0⟩),
 (135,⟨.tuple [27,27],[],0⟩),
 (140,⟨.slice 46,[.S],24⟩),
 (163,⟨.struct [(0,27),(1,27),(2,3)],[.S,.S,.I],56⟩),
 (167,⟨.tuple [3,4],[],0⟩),
 (171,⟨.slice 173,[.S],24⟩),
 (173,⟨.struct [(0,3),(1,3),(2,171)],[.I,.I,.S],40⟩),
 (175,⟨.struct [(0,27),(1,3),(2,173)],[.S,.I,.I,.I,.S],72⟩),
 (181,⟨.slice 205,[.S],24⟩),
 (183,⟨.struct [(0,23),(1,181)],[.S,.S],48⟩),
 (188,⟨.cell,[.F],8⟩),
 (189,⟨.cell,[.P],8⟩),
 (191,⟨.slice 4,[.S],24⟩),
 (201,⟨.slice 226,[.S],24⟩),
 (203,⟨.struct [(0,201),(1,3)],[.S,.I],32⟩),
 (205,⟨.struct [(0,27),(1,27),(2,3),(3,203)],[.S,.S,.I,.S,.I],88⟩),
 (206,⟨.cell,[.P],8⟩),
 (208,⟨.struct [(0,41)],[.S],24⟩),
 (218,⟨.struct [(0,27)],[.S],24⟩),
 (220,⟨.map 3 3,[.M],8⟩),
 (222,⟨.tuple [3,218],[],0⟩),
 (224,⟨.slice 203,[.S],24⟩),
 (226,⟨.struct [(0,3),(1,3),(2,3),(3,27),(4,224)],[.I,.I,.I,.S,.S],72⟩),
 (229,⟨.cell,[.P],8⟩),
 (230,⟨.tuple [229,4],[],0⟩),
 (233,⟨.struct [(0,27),(1,27),(2,27),(3,27),(4,27),(5,27),(6,27)],[.S,.S,.S,.S,.S,.S,.S],168⟩),
 (259,⟨.slice 27,[.S],24⟩),
 (275,⟨.cell,[.P],8⟩),
 (277,⟨.struct [(0,201),(1,3)],[.S,.I],32⟩)]
abbrev sR:Nat:=4
abbrev Qb:Nat:=22
abbrev di:Nat:=203
abbrev lY:Nat:=46
abbrev oW:Nat:=218
abbrev jW:Nat:=90
abbrev bF:Nat:=173
abbrev dP:Nat:=38
abbrev fm:Nat:=175
abbrev vn:Nat:=26
abbrev dX:Nat:=40
abbrev nh:Nat:=183
abbrev jA:Nat:=43
abbrev kJ:Nat:=124
abbrev jP:Nat:=205
abbrev iv:Nat:=31
abbrev gC:Nat:=226
abbrev eD:Nat:=140
abbrev bR:Nat:=68
abbrev pV:Nat:=163
abbrev lZ:Nat:=109
abbrev aA:Nat:=3
abbrev xK:Nat:=27
abbrev nZ:Nat:=208
abbrev Bz:Nat:=233
abbrev lE:Nat:=277
abbrev bJ:Nat:=71
abbrev pW:Nat:=87
abbrev TZ:Nat:=5
def OV:uj cp WI:=by
 unfold uj;kernel_rfl
def GL:List Nat:=List.range' 3 337
def Za:Us cp GL:=by
 unfold Us;kernel_rfl
def Zb:cp.follows .mixedOrders=true:=by kernel_rfl
def nbq(a b:Nat):Nat.beq a b=(a==b):=by rw[Jw];simp
def nbl(a b:Nat):Nat.ble a b=(a -b==0):=by rw[Jw];simp;omega
def nbt(a b:Nat):Nat.blt a b=(a+1 -b==0):=by rw[Jw];simp[Nat.blt];omega
def gel(g:Nat):List.elem g GL=(3 -g==0&&(g -339==0)):=by rw[Jw];simp[GL];omega
section
variable{α β:Type}{a:α}{b:β}
def atl(l:List α):(Array.mk l).toList=l:=rfl
end
section
variable(a b c d e f)
def o1:(Oper.mk a b c d e f).dst=a:=rfl
def o2:(Oper.mk a b c d e f).op=b:=rfl
def o3:(Oper.mk a b c d e f).type=c:=rfl
def o5:(Oper.mk a b c d e f).after=e:=rfl
def o6:(Oper.mk a b c d e f).guard=f:=rfl
end
section
variable(a b c)
def a2:(O1.mk a b c).TH=a:=rfl
def a3:(O1.mk a b c).UK=b:=rfl
def a4:(O1.mk a b c).eB=c:=rfl
def t1:(TI.mk a b c).HM=a:=rfl
def t2:(TI.mk a b c).sh=b:=rfl
def t3:(TI.mk a b c).bytes=c:=rfl
def g1:(Edge.mk a b).on=a:=rfl
def g2:(Edge.mk a b).ground=b:=rfl
end
def A0:O1:=⟨[],[],[]⟩
def cI(x:Int):SV:=.c (.i x)
def cS(x:O):SV:=.c (.s x)
def cP(x:Nat×Nat):SV:=.c (.p x.1 x.2)
instance:Coe Int SV:=⟨cI⟩
instance:Coe O SV:=⟨cS⟩
instance:Coe (Nat×Nat) SV:=⟨cP⟩
instance:Coe Int Ce:=⟨.i⟩
instance:Coe O Ce:=⟨.s⟩
def na(n:Nat){x:TI}(h:fJ WI n=some x:=by cbv):fJ WI n=some x:=h
def tg0:=na 0
def tg3:=na 3
def tg4:=na 4
def tg5:=na 5
def Yv:=na 22
def Yw:=na 23
def Yx:=na 24
def Yy:=na 26
def Yz:=na 27
def YA:=na 28
def YB:=na 29
def YC:=na 31
def YD:=na 32
def YE:=na 34
def YF:=na 38
def YG:=na 40
def YH:=na 41
def YI:=na 43
def YJ:=na 46
def YK:=na 49
def YL:=na 54
def YM:=na 57
def YN:=na 58
def YO:=na 63
def YP:=na 68
def YQ:=na 69
def YR:=na 71
def YS:=na 87
def YT:=na 88
def YU:=na 90
def YV:=na 94
def YW:=na 95
def VP:=na 101
def VQ:=na 107
def VR:=na 109
def VS:=na 110
def VT:=na 113
def VU:=na 120
def VV:=na 122
def VW:=na 124
def VX:=na 127
def VY:=na 129
def VZ:=na 130
def V0:=na 135
def V1:=na 140
def V2:=na 163
def V3:=na 167
def V5:=na 171
def V6:=na 173
def V7:=na 175
def V8:=na 181
def V9:=na 183
def Wa:=na 188
def Wb:=na 189
def Wc:=na 191
def Wd:=na 201
def We:=na 203
def Wf:=na 205
def Wg:=na 206
def Wh:=na 208
def Wj:=na 218
def Wk:=na 220
def Wl:=na 222
def Wm:=na 224
def Wn:=na 226
def Wo:=na 229
def Wp:=na 230
def Wq:=na 233
def Wr:=na 259
def Ws:=na 275
def Wt:=na 277
def cX(m:E)(R:Value->E->Prop)(A:O1)(a:List SV){f:FuncId}{b:Go.Func}{X:Prop}{c:Code}{n:Nat}{e:List ResultVar}{g:List Value}(k:cp.funcs[f]? =some b)
 (d:(b.body,b.ntmps,b.results)=(some c,n,Array.mk e):=by cbv)
 (i:a.all SV.jI=true:=by kernel_rfl)(l:Nat.ble a.length n=true:=by kernel_rfl)(hd:qj c=true:=by kernel_rfl)
 (o:a.map SV.v=g:=by dsimp only[List.map,cI,cS,cP,SV.v,Ce.v])
 (w:Wi (Sx cp WI GL A n e c a m R) X->True:=by intro w;obtain - :=mkT w (by sym -abstractProof=>simp[gel,A0.eq_1,cI.eq_1,cS.eq_1,cP.eq_1,tg0,tg3,tg4,tg5,Yv,Yw,Yx,Yy,Yz,YA,YB,YC,YD,YE,YF,YG,YH,YI,YJ,YK,YL,YM,YN,YO,YP,YQ,YR,YS,YT,YU,YV,YW,VP,VQ,VR,VS,VT,VU,VV,VW,VX,VY,VZ,V0,V1,V2,V3,V5,V6,V7,V8,V9,Wa,Wb,Wc,Wd,We,Wf,Wg,Wh,Wj,Wk,Wl,Wm,Wn,Wo,Wp,Wq,Wr,Ws,Wt,nbq,nbl,nbt,atl,o1,o2,o3,o5,o6,a2,a3,a4,t1,t2,t3,g1,g2,cK,fD,cZ,eF,NV,List.all_nil,aZ,eW,List.elem_cons,NU,Bool.false_and,Vf,Ve,Bool.true_or,NS,Mj,Bool.and_true,nT,Option.map_none,iz,jq,my,List.flatMap_nil,List.isEmpty_cons,List.isEmpty_nil,List.any_cons,Qi,qL,Nc,um.eq_1,um.eq_2,vc.eq_1,vc.eq_4,vc.eq_6,vc.eq_7,vc.eq_8,uB.eq_def,Yp.eq_def,VM.eq_def,qS.eq_1,qS.eq_2,Lj.eq_def,Ul.eq_1,Ul.eq_2,uo.eq_1,Dh.eq_1,Dh.eq_2,k8.eq_1,pP.eq_1,pP.eq_2,oG.eq_def,nC.eq_1,nC.eq_2,Pk.eq_1,Pj.eq_1,Og.eq_1,Og.eq_2,Hv.eq_1,Hv.eq_2,QK.eq_def,VK.eq_1,Dl.eq_def,lk.eq_1,lk.eq_2,oJ.eq_1,Dy.eq_1,Dy.eq_2,Lq.eq_1,Lq.eq_2,pJ.eq_def,wN.eq_def,kN.eq_1,nW.eq_1,nW.eq_2,lB.eq_1,tZ.eq_1,tZ.eq_2,tZ.eq_3,sk.eq_1,zB.eq_1,zB.eq_2,gd.eq_1,gd.eq_2,KR.eq_1,rZ.eq_1,rZ.eq_2,KX.eq_def,wr.eq_1,wr.eq_2,wr.eq_4,wr.eq_6,wr.eq_8,wr.eq_9,wr.eq_10,wr.eq_11,wU.eq_1,wU.eq_2,Sd.eq_1,Um.eq_1,Mo.eq_def,Ad.eq_def,rd.eq_1,rd.eq_2,rd.eq_3,rd.eq_4,rd.eq_5,rd.eq_6,rd.eq_7,rd.eq_8,rd.eq_9,rd.eq_10,rd.eq_11,rd.eq_12,rd.eq_13,rd.eq_15,SC.eq_def,Vt,Vu,Vv,Nr.eq_1,Hd.eq_1,Hd.eq_2,Ou.eq_1,MI.eq_1,MI.eq_2,uZ.eq_1,uZ.eq_2,Ft.eq_1,Ft.eq_2,mh.eq_1,mh.eq_2,mh.eq_3,mh.eq_4,mh.eq_5,SV.cells.eq_def,Zg.eq_def,UQ.eq_def,Uy.eq_def,rO.eq_1,rO.eq_2,rO.eq_3,rO.eq_6,rO.eq_7,rO.eq_8,rO.eq_9,rO.eq_10,rO.eq_11,rO.eq_12,Vx,Vz,VI.eq_1,HQ.eq_1,HQ.eq_2,HQ.eq_3,ly.eq_def,SV.jI.eq_def,TI.ux.eq_1,TI.agg.eq_1,Sh.zero.eq_1,Sh.zero.eq_2,Sh.zero.eq_3,Sh.zero.eq_4,Sh.zero.eq_5,Sh.zero.eq_6,Sh.zero.eq_7,ev.eq_1,ev.eq_2,ev.eq_3,ev.eq_4,Fw.eq_def,pC.eq_1,pC.eq_2,kL.eq_1,kL.eq_3,kL.eq_4,kL.eq_5,kL.eq_6,kL.eq_7,tX.eq_1,tX.eq_2,SV.nb.eq_def,ig.eq_1,ig.eq_2,AV.sv.eq_1,AV.sv.eq_2,SV.v.eq_1,SV.v.eq_2,SV.v.eq_3,SV.v.eq_4,SV.v.eq_5,SV.v.eq_6,SV.v.eq_7,SV.v.eq_8,SV.v.eq_9,AV.v.eq_1,AV.v.eq_2,Ce.v.eq_1,Ce.v.eq_2,Ce.v.eq_3,Ce.v.eq_4,Ce.v.eq_5,Ce.v.eq_6,Ce.v.eq_7,Ce.v.eq_8,Ce.v.eq_9,Ce.v.eq_10,Ce.v.eq_11,Ce.v.eq_12,Ce.v.eq_13,uX.eq_1,uX.eq_2,Tz.eq_1,Fx.eq_def,jb.eq_1,jb.eq_2,Hs.eq_1,Hs.eq_2,Ob.eq_1,Ob.eq_2,Sh.ty.eq_1,Sh.ty.eq_2,Sh.ty.eq_3,Sh.ty.eq_4,Sh.ty.eq_5,Sh.ty.eq_6,Sh.ty.eq_7,Sh.mk.eq_1,Sh.mk.eq_2,Sh.mk.eq_3,Sh.mk.eq_4,Sh.mk.eq_5,Sh.mk.eq_6,Sh.mk.eq_7,Oh.eq_1,SV.UE.eq_def,AV.UE.eq_1,AV.UE.eq_2,Ge.eq_1,UW.eq_1,UW.eq_2,Td.eq_1,Td.eq_2,ZR.eq_1,ZQ.eq_1,ZW.eq_1,ZX.eq_1,ZT.eq_1,ZL.eq_1,ZM.eq_1,pa.eq_1,p3.eq_1,p2.eq_1,Rz.eq_1,UO.eq_1,ZP.eq_1,ZS.eq_1,Yk.eq_1,ZY.eq_1,ZV.eq_1,ZU.eq_1,UP.eq_1,ZN.eq_1,ZO.eq_1,kw.eq_1,kr.eq_1,ky.eq_1,kn.eq_1,ZD.eq_1,ZG.eq_1,Y8.eq_1,ZE.eq_1,ZH.eq_1,ZF.eq_1,kq.eq_1,ks.eq_def,kc.eq_def,ki.eq_1,kb.eq_def,ke.eq_def,kl.eq_1,kR.eq_def,kx.eq_1,kz.eq_1,kf.eq_def,Oe.eq_1,XZ,Tt,Rt,Rp,Vq,Vr,VA,Tp,XV,Tq,Vw,Ts,Tm,Tn,Vy,VB,Ro,Tu,Rq,Rr,XY,XW,Vm,Vn,exI,exU,exB,Yd,exP,exF,exM,alI,alU,alB,XK,alP,alF,alM,cU8,z0,z1,tb,Vo,b1,b2,b3,b4,b5,b6,Tv,Tw,Yb,Ya,X0,Vp,Vs,rg1,rg2,rg3,rg4,rg5,rg6,rg7,jF];exact Tg.lf _) (by refine Tg.pm.trans ?_;dsimp -zeta+instances only[↓RF,ile,↓Yi,nze,nce,Hs,Ob,Sh.ty,Int.cast_ofNat_Int]);trivial)
 (j:X=Sx cp WI GL A n e c a m R:=by kernel_rfl)
 :X->aN cp f g m R:=λh=>by
 subst o
 exact xL OV Za Zb k (nU Prod.fst d) (nU (λx=>x.2.1) d) (nU (λx=>x.2.2) d) i (lJ l) hd (j▸h)
def aaa(m:E)(R:Value->E->Prop)(A:O1)(a:List SV){f:FuncId}{b:Go.Func}{X:Prop}{c:Code}{n:Nat}{e:List ResultVar}{g:List Value}(k:cp.funcs[f]? =some b)
 (d:(b.body,b.ntmps,b.results)=(some c,n,Array.mk e):=by cbv)
 (i:a.all SV.jI=true:=by kernel_rfl)(l:Nat.ble a.length n=true:=by kernel_rfl)(hd:qj c=true:=by kernel_rfl)
 (o:a.map SV.v=g:=by dsimp only[List.map,cI,cS,cP,SV.v,Ce.v])
 (w:Wi (Sx cp WI GL A n e c a m R) X->True:=by intro w;obtain - :=mkT w (by sym -abstractProof=>simp[gel,A0.eq_1,cI.eq_1,cS.eq_1,cP.eq_1,tg0,tg3,tg4,tg5,Yv,Yw,Yx,Yy,Yz,YA,YB,YC,YD,YE,YF,YG,YH,YI,YJ,YK,YL,YM,YN,YO,YP,YQ,YR,YS,YT,YU,YV,YW,VP,VQ,VR,VS,VT,VU,VV,VW,VX,VY,VZ,V0,V1,V2,V3,V5,V6,V7,V8,V9,Wa,Wb,Wc,Wd,We,Wf,Wg,Wh,Wj,Wk,Wl,Wm,Wn,Wo,Wp,Wq,Wr,Ws,Wt,nbq,nbl,nbt,atl,o1,o2,o3,o5,o6,a2,a3,a4,t1,t2,t3,g1,g2,cK,fD,cZ,eF,NV,List.all_nil,aZ,eW,List.elem_cons,NU,Bool.false_and,Vf,Ve,Bool.true_or,NS,Mj,Bool.and_true,nT,Option.map_none,iz,jq,my,List.flatMap_nil,List.isEmpty_cons,List.isEmpty_nil,List.any_cons,Qi,qL,Nc,um.eq_1,um.eq_2,vc.eq_1,vc.eq_4,vc.eq_6,vc.eq_7,vc.eq_8,uB.eq_def,Yp.eq_def,VM.eq_def,qS.eq_1,qS.eq_2,Lj.eq_def,Ul.eq_1,Ul.eq_2,uo.eq_1,Dh.eq_1,Dh.eq_2,k8.eq_1,pP.eq_1,pP.eq_2,oG.eq_def,nC.eq_1,nC.eq_2,Pk.eq_1,Pj.eq_1,Og.eq_1,Og.eq_2,Hv.eq_1,Hv.eq_2,QK.eq_def,VK.eq_1,Dl.eq_def,lk.eq_1,lk.eq_2,oJ.eq_1,Dy.eq_1,Dy.eq_2,pJ.eq_def,wN.eq_def,kN.eq_1,nW.eq_1,nW.eq_2,lB.eq_1,tZ.eq_1,tZ.eq_2,tZ.eq_3,sk.eq_1,zB.eq_1,zB.eq_2,gd.eq_1,gd.eq_2,KR.eq_1,rZ.eq_1,rZ.eq_2,KX.eq_def,wr.eq_1,wr.eq_2,wr.eq_4,wr.eq_6,wr.eq_8,wr.eq_9,wr.eq_10,wr.eq_11,wU.eq_1,wU.eq_2,Sd.eq_1,Um.eq_1,Mo.eq_def,Ad.eq_def,rd.eq_1,rd.eq_2,rd.eq_3,rd.eq_4,rd.eq_5,rd.eq_6,rd.eq_7,rd.eq_8,rd.eq_9,rd.eq_10,rd.eq_11,rd.eq_12,rd.eq_13,rd.eq_15,SC.eq_def,Vt,Vu,Vv,Nr.eq_1,Hd.eq_1,Hd.eq_2,Ou.eq_1,MI.eq_1,MI.eq_2,uZ.eq_1,uZ.eq_2,Ft.eq_1,Ft.eq_2,mh.eq_1,mh.eq_2,mh.eq_3,mh.eq_4,mh.eq_5,SV.cells.eq_def,Zg.eq_def,UQ.eq_def,Uy.eq_def,rO.eq_1,rO.eq_2,rO.eq_3,rO.eq_6,rO.eq_7,rO.eq_8,rO.eq_9,rO.eq_10,rO.eq_11,rO.eq_12,Vx,Vz,VI.eq_1,HQ.eq_1,HQ.eq_2,HQ.eq_3,ly.eq_def,SV.jI.eq_def,TI.ux.eq_1,TI.agg.eq_1,Sh.zero.eq_1,Sh.zero.eq_2,Sh.zero.eq_3,Sh.zero.eq_4,Sh.zero.eq_5,Sh.zero.eq_6,Sh.zero.eq_7,ev.eq_1,ev.eq_2,ev.eq_3,ev.eq_4,Fw.eq_def,pC.eq_1,pC.eq_2,kL.eq_1,kL.eq_3,kL.eq_4,kL.eq_5,kL.eq_6,kL.eq_7,tX.eq_1,tX.eq_2,SV.nb.eq_def,ig.eq_1,ig.eq_2,AV.sv.eq_1,AV.sv.eq_2,SV.v.eq_1,SV.v.eq_2,SV.v.eq_3,SV.v.eq_4,SV.v.eq_5,SV.v.eq_6,SV.v.eq_7,SV.v.eq_8,SV.v.eq_9,AV.v.eq_1,AV.v.eq_2,Ce.v.eq_1,Ce.v.eq_2,Ce.v.eq_3,Ce.v.eq_4,Ce.v.eq_5,Ce.v.eq_6,Ce.v.eq_7,Ce.v.eq_8,Ce.v.eq_9,Ce.v.eq_10,Ce.v.eq_11,Ce.v.eq_12,Ce.v.eq_13,uX.eq_1,uX.eq_2,Tz.eq_1,Fx.eq_def,jb.eq_1,jb.eq_2,Hs.eq_1,Hs.eq_2,Ob.eq_1,Ob.eq_2,Sh.ty.eq_1,Sh.ty.eq_2,Sh.ty.eq_3,Sh.ty.eq_4,Sh.ty.eq_5,Sh.ty.eq_6,Sh.ty.eq_7,Sh.mk.eq_1,Sh.mk.eq_2,Sh.mk.eq_3,Sh.mk.eq_4,Sh.mk.eq_5,Sh.mk.eq_6,Sh.mk.eq_7,Oh.eq_1,SV.UE.eq_def,AV.UE.eq_1,AV.UE.eq_2,Ge.eq_1,UW.eq_1,UW.eq_2,Td.eq_1,Td.eq_2,ZR.eq_1,ZQ.eq_1,ZW.eq_1,ZX.eq_1,ZT.eq_1,ZL.eq_1,ZM.eq_1,pa.eq_1,p3.eq_1,p2.eq_1,Rz.eq_1,UO.eq_1,ZP.eq_1,ZS.eq_1,Yk.eq_1,ZY.eq_1,ZV.eq_1,ZU.eq_1,UP.eq_1,ZN.eq_1,ZO.eq_1,kw.eq_1,kr.eq_1,ky.eq_1,kn.eq_1,ZD.eq_1,ZG.eq_1,Y8.eq_1,ZE.eq_1,ZH.eq_1,ZF.eq_1,kq.eq_1,ks.eq_def,kc.eq_def,ki.eq_1,kb.eq_def,ke.eq_def,kl.eq_1,kR.eq_def,kx.eq_1,kz.eq_1,kf.eq_def,Oe.eq_1,XZ,Tt,Rt,Rp,Vq,Vr,VA,Tp,XV,Tq,Vw,Ts,Tm,Tn,Vy,VB,Ro,Tu,Rq,Rr,XY,XW,Vm,Vn,exI,exU,exB,Yd,exP,exF,exM,alI,alU,alB,XK,alP,alF,alM,cU8,z0,z1,tb,Vo,b1,b2,b3,b4,b5,b6,Tv,Tw,Yb,Ya,X0,Vp,Vs];simp[cK,fD,jF,Lq.eq_1,Lq.eq_2,rg1,rg2,rg3,rg4,rg5,rg6,rg7];exact Tg.lf _) (by refine Tg.pm2.trans ?_;dsimp -zeta+instances only[↓RF,ile,↓Yi,nze,nce,Hs,Ob,Sh.ty,Int.cast_ofNat_Int]);trivial)
 (j:X=Sx cp WI GL A n e c a m R:=by kernel_rfl)
 :X->aN cp f g m R:=λh=>by
 subst o
 exact xL OV Za Zb k (nU Prod.fst d) (nU (λx=>x.2.1) d) (nU (λx=>x.2.2) d) i (lJ l) hd (j▸h)
end
section
open Tryz
variable{m:E}{R:Value->E->Prop}
variable{a b c d e f g h p q r u v w x y:O}{i j k l n o s t z A B C D F G H:Int}
def va(a:O):=cX m R A0 [a] func12
def zI(a:O):=cX m R ⟨[],[(4,[(6,.P)])],[(4,[26,25,24])]⟩ [.agg [a,b],.agg [i,j,k,l,c,d,e]] func13
def Aj(a:O):=cX m R A0 [.agg [a,b],.agg [i,j,k,l,c,d,e]] func14
def yA(i:Int):=cX m R A0 [.agg [i,j,k,l,a,b,c],.agg [n,o,s,t,d,e,f]] func15
def zU(a:O):=cX m R ⟨[(4,[(5,.I)])],[],[]⟩ [a,b] func16
def yz(i:Int):=cX m R A0 [.agg [i,j,k,a,b,c],.agg [l,n,o,d,e,f]] func17
end
section
open Tryz
variable{m:E}{R:Value->E->Prop}
variable{a b c d e f g h p q r u v w x y:O}{i j k l n o s t z A B C D F G H:Int}
def yo(a:O):=cX m R A0 [.agg [a,b],.agg [i,j,k,l,c,d,e]] func21
def yG(p:Nat×Nat):=cX m R A0 [p] func29
def AU(a:O):=cX m R A0 [a] func30
def Ch(a:O):=cX m R ⟨[(3,[(3,.I),(8,.I)])],[],[]⟩ [a] func31
def yr(i:Int):=cX m R ⟨[(3,[(20,.I)])],[],[(3,[52,53])]⟩ [.agg [i,j,k,l,a,b,c]] func32
def vM(p:Nat×Nat):=cX m R ⟨[],[(5,[(4,.T)])],[(5,[91])]⟩ [p] func33
def zc(a:O):=cX m R ⟨[(8,[(5,.I)])],[(5,[])],[(5,[93,92]),(8,[93,92])]⟩ [.agg [a,b],.agg [i,j,k,l,c,d,e]] func34
def Ax(i:Int):=cX m R ⟨[(3,[(4,.I)])],[(2,[(3,.P)])],[(2,[58,57]),(3,[58,57])]⟩ [.agg [i,j,k,l,a,b,c]] func35
def wy(p:Nat×Nat):=cX m R A0 [p] func36
def zT(a:O):=cX m R ⟨[(4,[(5,.I)])],[],[]⟩ [a,b] func37
def wT(a:O):=cX m R ⟨[(4,[(5,.I)])],[],[]⟩ [a,b] func38
def yS(p:Nat×Nat):=cX m R A0 [p,a] func39
def xy(p:Nat×Nat):=cX m R A0 [p,i] func40
end
section
open Tryz
variable{m:E}{R:Value->E->Prop}
variable{a b c d e f g h p q r u v w x y:O}{i j k l n o s t z A B C D F G H:Int}
def Ez(i:Int):=cX m R A0 [i,j,k] func41
def xu(p:Nat×Nat):=cX m R ⟨[(2,[(5,.I)])],[],[]⟩ [p,i] func42
def ym(a:O):=cX m R ⟨[(5,[(20,.I)]),(13,[(66,.I)])],[(12,[])],[(5,[82,80]),(12,[85,82,80]),(13,[85,82,80])]⟩ [.agg [a,b]] func43
def yy(a:O):=cX m R ⟨[(10,[(95,.I)]),(20,[(158,.I)])],[(3,[]),(16,[]),(24,[])],[(3,[191,190]),(10,[191,190]),(16,[197,191,190]),(20,[191,190]),(24,[191,190])]⟩ [.agg [a,b],.agg [i,j,k,l,c,d,e]] func44
def yZ(a:O):=cX m R ⟨[(4,[(3,.I)])],[],[(4,[30])]⟩ [.agg [a,b]] func51
def Co(p:Nat×Nat):=cX m R A0 [p] func53
def yW(p:Nat×Nat):=cX m R A0 [p,.agg [i,j,k,l,a,b,c]] func54
def AH(p:Nat×Nat):=cX m R A0 [p,.agg [a,b]] func55
def tx(a:O):=cX m R A0 [a] func56
def zL(a:O):=cX m R ⟨[(3,[(10,.I)])],[],[]⟩ [a] func57
def mG(a:O):=cX m R A0 [a] func58
end
section
open Tryz
variable{m:E}{R:Value->E->Prop}
variable{a b c d e f g h p q r u v w x y:O}{i j k l n o s t z A B C D F G H:Int}
def wS(p q:Nat×Nat):=cX m R ⟨[(4,[(28,.I)]),(14,[(65,.I)])],[(13,[])],[(4,[212,211]),(13,[212,211]),(14,[212,211])]⟩ [p,q,.agg [i,j,k,l,a,b]] func59
def yw(p q:Nat×Nat):=cX m R ⟨[(3,[(24,.I)])],[],[(3,[353])]⟩ [p,q,.agg [i,j,k,l,a,b]] func60
def yE(a:O):=cX m R ⟨[(2,[(3,.I)])],[],[]⟩ [a] func61
def Bn(a:O):=cX m R ⟨[(4,[(3,.I)]),(10,[(5,.I)])],[(3,[])],[]⟩ [a] func62
def yY(a:O):=cX m R A0 [.agg [a,b],.agg [i,j,k,l,c,d,e],n] func63
def CH(i:Int):=cX m R ⟨[(3,[(4,.I)]),(6,[(5,.I)]),(14,[(7,.I)])],[],[(3,[101]),(6,[101]),(14,[101])]⟩ [.agg [i,j,k,l,a,b,c]] func64
def xg(i:Int):=cX m R ⟨[(4,[(5,.I)])],[],[(4,[44])]⟩ [.agg [i,j,k,l,a,b,c]] func65
def nB(a:O):=cX m R A0 [a] func66
def Cv(a:O):=cX m R ⟨[(3,[(3,.S),(4,.I)])],[],[]⟩ [a] func67
def Gy(i:Int):=cX m R A0 [i] func68
def CS(i:Int):=cX m R ⟨[(3,[(6,.I)])],[],[(3,[42])]⟩ [.agg [i,j,k,a,b,c],d] func69
def EQ(a:O):=cX m R ⟨[(4,[(5,.S),(6,.I)])],[(3,[(30,.T)])],[(3,[70,69]),(4,[70,69])]⟩ [.agg [a,b],.agg [i,j,k,l,c,d]] func70
def ue(p:Nat×Nat):=cX m R ⟨[],[(3,[])],[(3,[226,225])]⟩ [p,.agg [i,j,k,a,b,c],.agg [l,n,o,s,d,e],f] func71
def tE(p:Nat×Nat):=cX m R A0 [p,.agg [i,j,k,a,b,c],.agg [l,n,o,s,d,e]] func72
def zS(i:Int):=cX m R A0 [.agg [i,j,a],.agg [k,l,b]] func73
def zP(a:O):=cX m R ⟨[(5,[(18,.I)])],[],[(5,[43,42])]⟩ [.agg [a,b]] func74
def pF(a:O):=cX m R ⟨[(6,[(88,.I)])],[(5,[])],[(5,[147,146,145,144]),(6,[147,146,145,144])]⟩ [.agg [a,b],.agg [c,d,i,j,e],k,.agg [l,n,o,s,f,g]] func75
def HI(i:Int):=cX m R A0 [i] func76
end
section
open Tryz
variable{m:E}{R:Value->E->Prop}
variable{a b c d e f g h p q r u v w x y:O}{i j k l n o s t z A B C D F G H:Int}
def wR(a:O):=cX m R ⟨[(3,[(26,.I)]),(8,[(37,.I)]),(21,[(12,.S),(73,.I)]),(28,[(12,.S),(13,.I)]),(33,[(12,.S),(127,.I)])],[(17,[])],[(8,[165]),(33,[175])]⟩ [a] func77
def oY(s:O)(f:Fn×Array Value×Array Value):=cX m R A0 [s,.c (.fv f)] func78
def vR(i:Int):=cX m R A0 [i] func79
def yu(a:O):=cX m R ⟨[(7,[(63,.I)])],[],[(7,[97,95,94])]⟩ [.agg [a,b],.agg [i,j,k,c,d,e]] func80
def wP(i:Int):=cX m R ⟨[(2,[(17,.I)])],[(9,[])],[(2,[82]),(9,[82])]⟩ [.agg [i,j,k,a,b,c],d,e,f] func81
def Cj(a:O):=cX m R A0 [.agg [a,b],i,j] func83
def Bt(a:O):=cX m R ⟨[(4,[(3,.I)])],[],[(4,[65])]⟩ [.agg [a,b]] func84
def xD(a:O):=cX m R ⟨[(3,[(4,.I)])],[],[(3,[37,36])]⟩ [.agg [a,b]] func85
def Bq(a:O):=cX m R ⟨[(5,[(6,.I)])],[],[(5,[62,61])]⟩ [.agg [a,b],.agg [c,d,i,j,e]] func86
def yX(a:O):=cX m R A0 [.agg [a,b],i] func87
def AG(p:Nat×Nat):=cX m R A0 [p] func90
def Ao(p:Nat×Nat):=cX m R ⟨[(3,[(6,.I)])],[],[(3,[57,56,55])]⟩ [p,.agg [a,b]] func91
def yU(p:Nat×Nat):=cX m R A0 [p,.agg [a,b],i] func92
def sO(p:Nat×Nat):=cX m R A0 [p,a] func93
def mW(a:O):=cX m R A0 [a] func94
end
section
open Tryz
variable{m:E}{R:Value->E->Prop}
variable{a b c d e f g h p q r u v w x y:O}{i j k l n o s t z A B C D F G H:Int}
def sE(p:Nat×Nat):=cX m R ⟨[(15,[(4,.S),(5,.S),(31,.I)])],[],[(15,[62])]⟩ [p,.agg [i,j,k,l,a,b]] func95
def vQ(i:Int):=cX m R A0 [i] func96
def tY(p:Nat×Nat):=cX m R A0 [p,i] func97
def uV(p:Nat×Nat):=cX m R A0 [i,p] func98
def DR(a:O):=cX m R A0 [a] func99
def sG(p q:Nat×Nat):=cX m R A0 [p,q,.agg [i,j,k,l,a,b]] func100
def rc(p q:Nat×Nat):=cX m R ⟨[(14,[(10,.S),(74,.I)])],[],[(14,[125,121])]⟩ [p,q,.agg [i,j,k,l,a,b]] func101
def th(p q:Nat×Nat):=cX m R A0 [p,q,.agg [i,j,k,l,a,b]] func102
def zH(p:Nat×Nat):=cX m R A0 [p,i,j,k] func103
def rQ(p q:Nat×Nat):=cX m R A0 [p,q,.agg [i,j,k,l,a,b]] func104
def uT(p:Nat×Nat):=cX m R A0 [p,i,a] func105
def wQ(p:Nat×Nat):=cX m R ⟨[(3,[(13,.I)])],[],[]⟩ [p,a] func106
def zN(p:Nat×Nat):=cX m R ⟨[(1,[(4,.S)])],[],[]⟩ [p,i] func107
def vL(p q:Nat×Nat):=cX m R ⟨[(5,[(39,.I)])],[],[(5,[58])]⟩ [p,q,.agg [i,j,k,l,a,b]] func108
def vP(i:Int):=cX m R A0 [i] func109
def tA(a:O):=cX m R ⟨[(2,[(8,.I)])],[],[]⟩ [a,i] func110
def FJ(a:O):=cX m R ⟨[(6,[(6,.S),(28,.I)])],[],[]⟩ [a,i] func111
def vK(p:Nat×Nat):=cX m R ⟨[(9,[(63,.I)])],[(7,[(9,.I)])],[(7,[111]),(9,[114,111])]⟩ [p,i,a,.agg [j,k,l,n,b,c]] func112
end
section
open Tryz
variable{m:E}{R:Value->E->Prop}
variable{a b c d e f g h p q r u v w x y:O}{i j k l n o s t z A B C D F G H:Int}
def uU(a:Nat×Nat)(w:Int)(eB:Bool):=cX m R ⟨[(13,[(69,.I)])],[(5,[])],[]⟩ [a,w,.c (.t eB)] func113
def sF(p:Nat×Nat):=cX m R A0 [p,i] func114
def Bl(a:O):=cX m R ⟨[(6,[(5,.I)])],[],[(6,[59])]⟩ [a,.agg [i,j,b]] func115
def GJ(a:O):=cX m R ⟨[(3,[(4,.I)]),(6,[(5,.I)])],[],[]⟩ [a] func116
def AK(a:O):=cX m R ⟨[(4,[(4,.I),(5,.T)]),(7,[(4,.I),(5,.T),(6,.I)])],[],[]⟩ [a] func117
def Br(a:O):=cX m R ⟨[(2,[(5,.I)])],[],[(2,[53])]⟩ [a,.agg [i,j,k,b,c,d]] func118
def AM(i:Int):=cX m R A0 [i] func119
def CT(i:Int):=cX m R ⟨[(3,[(4,.I)]),(7,[(6,.I)])],[],[(3,[61]),(7,[65,61])]⟩ [.agg [i,j,k,l,a,b,c]] func120
def se(i:Int):=cX m R A0 [i] func121
def EE(a:O):=cX m R A0 [.agg [a,b],.agg [i,j,k,l,c,d],n] func122
def wA(a:O):=cX m R ⟨[(2,[(3,.I)])],[],[]⟩ [a] func123
def J7(i:Int):=cX m R A0 [i] func124
def yF(i:Int):=cX m R ⟨[(2,[(5,.I)])],[],[(2,[26,25])]⟩ [.agg [i,j,k,a,b,c],.agg [l,n,o,s,d,e]] func125
def sM(p:Nat×Nat):=cX m R A0 [p,.agg [i,j,k,a,b,c],.agg [l,n,o,s,d,e]] func126
def sK(p:Nat×Nat):=cX m R ⟨[(2,[(7,.I)])],[],[(2,[51,50])]⟩ [p,.agg [i,j,k,a,b,c],.agg [l,n,o,s,d,e]] func127
def Ek(a:O):=cX m R ⟨[(2,[(3,.I)])],[],[]⟩ [a] func128
def sL(p:Nat×Nat):=cX m R A0 [p,i] func129
def Gz(a:O):=cX m R A0 [a,i] func130
end
section
open Tryz
variable{m:E}{R:Value->E->Prop}
variable{a b c d e f g h p q r u v w x y:O}{i j k l n o s t z A B C D F G H:Int}
def ud(p:Nat×Nat):=cX m R A0 [p,i] func131
def tD(p:Nat×Nat):=cX m R A0 [p,.agg [i,j,k,a,b,c],.agg [l,n,o,s,d,e]] func132
def JR(a:O):=cX m R ⟨[(2,[(5,.I)])],[],[]⟩ [a,i] func133
def uD(a:O):=cX m R ⟨[(5,[(5,.S),(6,.I)])],[],[]⟩ [a,i] func134
def ug(p:Nat×Nat):=cX m R A0 [p,i,j] func135
def J4(i:Int):=cX m R A0 [i,j,k] func136
def rU(p:Nat×Nat):=cX m R ⟨[],[(5,[(8,.I)])],[(5,[75,74])]⟩ [p,.agg [i,j,k,a,b,c],.agg [l,n,o,s,d,e],t] func137
def Cu(a:O):=cX m R ⟨[(3,[(3,.I),(4,.I)])],[],[]⟩ [a] func138
def vh(p:Nat×Nat):=cX m R ⟨[],[(10,[(6,.I),(7,.S)])],[(10,[128,127])]⟩ [p,.agg [i,j,k,a,b,c],.agg [l,n,o,s,d,e]] func139
def vj(p:Nat×Nat):=cX m R A0 [p,.agg [i,j,k,a,b,c],l] func140
def vk(p:Nat×Nat):=cX m R ⟨[(1,[(4,.I)])],[],[]⟩ [p,a] func141
def oV(p:Nat×Nat):=cX m R A0 [p,i] func142
def AB(a:O):=cX m R ⟨[(2,[(5,.S)])],[],[]⟩ [a,b] func143
def sN(p:Nat×Nat):=cX m R ⟨[(4,[(8,.I)])],[],[(4,[111,110])]⟩ [p,.agg [i,j,k,a,b,c],.agg [l,n,o,s,d,e]] func144
def uf(p:Nat×Nat):=cX m R A0 [p,i,j] func145
def CD(a:O):=cX m R ⟨[(3,[(5,.I),(6,.I)])],[],[]⟩ [a,i] func146
def zQ(a:O):=cX m R ⟨[(4,[(39,.I)]),(9,[(64,.I)])],[],[(9,[108])]⟩ [a,b] func147
def oE(p q:Nat×Nat):=cX m R A0 [i,p,q] func148
end
section
open Tryz
variable{m:E}{R:Value->E->Prop}
variable{a b c d e f g h p q r u v w x y:O}{i j k l n o s t z A B C D F G H:Int}
def oF(p:Nat×Nat):=cX m R A0 [i,p] func149
def qA(b c:O)(d e f g:Int)(h i:O)(a:Fn×Array Value×Array Value):=cX m R A0 [.agg [b,c],.agg [d,e,f,g,h,i],.c (.fv a)] func150
def rR(a:O):=cX m R A0 [.agg [a,b],.agg [i,j,k,l,c,d]] func151
def zK(a:O):=cX m R ⟨[(6,[(48,.I)])],[(5,[])],[(5,[69]),(6,[69])]⟩ [a,.agg [i,j,b]] func152
def FR(a:O):=cX m R A0 [a,i] func153
def qD(s:O)(f:Fn×Array Value×Array Value):=cX m R ⟨[(2,[(8,.I)])],[],[]⟩ [s,.c (.fv f)] func154
def zd(a:O):=cX m R ⟨[(4,[(3,.I)])],[],[]⟩ [a] func155
def Cm(a:O):=cX m R ⟨[(2,[(5,.I)])],[],[]⟩ [a,b] func156
def Bp(a:O):=cX m R ⟨[(2,[(5,.I)])],[],[]⟩ [a,b] func157
def y8(a:O):=cX m R ⟨[(4,[(9,.I)])],[(10,[])],[(4,[241,238,237]),(10,[241,238,237])]⟩ [.agg [a,b],.agg [c,d,i,j,e],k] func158
def Ew(a:O):=cX m R A0 [.agg [a,b],i,j,c,d] func159
def Ev(a:O):=cX m R ⟨[(3,[(4,.I)])],[],[(3,[75,74])]⟩ [.agg [a,b]] func162
def wc(p:Nat×Nat):=cX m R ⟨[],[(4,[]),(6,[]),(9,[]),(11,[])],[(4,[37]),(6,[37]),(9,[37]),(11,[37])]⟩ [p] func163
def Bi(a:O):=cX m R ⟨[(3,[(4,.I)])],[],[(3,[45,44])]⟩ [.agg [a,b]] func164
def Aw(a:O):=cX m R ⟨[(3,[(4,.I)]),(8,[(6,.S),(7,.I)])],[],[(3,[62,61]),(8,[65,62,61])]⟩ [.agg [a,b]] func165
def An(p:Nat×Nat):=cX m R A0 [p,.agg [i,j,k,l,a,b]] func166
end
end Go.Proofs.YtkoifinbblcbiaaGreat
