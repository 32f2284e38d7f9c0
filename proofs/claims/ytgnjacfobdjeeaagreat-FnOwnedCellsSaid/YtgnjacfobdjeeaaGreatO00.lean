/- Part of a proof, joined by a program. -/
import Derived.KernelRfl
import Derived.Laws.Append
import Derived.Laws.Cells
import Derived.Laws.Entries
import Derived.Laws.IdiomCopy
import Derived.Orders
import Derived.OrdersHeld
import Derived.Still
import Derived.Tactics
set_option linter.unusedVariables false
set_option linter.unusedSimpArgs false
set_option linter.defProp false
set_option linter.constructorNameAsVariable false
set_option maxHeartbeats 8000000
set_option maxRecDepth 100000
namespace Go.Vc
def ad:=@Nat.le_refl
def ae:=@if_neg
def ai:=@List.mem_cons_of_mem
def an:=@beq_eq_false_iff_ne
def ao:=@decide_eq_true_eq
def aq:=@if_pos
def aw:=@List.getElem?_append_left
def aF:=@List.getElem?_append_right
def aJ:=@Nat.lt_of_lt_of_le
def aL:=@beq_iff_eq
def aS:=@List.mem_cons
def aV:=@Nat.lt_or_ge
def a9:=@List.length_append
def ba:=@List.mem_cons_self
def be:=@Nat.eq_of_beq_eq_true
def bg:=@List.length_cons
def bB:=@List.mem_append_left
def bC:=@Bool.and_eq_true
def bJ:=@Nat.le_trans
def bN:=@Nat.zero_add
def bP:=@decide_eq_false_iff_not
def bQ:=@Bool.or_eq_false_iff
def bW:=@List.getElem?_map
def cb:=@List.getElem?_eq_none
def cg:=@List.map_cons
def cv:=@Bool.or_eq_true
def cx:=@List.mem_or_eq_of_mem_set
def cR:=@List.cons_append
def cT:=@List.mem_of_mem_take
def cZ:=@Nat.mul_le_mul_right
def de:=@List.take_append_drop
def dj:=@List.getElem?_take_of_lt
def dA:=@List.getElem?_set_self
def dB:=@Nat.add_assoc
def dE:=@List.mem_append_right
def dG:=@Nat.mul_one
def dH:=@Nat.zero_le
def dQ:=@List.getElem?_set_ne
def dT:=@List.nil_append
def dZ:=@Int.le_refl
def eA:=@Classical.byContradiction
def eF:=@List.length_nil
def eH:=@List.append_assoc
def eI:=@List.map_nil
def eN:=@Classical.choose_spec
def eO:=@List.length_map
def eP:=@List.map_append
def fx:=@List.append_nil
def fy:=@Nat.not_lt_zero
def fC:=@Nat.add_mul
def fI:=@List.ext_getElem?
def fO:=@List.getElem?_cons_succ
def fX:=@Classical.em
def fY:=@List.length_take
def fZ:=@List.take_length
def gD:=@bne_eq_false_iff_eq
def gF:=@Bool.not_eq_true'
def gV:=@List.dropLast_concat_getLast
def gW:=@List.length_set
def ib:=@Bool.false_eq_true
def ic:=@List.set_cons_succ
def ig:=@List.set_cons_zero
def ik:=@List.mem_of_getElem?
def iG:=@List.flatten_cons
def iH:=@List.getD_eq_getElem?_getD
def iI:=@List.getElem?_set
def iJ:=@Nat.add_zero
def iK:=@Option.map_eq_some_iff
def iL:=@cond_true
def iR:=@Nat.min_eq_left
def jb:=@Array.getElem?_setIfInBounds_ne
def jm:=@List.mem_singleton
def jo:=@List.not_mem_nil
def jq:=@Nat.eq_zero_or_pos
def jQ:=@Ne.symm
def j8:=@Array.getElem?_modify
def j9:=@List.getElem?_toArray
def ka:=@Nat.le_of_ble_eq_true
def kO:=@List.flatMap_cons
def kZ:=@cond_false
def lM:=@List.map_toArray
def lV:=@List.getLast?_eq_some_getLast
def lW:=@List.take_append_of_le_length
def mg:=@List.getElem?_take
def mh:=@List.take_of_length_le
def mj:=@Nat.lt_of_le_of_lt
def mz:=@Option.map_some
def mB:=@Option.some.inj
def mH:=@gt_iff_lt
def mX:=@List.sizeOf_lt_of_mem
def nt:=@Nat.le_succ_of_le
def ou:=@Int.tdiv_eq_ediv_of_nonneg
def oA:=@Nat.succ_mul
def oD:=@List.drop_eq_getElem_cons
def oW:=@List.length_take_le
def oX:=@List.replicate_succ
def pL:=@if_false
def qb:=@List.getElem?_drop
def qv:=@List.getElem?_cons_zero
def rO:=@Int.toNat_natCast
def rP:=@Nat.le_of_eq
def rQ:=@congrArg
def tx:=@Option.getD_some
def tz:=@bne_iff_ne
def tA:=@not_or
def vQ:=@Array.getElem?_push
def vR:=@List.flatten_append
def wQ:=@Array.getD_eq_getD_getElem?
def wR:=@List.map_set
def wS:=@ge_iff_le
def y9:=@Array.ext_getElem?
def zc:=@or_false
def Ba:=@List.size_toArray
def Bb:=@Option.some.injEq
def CF:=@List.set_eq_of_length_le
def Er:=@Nat.add_sub_cancel_left
def Es:=@Nat.le_of_not_lt
def Gb:=@Array.getElem?_eq_none
def Gc:=@Int.lt_or_le
def Gd:=@List.drop_of_length_le
def GN:=@Bool.eq_iff_iff
def GO:=@List.mem_append
def JS:=@Bool.not_false
def JT:=@List.take_take
def JV:=@if_true
def Ku:=@List.getElem?_range
def Kv:=@List.length_reverse
def Kw:=@List.take_succ_cons
def Kx:=@Nat.testBit_two_pow
def Lg:=@Bool.not_true
def Lh:=@Bool.true_and
def Li:=@List.all_cons
def Lj:=@List.map_take
def Lk:=@Prod.mk.injEq
def MA:=@List.set_eq_take_append_cons_drop
def NM:=@List.any_nil
def NN:=@List.findIdx_lt_length_of_exists
def NO:=@Nat.le_of_lt
def NP:=@Nat.zero_mul
def P6:=@List.range_succ
def Qa:=@dif_pos
def Rm:=@List.mapM_cons
def Rn:=@Nat.eq_of_mul_eq_mul_right
def Ro:=@Nat.mul_le_mul
def Rp:=@Nat.testBit_or
def Rw:=@Array.mapM_eq_mapM_toList
def Sq:=@Array.getElem?_replicate
def Sr:=@Bool.false_or
def Ss:=@Bool.or_false
def Su:=@List.eq_of_mem_replicate
def UA:=@Iff.rfl
def UB:=@List.map_map
def UC:=@List.mem_map
def UD:=@Nat.sub_zero
def UR:=@Array.getElem?_mapIdx
def US:=@Array.getElem?_toList
def UT:=@List.set_append_right
def UU:=@Nat.ble_eq_true_of_le
def Wm:=@Int.add_mul
def Wn:=@List.mem_of_mem_drop
def Wo:=@List.set_append_left
def WD:=@Array.length_toList
def WE:=@Array.toList_zipIdx
def WG:=@List.replicate_zero
def XQ:=@Array.foldl_toList
def XR:=@Bool.not_eq_false'
def YI:=@Function.comp_def
def YJ:=@List.nodup_append
def YK:=@List.reverse_cons
def YL:=@of_decide_eq_true
def YX:=@List.countP_cons
def YY:=@List.flatMap_def
def YZ:=@List.getElem_mem
def Y0:=@List.length_drop
def Y1:=@List.take_append
def Y2:=@Nat.le_add_right
def Y3:=@exists_eq_or_imp
def Y4:=@false_iff
def Y5:=@forall_eq
def Y6:=@forall_eq_or_imp
def Za:=@Array.size_push
def Zb:=@List.map_const'
def Zc:=@Nat.testBit_and
theorem dit{p A B:Prop}{i:Decidable p}(f:p->A)(g:¬p->B):(decide p=true->A)/\(decide p=false->B):=⟨λh=>f (YL h),λh=>g (of_decide_eq_false h)⟩
theorem V{p:Prop}(h:p:=by omega):p:=h
theorem E{p:Prop}(h:p:=by simp):p:=h
theorem bd{p:Prop}(h:p:=by decide):p:=h
theorem bK{p:Prop}(h:p:=by simp;omega):p:=h
end Go.Vc
section
namespace Go.Vc
variable{n:Nat}{a:Act}
abbrev I:=Array Obj
def D(m:I)(b o:Nat):Option Value:=
 match m[b]? with
 |some (.cells c _ _)=>c[o]?
 |_=>none
def tH(m:I)(b o:Nat):Bool:=
 match m[b]? with
 |some (.cells _ _ (c,a))=>c<=o&&o<a
 |_=>false
def pA(m:I)(b o:Nat)(v:Value):I:=
 m.modify b λ
  | .cells c e f=>.cells (c.setIfInBounds o v) e f
  |x=>x
def xf(w:World)(b o:Nat):w.cell? ⟨b,o,none⟩=D w.heap b o:=by
 simp only[World.cell?,D];cases h:w.heap[b]? with
 |none=>rfl
 |some x=>cases x<;>simp
def Oh(w:World)(b o:Nat):w.frozen? ⟨b,o,none⟩=tH w.heap b o:=by
 simp only[World.frozen?,tH];cases h:w.heap[b]? with
 |none=>rfl
 |some x=>cases x<;>simp
def Ma(w:World)(b o:Nat)(v:Value):(w.setCell ⟨b,o,none⟩ v).heap=pA w.heap b o v:=by
 simp only[World.setCell,pA];congr 1
structure nF(w w':World):Prop where
 os:w'.os=w.os
 tape:w'.tape=w.tape
 output:w'.output=w.output
def nF.aC(w:World):nF w w:=⟨rfl,rfl,rfl⟩
def nF.trans{a b c:World}(h:nF a b)(k:nF b c):nF a c:=⟨k.os.trans h.os,k.tape.trans h.tape,k.output.trans h.output⟩
def aN(P:Program)(f:FuncId)(b:List Value)(m:I)(K:Value->I->Prop):Prop:=
 ∀w:World,w.heap=m->Calls P f b.toArray w λe a=>∃v,e=.returned v/\nF w a/\K v a.heap
def aN.mono{P:Program}{f:FuncId}{b:List Value}{m:I}{K a:Value->I->Prop}(h:aN P f b m K)
 (e:∀v c,K v c->a v c):aN P f b m a:=
 λw i=>(h w i).mono λ_ _⟨v,d,g,c⟩=>⟨v,d,g,e _ _ c⟩
inductive O where
 |nil
 |mk (b o len cap:Nat)
 |Bj (b o sp:Nat)
def O.v:O->Value
 | .nil=>.slice none 0 0
 | .mk b o l c=>.slice (some ⟨b,o,none⟩) l c
 | .Bj b o a=>.slice (some ⟨b,o,some a⟩) 0 0
def O.len:O->Nat
 | .nil=>0
 | .mk _ _ l _=>l
 | .Bj _ _ _=>0
def O.cap:O->Nat
 | .nil=>0
 | .mk _ _ _ c=>c
 | .Bj _ _ _=>0
def O.F:O->Nat
 | .nil=>0
 | .mk b _ _ _=>b
 | .Bj b _ _=>b
def O.off:O->Nat
 | .nil=>0
 | .mk _ o _ _=>o
 | .Bj _ o _=>o
@[simp] theorem O.Pl (b o sp:Nat):(O.Bj b o sp).len=0:=rfl
@[simp] theorem O.RK (b o sp:Nat):(O.Bj b o sp).cap=0:=rfl
@[simp] theorem O.LU:O.nil.len=0:=rfl
@[simp] theorem O.RL:O.nil.cap=0:=rfl
@[simp] theorem O.Wt:O.nil.F=0:=rfl
@[simp] theorem O.Wy:O.nil.off=0:=rfl
@[simp] theorem O.fj (b o l c:Nat):(O.mk b o l c).len=l:=rfl
@[simp] theorem O.LD (b o l c:Nat):(O.mk b o l c).cap=c:=rfl
@[simp] theorem O.iT (b o l c:Nat):(O.mk b o l c).F=b:=rfl
@[simp] theorem O.lY (b o l c:Nat):(O.mk b o l c).off=o:=rfl
def O.Dk:O->Bool
 | .nil=>true
 | .mk _ _ _ _=>false
 | .Bj _ _ _=>false
@[simp] theorem O.UL:O.nil.Dk=true:=rfl
@[simp] theorem O.UK (b o sp:Nat):(O.Bj b o sp).Dk=false:=rfl
@[simp] theorem O.VA (b o l c:Nat):(O.mk b o l c).Dk=false:=rfl
def O.cG:O->Option Addr
 | .nil=>none
 | .mk b o _ _=>some ⟨b,o,none⟩
 | .Bj b o a=>some ⟨b,o,some a⟩
def O.Uz(s:O):s.v=.slice s.cG s.len s.cap:=by cases s<;>rfl
inductive Ce where
 |i (n:Int)
 |u (k:IntKind) (n:Int)
 |t (x:Bool)
 |s (x:O)
 |p (b o:Nat)
 |pn
 |fn (f:Fn) (first captured:Array Value)
 |fv (q:Fn×Array Value×Array Value)
 |nf
 |YD (x:ByteArray)
 |mp (b:Nat)
 |mn
 |bp (k b o:Nat)
def Ce.v:Ce->Value
 | .i n=>.int .i64 n
 | .u k n=>.int k n
 | .t x=>.bool x
 | .s x=>x.v
 | .p b o=>.pointer (some ⟨b,o,none⟩)
 | .pn=>.pointer none
 | .fn f a c=>.func f a c
 | .fv q=>.func q.1 q.2.1 q.2.2
 | .nf=>.nilFunc
 | .YD x=>.string x
 | .mp b=>.map (some b)
 | .mn=>.map none
 | .bp _ b o=>.pointer (some ⟨b,o,none⟩)
inductive AV where
 |c (x:Ce)
 |agg (l:List Ce)
def AV.v:AV->Value
 | .c x=>x.v
 | .agg l=>.agg (l.map Ce.v).toArray
inductive SV where
 |c (x:Ce)
 |tt
 |ff
 |agg (l:List Ce)
 |Uy (l:List AV)
 |un
 |hO
 |box (b e:Nat) (l:List Ce)
 |wZ (b e:Nat) (l:List Ce)
def SV.v:SV->Value
 | .c x=>x.v
 | .tt=>.bool true
 | .ff=>.bool false
 | .agg l=>.agg (l.map Ce.v).toArray
 | .Uy l=>.tuple (l.map AV.v).toArray
 | .un=>undef
 | .hO=>undef
 | .box _ _ _=>undef
 | .wZ _ _ _=>undef
def SV.Is:SV->Value->Prop
 | .hO,_=>True
 | .box _ _ _,_=>True
 | .wZ _ _ _,_=>True
 |s,v=>v=s.v
def AV.sv:AV->SV
 | .c x=>.c x
 | .agg l=>.agg l
def AV.XK(x:AV):x.sv.v=x.v:=by cases x<;>rfl
abbrev Fr:=List (Nat×SV)
def fP:Fr->Nat->SV
 |[],_=>.hO
 |(u,x)::r,t=>bif Nat.beq u t then x else fP r t
def SV.nb:SV->SV
 | .box _ _ _=>.hO
 | .wZ _ _ _=>.hO
 |x=>x
def rU(a:Fr)(d:Option Nat)(x:SV):Fr:=
 match d with
 |some d=>(d,x.nb)::a
 |none=>a
def SV.QY{x:SV}{v:Value}(h:x.Is v):x.nb.Is v:=by
 cases x<;>first|exact h|trivial
def Ce.kj(x:Ce):x.v.cells=#[x.v]:=by
 cases x with
 |s y=>cases y<;>rfl
 |_=>rfl
def jC:Value->Option Ce
 | .int .i64 n=>some (.i n)
 | .int k n=>some (.u k n)
 | .bool x=>some (.t x)
 | .slice none 0 0=>some (.s .nil)
 | .pointer none=>some .pn
 | .nilFunc=>some .nf
 | .string x=>some (.YD x)
 |_=>none
def KL{x:Value}{c:Ce}(h:jC x=some c):c.v=x:=by
 unfold jC at h;split at h<;>simp at h<;>subst h<;>rfl
def nL:List Value->Option (List Ce)
 |[]=>some []
 |v::b=>match jC v,nL b with
  |some c,some a=>some (c::a)
  |_,_=>none
def Iq:∀{b:List Value}{a:List Ce},nL b=some a->a.map Ce.v=b
 |[],_,h=>by simp[nL]at h;subst h;rfl
 |v::b,a,h=>by
  simp only[nL]at h;split at h
  ·rename_i e f c d;simp at h;subst h;simp[KL c,Iq d]
  ·simp at h
def CT:Value->SV
 | .bool true=>.tt
 | .bool false=>.ff
 | .agg a=>match nL a.toList with
  |some l=>.agg l
  |none=>.hO
 | .tuple a=>bif a.toList.isEmpty then .un else .hO
 |v=>match jC v with
  |some c=>.c c
  |none=>.hO
def N4(x:Value):(CT x).Is x:=by
 unfold CT;split
 ·rfl
 ·rfl
 ·rename_i a;split
  ·rename_i l b;show Value.agg a=.agg (l.map Ce.v).toArray;rw[Iq b]
  ·trivial
 ·rename_i a;cases h:a.toList.isEmpty
  ·trivial
  ·show Value.tuple a=undef;have:a=#[]:=by simpa using h
   rw[this];rfl
 ·split
  ·rename_i c a;exact(KL a).symm
  ·trivial
def ev(a:Fr):Operand->SV
 | .tmp t=>(fP a t).nb
 | .const v=>CT v
 | .global g=>.c (.p g 0)
 | .func f=>.c (.fn (.func f) #[] #[])
structure jr(n:Nat)(fr:Fr)(a:Act):Prop where
 size:a.tmps.size=n
 defers:a.defers=[]
 u:∀t,(fP fr t).Is (a.tmps.getD t undef)
def jr.ev{b:Fr}(h:jr n b a)(x:Operand):(ev b x).Is (a.eval x):=by
 cases x with
 |tmp t=>exact SV.QY (h.u t)
 |const v=>exact N4 v
 |global g=>rfl
 |func f=>rfl
def jr.put{n:Nat}{b:Fr}{a:Act}(h:jr n b a){d:Option Nat}{x:SV}{v:Value}(i:x.Is v)(f:∀t,d=some t->t<n):
 jr n (rU b d x) (a.put d v):=by
 cases d with
 |none=>exact h
 |some d=>
  refine⟨by simpa[Act.put]using h.size,h.defers,λt=>?_⟩
  have g:d<a.tmps.size:=by rw[h.size];exact f d rfl
  simp only[rU,fP,Act.put]
  by_cases e:d=t
  ·subst e
   simp only[Nat.beq_refl,iL]
   simpa[g]using SV.QY i
  ·have:Nat.beq d t=false:=by
    cases c:Nat.beq d t
    ·rfl
    ·exact absurd (be c) e
   simp only[this,kZ]
   have:=h.u t
   simpa[jb e]using this
def jr.cons{b:Fr}(h:jr n b a)(t:Nat){x:SV}(c:∀v,x.Is v):jr n ((t,x)::b) a:=by
 refine⟨h.size,h.defers,λu=>?_⟩;simp only[fP];cases d:Nat.beq t u
 ·exact h.u u
 ·exact c _
def jr.hO{b:Fr}(h:jr n b a)(t:Nat):jr n ((t,.hO)::b) a:=by
 refine⟨h.size,h.defers,λu=>?_⟩;simp only[fP];cases c:Nat.beq t u
 ·exact h.u u
 ·trivial
end Go.Vc
end
section
namespace Go.Vc
variable{P:Program}{t b e:Nat}
inductive Sh where
 |I
 |U (k:IntKind)
 |T
 |S
 |P
 |F
 |M
 deriving DecidableEq
abbrev Sh.ty:Sh->Type
 | .I=>Int
 | .U _=>Int
 | .T=>Bool
 | .S=>O
 | .P=>Nat×Nat
 | .F=>Fn×Array Value×Array Value
 | .M=>Nat
abbrev Sh.mk:(s:Sh)->s.ty->Ce
 | .I,n=>.i n
 | .U k,n=>.u k n
 | .T,x=>.t x
 | .S,x=>.s x
 | .P,q=>.p q.1 q.2
 | .F,v=>.fv v
 | .M,b=>.mp b
def Sh.zero:Sh->Ce
 | .I=>.i 0
 | .U k=>.u k 0
 | .T=>.t false
 | .S=>.s .nil
 | .P=>.pn
 | .F=>.nf
 | .M=>.mn
inductive TK where
 |cell
 |slice (elem:Nat)
 |struct (offs:List (Nat×Nat))
 |tuple (ts:List Nat)
 |map (key elem:Nat)
structure TI where
 EP:TK
 sh:List Sh
 bytes:Nat
abbrev TT:=List (Nat×TI)
def eM:TT->Nat->Option TI
 |[],_=>none
 |(u,x)::r,t=>bif Nat.beq u t then some x else eM r t
def Mc:Sh->Value->Bool
 | .I,.int .i64 0=>true
 | .U k,.int a 0=>decide (k=a)
 | .T,.bool false=>true
 | .S,.slice none 0 0=>true
 | .P,.pointer none=>true
 | .F,.nilFunc=>true
 | .M,.map none=>true
 |_,_=>false
def Md{s:Sh}{v:Value}(h:Mc s v=true):v=s.zero.v:=by
 unfold Mc at h;split at h<;>first|rfl|(simp at h;subst h;rfl)|simp at h
def CE:List Value->List Sh->Bool
 |[],[]=>true
 |v::b,s::a=>Mc s v&&CE b a
 |_,_=>false
def y8:∀{b:List Value}{a:List Sh},CE b a=true->b=a.map λs=>s.zero.v
 |[],[],_=>rfl
 |v::b,s::a,h=>by
  simp only[CE,bC]at h;simp[Md h.1,y8 h.2]
 |[],_::_,h=>by simp[CE]at h
 |_::_,[],h=>by simp[CE]at h
def KS:List Field->List (Nat×Nat)->Bool
 |[],[]=>true
 |f::a,(o,t)::r=>Nat.beq f.offset o&&Nat.beq f.type t&&KS a r
 |_,_=>false
def I5:∀{a:List Field}{b:List (Nat×Nat)},KS a b=true->a.map (λf=>(f.offset,f.type))=b
 |[],[],_=>rfl
 |f::a,(o,t)::r,h=>by
  simp only[KS,bC]at h;simp[be h.1.1,be h.1.2,I5 h.2]
 |[],_::_,h=>by simp[KS]at h
 |_::_,[],h=>by simp[KS]at h
def xE:TypeDesc->List Sh->Bool
 | .bool,[.T]=>true
 | .int .i64,[.I]=>true
 | .int k,[.U k']=>decide (k=k')
 | .pointer _,[.P]=>true
 | .func ..,[.F]=>true
 |_,_=>false
def zj(i:TypeInfo)(a:TI)(b:Bool):Bool:=
 Nat.beq i.size a.sh.length&&Nat.beq i.bytes a.bytes&&
 (match i.zero with
  |some (.agg c)=>b&&CE c.toList a.sh
  |some z=>!b&&CE [z] a.sh
  |none=>false)
def VK(t:Nat):Nat:=t+1000000
def RP(P:Program)(t:Nat):Bool:=
 match P.underlying t with
 |some (.struct a)=>a.toList.all (λf=>f.name != "_")&&!P.stoodInHeld t&&!P.eqGuardType P.depth t
 |_=>false
def vM(P:Program)(t:Nat)(a:TI):Bool:=
 match a.EP with
 | .tuple _=>if t<1000000 then true else RP P (t -1000000)
 | .slice e=>match P.info? t,P.underlying t with
  |some i,some (.slice b)=>Nat.beq e b&&zj i a false
  |_,_=>false
 | .struct d=>match P.info? t,P.underlying t with
  |some i,some (.struct c)=>KS c.toList d&&zj i a true
  |_,_=>false
 | .map k e=>match P.info? t,P.underlying t with
  |some i,some (.map c b)=>Nat.beq k c&&Nat.beq e b&&zj i a false
  |_,_=>false
 | .cell=>match P.info? t,P.underlying t with
  |some i,some d=>xE d a.sh&&zj i a false
  |_,_=>false
def sA(P:Program)(T:TT):Prop:=T.all (λx=>vM P x.1 x.2)=true
def ND:∀{T:TT}{t:Nat}{b:TI},eM T t=some b->(t,b)∈T
 |[],_,_,h=>by simp[eM]at h
 |(u,x)::r,t,b,h=>by
  simp only[eM]at h;cases a:Nat.beq u t
  ·rw[a]at h;exact ai _ (ND h)
  ·rw[a]at h;have:=be a;simp at h;subst h;subst this;exact ba
def sA.vM{T:TT}(h:sA P T){a:TI}(b:eM T t=some a):vM P t a=true:=
 List.all_eq_true.1 h _ (ND b)
def sA.YR{T:TT}(h:sA P T){l:List Nat}{c:List Sh}(a:eM T (VK t)=some ⟨.tuple l,c,b⟩):RP P t=true:=by
 have:=h.vM a;simp only[Go.Vc.vM]at this;rw[ae (by unfold VK;omega),show VK t -1000000=t by unfold VK;omega]at this;exact this
structure Ia(P:Program)(t:Nat)(ti:TI)(agg:Bool):Prop where
 YU:∃i,P.info? t=some i/\i.size=ti.sh.length/\i.bytes=ti.bytes/\
  ∃z,i.zero=some z/\z.cells.toList=(ti.sh.map λs=>s.zero.v)/\(agg=false->∀cs,z≠.agg cs)
def qB{g:TI}{i:TypeInfo}{c:Bool}(j:P.info? t=some i)(h:zj i g c=true):Ia P t g c:=by
 simp only[zj,bC]at h;refine⟨i,j,be h.1.1,be h.1.2,?_⟩;have a:=h.2;split at a
 ·rename_i d b;simp only[bC]at a;exact⟨_,b,by simpa[Value.cells]using y8 a.2,λf=>by rw[f]at a;simp at a⟩
 ·rename_i z f b;simp only[bC]at a;refine⟨_,b,?_,λ_ d e=>f d (by rw[e])⟩;have:=y8 a.2;rw[<-this];cases z<;>first|rfl|exact(f _ rfl).elim
 ·simp at a
def jt{a:List Sh}(h:vM P t ⟨.slice e,a,b⟩=true):P.underlying t=some (.slice e)/\Ia P t ⟨.slice e,a,b⟩ false:=by
 simp only[vM]at h;split at h
 ·rename_i i f c d;simp only[bC]at h;have:=be h.1;subst this;exact⟨d,qB c h.2⟩
 ·simp at h
def zt{k:Nat}{a:List Sh}(h:vM P t ⟨.map k e,a,b⟩=true):P.underlying t=some (.map k e)/\Ia P t ⟨.map k e,a,b⟩ false:=by
 simp only[vM]at h;split at h
 ·rename_i j l i f g;simp only[bC]at h;have c:=be h.1.1;have d:=be h.1.2;subst c;subst d;exact⟨g,qB f h.2⟩
 ·simp at h
def lJ{c:List (Nat×Nat)}{d:List Sh}(h:vM P t ⟨.struct c,d,b⟩=true):
 (∃a,P.underlying t=some (.struct a)/\a.toList.map (λf=>(f.offset,f.type))=c)/\Ia P t ⟨.struct c,d,b⟩ true:=by
 simp only[vM]at h
 split at h
 ·rename_i i a e f
  simp only[bC]at h
  exact⟨⟨a,f,I5 h.1⟩,qB e h.2⟩
 ·simp at h
def my{a:List Sh}(h:vM P t ⟨.cell,a,b⟩=true):
 (∃d,P.underlying t=some d/\xE d a=true)/\Ia P t ⟨.cell,a,b⟩ false:=by
 simp only[vM]at h
 split at h
 ·rename_i i d c e
  simp only[bC]at h
  exact⟨⟨d,e,h.1⟩,qB c h.2⟩
 ·simp at h
def TI.agg(a:TI):Bool:=match a.EP with| .struct _=>true|_=>false
def TI.sG(a:TI):Bool:=match a.EP with| .tuple _=>true|_=>false
def jv{T:TT}(f:sA P T){d:TI}(g:eM T t=some d)(j:d.sG=false)(w:World):
 (sizeOf t).run P w=.ok d.sh.length w:=by
 have h:=f.vM g
 obtain⟨EP,k,b⟩:=d
 have:∃i,P.info? t=some i/\i.size=k.length:=by
  cases EP with
  |cell=>obtain⟨_,⟨i,a,c,_⟩⟩:=my h;exact⟨i,a,c⟩
  |slice e=>obtain⟨_,⟨i,a,c,_⟩⟩:=jt h;exact⟨i,a,c⟩
  |map l e=>obtain⟨_,⟨i,a,c,_⟩⟩:=zt h;exact⟨i,a,c⟩
  |struct o=>obtain⟨_,⟨i,a,c,_⟩⟩:=lJ h;exact⟨i,a,c⟩
  |tuple l=>simp[TI.sG]at j
 obtain⟨i,a,c⟩:=this
 simp[sizeOf,typeInfo,a,c]
def Dt{T:TT}(g:sA P T){f:TI}(j:eM T t=some f)(k:f.sG=false):
 ∃i,i.bytes=f.bytes/\i.size=f.sh.length/\(∀w,(typeInfo t).run P w=.ok i w)/\P.info? t=some i:=by
 have h:=g.vM j
 obtain⟨EP,l,b⟩:=f
 have:∃i,P.info? t=some i/\i.size=l.length/\i.bytes=b:=by
  cases EP with
  |cell=>obtain⟨_,⟨i,a,c,d,_⟩⟩:=my h;exact⟨i,a,c,d⟩
  |slice e=>obtain⟨_,⟨i,a,c,d,_⟩⟩:=jt h;exact⟨i,a,c,d⟩
  |map m e=>obtain⟨_,⟨i,a,c,d,_⟩⟩:=zt h;exact⟨i,a,c,d⟩
  |struct o=>obtain⟨_,⟨i,a,c,d,_⟩⟩:=lJ h;exact⟨i,a,c,d⟩
  |tuple m=>simp[TI.sG]at k
 obtain⟨i,a,c,d⟩:=this
 exact⟨i,d,c,λw=>by simp[typeInfo,a],a⟩
def tU{T:TT}(m:sA P T){k:TI}(n:eM T t=some k)(o:k.sG=false):
 ∃z,z.cells.toList=k.sh.map (λs=>s.zero.v)/\(∀w,(zeroValue t).run P w=.ok z w)/\(k.agg=false->∀a,z≠.agg a):=by
 have h:=m.vM n
 obtain⟨EP,l,b⟩:=k
 have:∃i,P.info? t=some i/\∃z,i.zero=some z/\z.cells.toList=(l.map λs=>s.zero.v)/\((TI.mk EP l b).agg=false->∀a,z≠.agg a):=by
  cases EP with
  |cell=>obtain⟨_,⟨i,a,g,j,z,c,d,f⟩⟩:=my h;exact⟨i,a,z,c,d,λ_=>f rfl⟩
  |slice e=>obtain⟨_,⟨i,a,g,j,z,c,d,f⟩⟩:=jt h;exact⟨i,a,z,c,d,λ_=>f rfl⟩
  |map p e=>obtain⟨_,⟨i,a,g,j,z,c,d,f⟩⟩:=zt h;exact⟨i,a,z,c,d,λ_=>f rfl⟩
  |struct p=>obtain⟨_,⟨i,a,g,j,z,c,d,f⟩⟩:=lJ h;exact⟨i,a,z,c,d,λh=>by simp[TI.agg]at h⟩
  |tuple d=>simp[TI.sG]at o
 obtain⟨i,a,z,g,j,c⟩:=this
 exact⟨z,j,λw=>by simp[zeroValue,typeInfo,a,g],c⟩
def Fc{T:TT}(f:sA P T){c:TI}(g:eM T t=some c)(i:c.sG=false)(w:World):
 (isAgg t).run P w=.ok c.agg w:=by
 have h:=f.vM g
 obtain⟨EP,l,b⟩:=c
 cases EP with
 |cell=>
  obtain⟨⟨j,a,d⟩,_⟩:=my h
  unfold xE at d
  split at d<;>first|(simp at d;done)|simp[isAgg,run_underlying a,TI.agg]
 |slice e=>obtain⟨a,_⟩:=jt h;simp[isAgg,run_underlying a,TI.agg]
 |map k e=>obtain⟨a,_⟩:=zt h;simp[isAgg,run_underlying a,TI.agg]
 |struct o=>obtain⟨⟨d,a,_⟩,_⟩:=lJ h;simp[isAgg,run_underlying a,TI.agg]
 |tuple a=>simp[TI.sG]at i
end Go.Vc
end
section
namespace Go.Vc
def jW:SV->Option Bool
 | .tt=>some true
 | .ff=>some false
 | .c (.t x)=>some x
 |_=>none
def SV.iP:SV->Bool
 | .hO=>false
 | .box _ _ _=>false
 | .wZ _ _ _=>false
 |_=>true
def cK(n:Int):Int:=IntKind.i64.wrap n
def EU{α:Type}:List α->Nat->Option α
 |[],_=>none
 |x::_,0=>some x
 |_::r,n+1=>EU r n
def nR{α:Type}:∀(l:List α)(n:Nat),EU l n=l[n]?
 |[],_=>by simp[EU]
 |x::_,0=>by simp[EU]
 |_::r,n+1=>by simp[EU,nR r n]
def SZ(m:I)(b o:Nat):Nat->List Sh->(List Ce->Prop)->Prop
 |_,[],k=>k []
 |j,s::r,k=>∃x:s.ty,D m b (o+j)=some (s.mk x).v/\SZ m b o (j+1) r λl=>k (s.mk x::l)
def So(a b:Int):Int:=cK ((a%18446744073709551616).toNat^^^(b%18446744073709551616).toNat:Nat)
def pO(c:BinOp)(a b:Int)(k:SV->Prop):Prop:=
 match c with
 | .add=>k (.c (.i (cK (a+b))))
 | .sub=>k (.c (.i (cK (a -b))))
 | .mul=>k (.c (.i (cK (a*b))))
 | .quo=>b≠0/\k (.c (.i (cK (a.tdiv b))))
 | .rem=>b≠0/\k (.c (.i (a.tmod b)))
 | .xor=>k (.c (.i (So a b)))
 | .eql=>k (.c (.t (a==b)))
 | .neq=>k (.c (.t (a !=b)))
 | .lss=>k (.c (.t (decide (a<b))))
 | .leq=>k (.c (.t (decide (a<=b))))
 | .gtr=>k (.c (.t (decide (a>b))))
 | .geq=>k (.c (.t (decide (a>=b))))
 |_=>False
def RI(c:BinOp)(a b:Bool)(k:SV->Prop):Prop:=
 match c with
 | .eql=>k (.c (.t (a==b)))
 | .neq=>k (.c (.t (!(a==b))))
 |_=>False
def Sa(a:BinOp)(s:O)(k:SV->Prop):Prop:=
 match a with
 | .eql=>k (.c (.t s.Dk))
 | .neq=>k (.c (.t (!s.Dk)))
 |_=>False
def WC(a:UnOp)(x:SV)(k:SV->Prop):Prop:=
 match a,x with
 | .not,.tt=>k .ff
 | .not,.ff=>k .tt
 | .not,.c (.t b)=>k (.c (.t (!b)))
 | .neg,.c (.i n)=>k (.c (.i (cK (0 -n))))
 |_,_=>False
def O.cut(x:O)(a d e:Nat):O:=
 match x with
 | .nil=>.nil
 | .mk b o _ c=>.mk b (if c=a then o else o+a*e) (d -a) (c -a)
 | .Bj b o c=>.Bj b o c
def SV.cells:SV->Option (List Ce)
 | .c x=>some [x]
 | .tt=>some [.t true]
 | .ff=>some [.t false]
 | .agg l=>some l
 |_=>none
def kH(l:List Ce)(b:Nat)(a:List Ce):List Ce:=
 match b,l with
 |0,l=>match a,l with
  |[],l=>l
  |n::a,_::l=>n::kH l 0 a
  |_::_,[]=>[]
 |b+1,x::l=>x::kH l b a
 |_+1,[]=>[]
termination_by structural l
def CR(T:TT)(c:Fr)(e:List (Nat×Nat)):List Ce->List (Nat×Operand)->(List Ce->Prop)->Prop
 |a,[],k=>k a
 |a,(i,x)::r,k=>
  match EU e i,(ev c x).cells with
  |some (d,t),some b=>
   match eM T t with
   |some f=>bif !f.sG&&Nat.beq b.length f.sh.length&&Nat.ble (d+b.length) a.length then CR T c e (kH a d b) r k else False
   |none=>False
  |_,_=>False
def td(T:TT):List (Nat×Nat)->Bool
 |[]=>true
 |(_,t)::r=>(match eM T t with|some a=>!a.sG|none=>false)&&td T r
def Kb(a:Fr)(x:Option Operand)(d:Int)(k:Int->Prop):Prop:=
 match x with
 |none=>k d
 |some x=>match ev a x with
  | .c (.i n)=>k n
  |_=>False
def Un(T:TT)(t:Nat)(s:O)(n:Int)(k:SV->Prop):Prop:=
 match eM T t with
 |some ⟨.slice e,_,_⟩=>match eM T e with
  |some a=>bif a.sG then False else 0<=n/\n<(s.len:Int)/\k (.c (.p s.F (s.off+n.toNat*a.sh.length)))
  |none=>False
 |_=>False
def Ni(T:TT)(m:I)(t b o:Nat)(k:SV->Prop):Prop:=
 match eM T t with
 |some ⟨.struct _,a,_⟩=>SZ m b o 0 a λl=>k (.agg l)
 |some ⟨.cell,[s],_⟩=>∃x:s.ty,D m b o=some (s.mk x).v/\k (.c (s.mk x))
 |some ⟨.slice _,[_],_⟩=>∃x:O,D m b o=some x.v/\k (.c (.s x))
 |_=>False
def OF(T:TT)(a:Fr)(t:Nat)(s:O)(d c:Option Operand)(k:SV->Prop):Prop:=
 match eM T t with
 |some ⟨.slice e,_,_⟩=>match eM T e with
  |some b=>bif b.sG then False else
   Kb a d 0 λl=>Kb a c (s.len:Int) λh=>0<=l/\l<=h/\h<=(s.cap:Int)/\k (.c (.s (s.cut l.toNat h.toNat b.sh.length)))
  |none=>False
 |_=>False
def LP(T:TT)(t f:Nat)(l:List Ce)(k:SV->Prop):Prop:=
 match eM T t with
 |some ⟨.struct c,_,_⟩=>match EU c f with
  |some (b,u)=>match eM T u with
   |some a=>bif a.sG then False else bif a.agg then k (.agg ((l.drop b).take a.sh.length))else(match EU l b with|some x=>k (.c x)|none=>False)
   |none=>False
  |none=>False
 |_=>False
def CX(T:TT)(t f o:Nat)(mk:Nat->SV)(k:SV->Prop):Prop:=
 match eM T t with
 |some ⟨.struct c,_,_⟩=>match EU c f with
  |some (b,u)=>match eM T u with
   |some a=>bif a.sG||Nat.beq a.sh.length 0 then False else k (mk (o+b))
   |none=>False
  |none=>False
 |_=>False
def LN(a b:Nat)(k:Prop):Prop:=a=b/\k
def aE(b:Nat)(k:Prop):LN b b k=k:=by simp[LN]
def Ej:List Ce->Nat->Nat->Option (List Ce)
 |_,_,0=>some []
 |l,o,n+1=>match EU l o,Ej l (o+1) n with
  |some c,some r=>some (c::r)
  |_,_=>none
def KJ(T:TT)(t:Nat)(a:List Ce)(o:Nat)(k:SV->Prop):Prop:=
 match eM T t with
 |some ⟨.struct _,b,_⟩=>match Ej a o b.length with
  |some l=>k (.agg l)
  |none=>False
 |some ⟨.cell,[_],_⟩=>match EU a o with
  |some c=>k (.c c)
  |none=>False
 |some ⟨.slice _,[_],_⟩=>match EU a o with
  |some c=>k (.c c)
  |none=>False
 |some ⟨.map _ _,[_],_⟩=>match EU a o with
  |some c=>k (.c c)
  |none=>False
 |_=>False
def Qr(T:TT)(c:Fr)(d:Builtin)(e:List Nat)(f:List Operand)(k:SV->Prop):Prop:=
 match d,e,f with
 | .len,[t],[x]=>match eM T t,ev c x with
  |some ⟨.slice _,_,_⟩,.c (.s s)=>k (.c (.i (s.len:Int)))
  |_,_=>False
 | .max,_,[x,y]=>match ev c x,ev c y with
  | .c (.i a),.c (.i b)=>k (.c (.i (if b>a then b else a)))
  |_,_=>False
 | .min,_,[x,y]=>match ev c x,ev c y with
  | .c (.i a),.c (.i b)=>k (.c (.i (if b<a then b else a)))
  |_,_=>False
 |_,_,_=>False
def UJ(T:TT):Nat->List (Nat×Nat)->List Ce->List Ce->Option Bool
 |_,[],[],[]=>some true
 |i,(o,u)::c,.i a::l,.i b::r=>bif Nat.beq o i then match eM T u,UJ T (i+1) c l r with
  |some ⟨.cell,[.I],_⟩,some z=>some (a==b&&z)
  |_,_=>none else none
 |_,_,_,_=>none
def Yf(T:TT)(t:Nat)(l r:List Ce)(k:SV->Prop):Prop:=
 match eM T (VK t),eM T t with
 |some ⟨.tuple _,_,_⟩,some ⟨.struct a,_,_⟩=>match UJ T 0 a l r with
  |some z=>k (.c (.t z))
  |none=>False
 |_,_=>False
def rd(T:TT)(a:Fr)(m:I)(k:SV->Prop):Op->Prop
 | .move x| .assign x=>k (ev a x)
 | .pick d c b=>match ev a d with
  | .tt=>k (ev a c)
  | .ff=>k (ev a b)
  | .c (.t x)=>match jW (ev a c),jW (ev a b)with
   |some y,some z=>k (.c (.t (bif x then y else z)))
   |_,_=>False
  |_=>False
 | .nilCheck x=>match ev a x with
  | .c (.p b o)=>k (.c (.p b o))
  | .c (.bp q b o)=>k (.c (.bp q b o))
  | .c (.fn (.func f) c d)=>k (.c (.fn (.func f) c d))
  | .c (.fv q)=>∃g,q.1=.func g/\k (.c (.fv q))
  |_=>False
 | .binOp d t x y _=>match ev a x,ev a y with
  | .c (.i c),.c (.i b)=>pO d c b k
  | .c (.s s),.c (.s .nil)=>match eM T t with
   |some ⟨.slice _,_,_⟩=>Sa d s k
   |_=>False
  | .agg l,.agg r=>match d with
   | .eql=>Yf T t l r k
   |_=>False
  |e,g=>match eM T t,jW e,jW g with
   |some ⟨.cell,[.T],_⟩,some c,some b=>RI d c b k
   |_,_,_=>False
 | .unOp d _ x=>WC d (ev a x) k
 | .convert s t x=>match eM T s,eM T t,ev a x with
  |some ⟨.cell,[_],_⟩,some ⟨.cell,[.I],_⟩,.c (.u _ n)=>k (.c (.i (cK n)))
  |_,_,_=>False
 | .fieldAddr t x f=>match ev a x with
  | .c (.p b o)=>CX T t f o (λo=>.c (.p b o)) k
  | .c (.bp q b o)=>CX T t f o (λo=>.c (.bp q b o)) k
  |_=>False
 | .field t x f=>match ev a x with
  | .agg l=>LP T t f l k
  |_=>False
 | .indexAddr t x i=>match ev a x,ev a i with
  | .c (.s s),.c (.i n)=>Un T t s n k
  |_,_=>False
 | .load t x=>match ev a x with
  | .c (.p b o)=>Ni T m t b o k
  | .c (.bp q b o)=>match fP a q with
   | .box c _ d=>LN c b (KJ T t d o k)
   | .wZ c _ d=>LN c b (KJ T t d o k)
   |_=>Ni T m t b o k
  |_=>False
 | .extract x i=>match ev a x with
  | .Uy l=>match EU l i with
   |some y=>k y.sv
   |none=>False
  |_=>False
 | .slice t x c b none=>match ev a x with
  | .c (.s s)=>OF T a t s c b k
  |_=>False
 | .build t c=>match eM T t with
  |some ⟨.struct b,d,_⟩=>bif td T b then CR T a b (d.map Sh.zero) c.toList λl=>k (.agg l)else False
  |_=>False
 | .call ⟨.builtin c,b,d⟩=>Qr T a c d.toList b.toList k
 |_=>False
def km(a:Fr)(q b e:Nat)(l:List Ce):Prop:=fP a q=.box b e l\/fP a q=.wZ b e l
structure Bx(n:Nat)(fr:Fr)(m:I):Prop where
 F:∀q b e l,km fr q b e l->m[b]? =some (.cells (l.map Ce.v).toArray e)
 LF:∀q q' b e l b' e' l',q≠q'->km fr q b e l->km fr q' b' e' l'->b≠b'
 key:∀q b e l,km fr q b e l->n<=q
def P8(T:TT)(c:Fr):Op->List (Nat×Nat)
 | .load t x=>match ev c x,eM T t with
  | .c (.p b o),some a=>(List.range a.sh.length).map λj=>(b,o+j)
  | .c (.bp _ b o),some a=>(List.range a.sh.length).map λj=>(b,o+j)
  |_,_=>[]
 |_=>[]
end Go.Vc
end
section
namespace Go.Vc
variable{s:SV}{b:Bool}
def SV.Is.eq{v:Value}(h:s.Is v)(a:s.iP=true):v=s.v:=by
 cases s<;>first|exact h|simp[SV.iP]at a
def mr(s:SV):s.Is s.v:=by cases s<;>first|rfl|trivial
def jr.eq{n:Nat}{b:Fr}{a:Act}(h:jr n b a){x:Operand}{s:SV}(c:Vc.ev b x=s)(d:s.iP=true):a.eval x=s.v:=by
 have:=h.ev x;rw[c]at this;exact this.eq d
def uD(h:jW s=some b):s.iP=true/\s.v=.bool b:=by
 unfold jW at h;split at h<;>simp_all [SV.iP,SV.v,Ce.v]
def jr.Ww{n:Nat}{c:Fr}{a:Act}(h:jr n c a){x:Operand}(d:jW (Vc.ev c x)=some b):a.eval x=.bool b:=by
 rw[h.eq rfl (uD d).1,(uD d).2]
def tF(b o n:Nat):(⟨b,o,none⟩:Addr).add n=⟨b,o+n,none⟩:=by
 unfold Addr.add;split
 ·rename_i h;subst h;rfl
 ·rfl
def zp:∀(l:List Ce)(a:Nat)(b:List Ce)(i:Nat),a+b.length<=l.length->
 (kH l a b)[i]? =if a<=i/\i<a+b.length then b[i -a]? else l[i]?
 |[],0,[],i,_=>by simp[kH]
 |[],0,_::_,_,h=>by simp at h
 |[],_+1,_,_,h=>by simp at h
 |x::l,0,[],i,_=>by simp[kH]
 |x::l,0,n::b,i,h=>by
  simp only[kH];cases i with
  |zero=>simp
  |succ i=>
   have:=zp l 0 b i (by simp at h;omega);simp only[fO,this];simp
 |x::l,a+1,b,i,h=>by
  simp only[kH];cases i with
  |zero=>simp
  |succ i=>
   have:=zp l a b i (by simp at h;omega);simp only[fO,this];have e:(i+1 -(a+1))=i -a:=V;simp only[e];congr 1;simp;omega
def KN(c:List Value):∀(k a:Nat)(b:Array Value)(i:Nat),
 ((c.zipIdx k).foldl (λ(d:Array Value)(p:Value×Nat)=>d.setIfInBounds (a+p.2) p.1) b)[i]? =
  if a+k<=i/\i<a+k+c.length/\i<b.size then c[i -(a+k)]? else b[i]? :=by
 induction c with
 |nil=>intro k a b i;simp;intro h;omega
 |cons v c g=>
  intro k a b i
  simp only[List.zipIdx_cons,List.foldl_cons,g,Array.size_setIfInBounds,bg]
  by_cases d:i=a+k
  ·subst d
   by_cases e:a+k<b.size
   ·simp[e];try omega
   ·simp[e];try omega
  ·have:¬(a+k=i):=λf=>d f.symm
   rw[jb this]
   by_cases e:a+k<=i/\i<a+k+(c.length+1)/\i<b.size
   ·rw[aq e,aq V]
    have:i -(a+k)=(i -(a+(k+1)))+1:=V
    rw[this,fO]
   ·rw[ae e,ae V]
def nK{l:List Ce}(h:s.cells=some l):s.iP=true/\s.v.cells=(l.map Ce.v).toArray:=by
 cases s with
 |c x=>simp[SV.cells]at h;subst h;exact⟨rfl,by simp[SV.v,Ce.kj]⟩
 |tt=>simp[SV.cells]at h;subst h;exact⟨rfl,rfl⟩
 |ff=>simp[SV.cells]at h;subst h;exact⟨rfl,rfl⟩
 |agg a=>simp[SV.cells]at h;subst h;exact⟨rfl,rfl⟩
 |Uy _=>simp[SV.cells]at h
 |un=>simp[SV.cells]at h
 |hO=>simp[SV.cells]at h
 |box _ _ _=>simp[SV.cells]at h
 |wZ _ _ _=>simp[SV.cells]at h
end Go.Vc
end
section
namespace Go.Vc
variable{x y:Operand}{c:TypeId}{h b f o:Nat}{g:List Ce}
variable{e:Program}{T:TT}
def nh(e:Program)(T:TT)(b:Fr)(m:I)(a:Act)(o:Oper)(k:SV->Prop):Prop:=
 ∃x v,k x/\x.Is v/\∀w:World,(∀q∈P8 T b o.op,D w.heap q.1 q.2=D m q.1 q.2)->(execOp a.eval o).run e w=.ok (.value v) w
section
variable{n:Nat}{i:Fr}{a:Act}{j:I}{k:SV->Prop}{q:Option Tmp}{v:TypeId}{u:String}{p:Array Edge}{r:Option (Nat×Bool)}
def QM(b:jr n i a)(h:k (ev i x)):nh e T i j a ⟨q,.move x,v,u,p,r⟩ k:=
 ⟨_,_,h,b.ev x,λw _=>by simp[execOp]⟩
def PO(b:jr n i a)(h:k (ev i x)):nh e T i j a ⟨q,.assign x,v,u,p,r⟩ k:=
 ⟨_,_,h,b.ev x,λw _=>by simp[execOp]⟩
def Ol(c:jr n i a){f:Operand}(h:rd T i j k (.pick f x y)):nh e T i j a ⟨q,.pick f x y,v,u,p,r⟩ k:=by
 simp only[rd]at h;split at h
 ·rename_i d;exact⟨_,_,h,c.ev x,λw _=>by simp[execOp,c.eq d rfl,SV.v,asBool]⟩
 ·rename_i d;exact⟨_,_,h,c.ev y,λw _=>by simp[execOp,c.eq d rfl,SV.v,asBool]⟩
 ·rename_i b d;split at h
  ·rename_i m o g l;refine⟨_,_,h,mr _,λw _=>?_⟩;simp[execOp,c.eq d rfl,SV.v,Ce.v,asBool,c.Ww g,c.Ww l];try (cases b<;>rfl)
  ·exact h.elim
 ·exact h.elim
def IF(d:jr n i a)(h:rd T i j k (.nilCheck x)):nh e T i j a ⟨q,.nilCheck x,v,u,p,r⟩ k:=by
 simp only[rd]at h;split at h
 ·rename_i b o c;exact⟨_,_,h,mr _,λw _=>by simp[execOp,d.eq c rfl,SV.v,Ce.v]⟩
 ·rename_i m b o c;exact⟨_,_,h,mr _,λw _=>by simp[execOp,d.eq c rfl,SV.v,Ce.v]⟩
 ·rename_i f g l c;exact⟨_,_,h,mr _,λw _=>by simp[execOp,d.eq c rfl,SV.v,Ce.v]⟩
 ·rename_i m c;obtain⟨s,g,l⟩:=h;exact⟨_,_,l,mr _,λw _=>by simp[execOp,d.eq c rfl,SV.v,Ce.v,g]⟩
 ·exact h.elim
def RJ{a:BinOp}{x y:Int}(h:pO a x y k):∃s v,k s/\s.Is v/\∀w:World,(binOp a c (.int .i64 x) (.int .i64 y)).run e w=.ok v w:=by
 cases a<;>simp only[pO]at h
 case quo=>exact⟨_,_,h.2,mr _,λw=>by simp[binOp,Op.intDiv,h.1,SV.v,Ce.v,cK]⟩
 case rem=>exact⟨_,_,h.2,mr _,λw=>by simp[binOp,Op.intDiv,h.1,SV.v,Ce.v]⟩
 case xor=>exact⟨_,_,h,mr _,λw=>by simp[binOp,Op.intBits,SV.v,Ce.v,cK,So,IntKind.bits];rfl⟩
 all_goals exact⟨_,_,h,mr _,λw=>by simp[binOp,Op.intArith,Op.intCmp,SV.v,Ce.v,cK]⟩
def MW(a:BinOp)(c:TypeId)(d f:Operand)(b:IntKind)(x:Int)(y:Value)(w:World):(eqGuard a c d f (.int b x) y).run e w=.ok () w:=by
 cases a<;>simp[eqGuard]
def LJ(a:BinOp)(c:TypeId)(b d:Operand)(x:Bool)(y:Value)(w:World):(eqGuard a c b d (.bool x) y).run e w=.ok () w:=by
 cases a<;>simp[eqGuard]
def Ob(a:e.underlying c=some .bool)(x y:Bool)(w:World):(Op.equal c (.bool x) (.bool y)).run e w=.ok (x==y) w:=by
 have:Op.equal c (.bool x) (.bool y)=Op.equalIn (9999+1) c (.bool x) (.bool y):=rfl;rw[this];generalize 9999=h;simp[Op.equalIn,run_underlying a]
def GZ{a:TypeId}(b:e.underlying c=some (.slice a))(s:O)(w:World):(Op.equal c s.v (.slice none 0 0)).run e w=.ok s.Dk w:=by
 have:Op.equal c s.v (.slice none 0 0)=Op.equalIn (9999+1) c s.v (.slice none 0 0):=rfl;rw[this];generalize 9999=h;cases s<;>simp[Op.equalIn,run_underlying b,O.v]
def MX(a:e.underlying c=some (.int .i64))(x y:Int)(w:World):(Op.equalIn (h+1) c (.int .i64 x) (.int .i64 y)).run e w=.ok (x==y) w:=by
 simp[Op.equalIn,run_underlying a]
def Nl(d:sA e T){u:Nat}(f:eM T u=some ⟨.cell,[.I],b⟩){a:Array Value}{c:Nat}{v:Value}(h:a[c]? =some v)(w:World):(part u a c).run e w=.ok v w:=by
 simp[part,Fc d f rfl,TI.agg,h]
def QJ(n:sA e T){X Y:Array Value}(A:World):∀(j:List Field)(i:Nat)(l:List (Nat×Nat))(g r:List Ce)(z:Bool),j.map (λf=>(f.offset,f.type))=l->(∀f∈j,f.name≠ "_")->
 (∀k d,g[k]? =some d->X[i+k]? =some d.v)->(∀k d,r[k]? =some d->Y[i+k]? =some d.v)->UJ T i l g r=some z->
 (forIn (m:=Sem) j ((none,()):Option Bool×PUnit) λf _=>do
  if f.name≠ "_" then
   if !(<-Op.equalIn (h+1) f.type (<-part f.type X f.offset) (<-part f.type Y f.offset))then pure (.done (some false,()))else pure (.yield (none,()))
  else pure (.yield (none,()))).run e A=.ok (if z=true then(none,())else(some false,())) A:=by
 intro j
 induction j with
 |nil=>
  intro i l g r z u v p q c
  subst u
  cases g<;>cases r<;>simp[UJ]at c
  subst c
  simp
 |cons f j K=>
  intro i l g r z u v p q c
  subst u
  simp only[cg]at c
  unfold UJ at c
  split at c
  ·simp at*
  ·rename_i i _ _ _ _ o N l a g b r C
   obtain⟨⟨rfl,rfl⟩,rfl⟩:=by simpa using C
   cases s:Nat.beq f.offset i
   ·rw[s]at c;simp at c
   ·rw[s]at c;simp only[iL]at c
    have x:=be s
    split at c
    ·rename_i M L w J
     simp only[Bb]at c
     obtain⟨⟨B,D,y⟩,_⟩:=my (n.vM w)
     have F:B=.int .i64:=by unfold xE at y;split at y<;>simp_all
     subst F
     have H:X[f.offset]? =some (.int .i64 a):=by have:=p 0 (.i a) rfl;rw[x];exact this
     have I:Y[f.offset]? =some (.int .i64 b):=by have:=q 0 (.i b) rfl;rw[x];exact this
     have G:=K (i+1) _ g r L rfl (λt E=>v t (ai _ E)) (λk d t=>by have:=p (k+1) d (by simpa using t);rw[<-this];congr 1;omega) (λk d t=>by have:=q (k+1) d (by simpa using t);rw[<-this];congr 1;omega) J
     rw[List.forIn_cons,Sem.run_bind,aq (v f ba)]
     simp only[Sem.run_bind,Nl n w H,Nl n w I,Result.andThen_ok,MX D]
     cases t:(a==b)
     ·rw[t]at c;subst c;simp
     ·rw[t]at c;simp only[Lh]at c;subst c
      simp only[Lg,ib,pL,Sem.run_pure,Result.andThen_ok]
      exact G
    ·simp at c
  ·simp at c
def LO(j:sA e T){a:Array Field}(p:e.underlying c=some (.struct a))(o:e.stoodInHeld c=false)(n:∀f∈a.toList,f.name≠ "_"){r:List Ce}{z:Bool}
 (l:UJ T 0 (a.toList.map λf=>(f.offset,f.type)) g r=some z)(w:World):(Op.equal c (.agg (g.map Ce.v).toArray) (.agg (r.map Ce.v).toArray)).run e w=.ok z w:=by
 have:Op.equal c (.agg (g.map Ce.v).toArray) (.agg (r.map Ce.v).toArray)=Op.equalIn (9998+1+1) c (.agg (g.map Ce.v).toArray) (.agg (r.map Ce.v).toArray):=rfl
 rw[this]
 generalize 9998=h
 rw[Op.equalIn]
 simp only[Sem.run_bind,run_underlying p,Result.andThen_ok]
 have m:=QJ j (h:=h) (X:=(g.map Ce.v).toArray) (Y:=(r.map Ce.v).toArray) w a.toList 0 _ g r z rfl n (λk i b=>by simp[b]) (λk i b=>by simp[b]) l
 have b:(program:Sem Program).run e w=.ok e w:=rfl
 rw[b,Result.andThen_ok,ae (by simp[o]),Sem.run_bind,<-Array.forIn_toList,m]
 cases z<;>rfl
def PI(h:RP e c=true):∃a,e.underlying c=some (.struct a)/\(∀f∈a.toList,f.name≠ "_")/\e.stoodInHeld c=false/\e.eqGuardType e.depth c=false:=by
 unfold RP at h;split at h
 ·rename_i a b;simp only[bC,List.all_eq_true,tz,gF]at h;exact⟨a,b,h.1.1,h.1.2,h.2⟩
 ·cases h
def MV(h:e.eqGuardType e.depth c=false)(f g:Operand)(a b:Array Value)(w:World):(eqGuard .eql c f g (.agg a) (.agg b)).run e w=.ok () w:=by
 have d:(program:Sem Program).run e w=.ok e w:=rfl;simp only[eqGuard,Sem.run_bind];simp[d,h]
def JZ(a:BinOp)(c:TypeId)(b d:Operand)(s:O)(y:Value)(w:World):(eqGuard a c b d s.v y).run e w=.ok () w:=by
 cases s<;>cases a<;>simp[eqGuard,O.v]
def Na(m:sA e T)(d:jr n i a){z:BinOp}{D:TypeId}(b:rd T i j k (.binOp z c x y D)):nh e T i j a ⟨q,.binOp z c x y D,v,u,p,r⟩ k:=by
 simp only[rd]at b;split at b
 ·rename_i M N f l;obtain⟨s,F,A,w,C⟩:=RJ (e:=e) (c:=c) b;refine⟨s,F,A,w,λB _=>?_⟩;simp only[execOp,d.eq f rfl,d.eq l rfl,SV.v,Ce.v,Sem.run_bind];simp[MW,C]
 ·rename_i s f l;split at b
  ·rename_i J K I A;have w:=(jt (m.vM A)).1;have G:a.eval x=s.v:=d.eq f rfl;have H:a.eval y=.slice none 0 0:=d.eq l rfl;cases z<;>simp only[Sa]at b
   all_goals
    first
    |exact b.elim
    |exact⟨_,_,b,mr _,λB _=>by
     have C:∀o:BinOp,o=.eql\/o=.neq->binOp o c s.v (.slice none 0 0)=(if o=.eql then(do pure (.bool (<-Op.equal c s.v (.slice none 0 0))))else(do pure (.bool (!(<-Op.equal c s.v (.slice none 0 0)))))):=by
      intro o F;rcases F with rfl|rfl<;>cases s<;>rfl
     simp only[execOp,G,H,Sem.run_bind,JZ,Result.andThen_ok];rw[C _ E];simp[GZ w,SV.v,Ce.v]⟩
  ·exact b.elim
 ·rename_i g O f l;split at b
  ·unfold Yf at b;split at b
   ·rename_i H A;split at b
    ·rename_i S C;obtain⟨Q,w,K,L,I⟩:=PI (m.YR H);obtain⟨⟨R,s,J⟩,_⟩:=lJ (m.vM A);rw[w]at s;obtain rfl:=(TypeDesc.struct.inj (mB s));rw[<-J]at C;refine⟨_,_,b,mr _,λB _=>?_⟩;have F:a.eval x=.agg (g.map Ce.v).toArray:=d.eq f rfl;have G:a.eval y=.agg (O.map Ce.v).toArray:=d.eq l rfl;simp only[execOp,F,G,Sem.run_bind,MV I,Result.andThen_ok,binOp,LO m w L K C];rfl
    ·exact b.elim
   ·exact b.elim
  ·exact b.elim
 ·split at b
  ·rename_i M N A f l;obtain⟨⟨h,s,C⟩,_⟩:=my (m.vM A);have w:h=.bool:=by
    cases h<;>simp_all [xE]
   subst w;cases z<;>simp only[RI]at b
   all_goals
    first
    |exact b.elim
    |exact⟨_,_,b,mr _,λB _=>by
     simp only[execOp,d.Ww f,d.Ww l,Sem.run_bind,LJ,Result.andThen,binOp,Ob s];rfl⟩
  ·exact b.elim
def J2(d:sA e T)(l:jr n i a){s:TypeId}(b:rd T i j k (.convert s c x)):nh e T i j a ⟨q,.convert s c x,v,u,p,r⟩ k:=by
 simp only[rd]at b;split at b
 ·rename_i E A B C D w y z;obtain⟨⟨h,m,_⟩,_⟩:=my (d.vM w);obtain⟨⟨g,o,f⟩,_⟩:=my (d.vM y);have t:g=.int .i64:=by unfold xE at f;split at f<;>simp_all
  subst t;exact⟨_,_,b,mr _,λF _=>by
   simp only[execOp,l.eq z rfl,SV.v,Ce.v,Sem.run_bind];simp[convert,run_underlying m,run_underlying o,Conv.intToInt,cK]⟩
 ·exact b.elim
def Om(b:jr n i a){f:UnOp}(h:rd T i j k (.unOp f c x)):nh e T i j a ⟨q,.unOp f c x,v,u,p,r⟩ k:=by
 simp only[rd]at h;generalize d:ev i x=sx at h;unfold WC at h;split at h
 ·exact⟨_,_,h,mr _,λw _=>by simp[execOp,b.eq d rfl,SV.v,Op.unary]⟩
 ·exact⟨_,_,h,mr _,λw _=>by simp[execOp,b.eq d rfl,SV.v,Op.unary]⟩
 ·exact⟨_,_,h,mr _,λw _=>by simp[execOp,b.eq d rfl,SV.v,Ce.v,Op.unary]⟩
 ·exact⟨_,_,h,mr _,λw _=>by simp[execOp,b.eq d rfl,SV.v,Ce.v,Op.unary,Op.intArith,cK]⟩
 ·exact h.elim
def AJ(l:sA e T)(L:jr n i a){mk:Nat->SV}(E:∀o,(mk o).v=.pointer (some ⟨b,o,none⟩))(J:a.eval x=.pointer (some ⟨b,o,none⟩))(h:CX T c f o mk k):
 nh e T i j a ⟨q,.fieldAddr c x f,v,u,p,r⟩ k:=by
 unfold CX at h
 split at h
 ·rename_i N O K H
  split at h
  ·rename_i M P s
   split at h
   ·rename_i g I
    cases d:(g.sG||Nat.beq g.sh.length 0)
    ·rw[d]at h
     simp only[bQ]at d
     obtain⟨⟨z,C,D⟩,_⟩:=lJ (l.vM H)
     rw[nR,<-D,bW]at s
     obtain⟨y,A,m⟩:=Option.map_eq_some_iff.1 s
     simp only[Lk]at m
     obtain⟨rfl,rfl⟩:=m
     have G:=λw=>jv l I d.1 w
     have F:g.sh.length≠0:=λt=>by rw[t]at d;simp at d
     refine⟨_,_,h,mr _,λw _=>?_⟩
     have B:z[f]? =some y:=by simpa using A
     rw[E]
     simp[execOp,Instr.fieldAt,J,run_underlying C,B,Instr.sureAddr,fieldPlace,G,F,tF]
    ·rw[d]at h;exact h.elim
   ·exact h.elim
  ·exact h.elim
 ·exact h.elim
def G8(l:sA e T)(d:jr n i a)(h:rd T i j k (.fieldAddr c x f)):nh e T i j a ⟨q,.fieldAddr c x f,v,u,p,r⟩ k:=by
 simp only[rd]at h;split at h
 ·rename_i b o g;exact AJ l d (λo=>rfl) (d.eq g rfl) h
 ·rename_i m b o g;exact AJ l d (λo=>rfl) (d.eq g rfl) h
 ·exact h.elim
def Nc(l:sA e T)(m:jr n i a)(h:rd T i j k (.field c x f)):nh e T i j a ⟨q,.field c x f,v,u,p,r⟩ k:=by
 simp only[rd]at h;split at h
 ·rename_i g C;unfold LP at h;split at h
  ·rename_i N O L K;split at h
   ·rename_i M P A;split at h
    ·rename_i E B;cases b:E.sG
     ·rw[b]at h;obtain⟨⟨G,z,I⟩,_⟩:=lJ (l.vM K);rw[nR,<-I,bW]at A;obtain⟨F,H,s⟩:=Option.map_eq_some_iff.1 A;simp only[Lk]at s;obtain⟨rfl,rfl⟩:=s;have J:=λw=>jv l B b w;have o:=λw=>Fc l B b w;have t:G[f]? =some F:=by simpa using H
      cases d:E.agg
      ·simp only[d,kZ]at h;split at h
       ·rename_i y D;refine⟨_,_,h,mr _,λw _=>?_⟩;rw[nR]at D;simp[execOp,Instr.field,m.eq C rfl,SV.v,run_underlying z,t,asAgg,part,o,d,D]
       ·exact h.elim
      ·simp only[d,kZ,iL]at h;refine⟨_,_,h,mr _,λw _=>?_⟩;simp[execOp,Instr.field,m.eq C rfl,SV.v,run_underlying z,t,asAgg,part,o,d,J,List.map_drop,Lj]
     ·rw[b]at h;exact h.elim
    ·exact h.elim
   ·exact h.elim
  ·exact h.elim
 ·exact h.elim
def G9(l:sA e T)(g:jr n i a)(h:rd T i j k (.indexAddr c x y)):nh e T i j a ⟨q,.indexAddr c x y,v,u,p,r⟩ k:=by
 simp only[rd]at h;split at h
 ·rename_i E J C D;unfold Un at h;split at h
  ·rename_i I L G A;split at h
   ·rename_i F t;cases f:F.sG
    ·rw[f]at h;obtain⟨m,d,s⟩:=h;have B:=(jt (l.vM A)).1;have z:=λw=>jv l t f w;cases E with
     |nil=>simp[O.len]at d;omega
     |Bj _ _ _=>simp[O.len]at d;omega
     |mk b o K H=>
      refine⟨_,_,s,mr _,λw _=>?_⟩;simp only[O.len]at d;simp[execOp,Instr.indexAt,g.eq C rfl,g.eq D rfl,SV.v,Ce.v,O.v,asIntOf,run_underlying B,m,d,z,tF,O.F,O.off]
    ·rw[f]at h;exact h.elim
   ·exact h.elim
  ·exact h.elim
 ·exact h.elim
def Nh:∀(d:List Sh)(b o a:Nat)(k:List Ce->Prop),SZ j b o a d k->∃g,k g/\g.length=d.length/\∀i,i<d.length->D j b (o+a+i)=(g[i]?).map Ce.v
 |[],_,_,_,_,h=>⟨[],h,rfl,λi c=>by simp at c⟩
 |s::r,b,o,a,k,h=>by
  obtain⟨x,n,h⟩:=h;obtain⟨g,l,m,f⟩:=Nh r b o (a+1) _ h;refine⟨s.mk x::g,l,by simp[m],λi c=>?_⟩;cases i with
  |zero=>simpa using n
  |succ i=>
   have:=f i (by simpa using c);have e:o+(a+1)+i=o+a+(i+1):=V;rw[e]at this;simpa using this
def lD(B:sA e T)(U:jr n i a)(J:a.eval x=.pointer (some ⟨b,o,none⟩)){f:TI}(I:eM T c=some f)(H:f.sG=false)
 (L:∀d,d<f.sh.length->(b,o+d)∈P8 T i (.load c x))(F:g.length=f.sh.length)(M:∀z,z<f.sh.length->D j b (o+z)=(g[z]?).map Ce.v)
 {s:SV}(V:s.iP=true)(Q:(f.agg=true/\s.v=.agg (g.map Ce.v).toArray)\/(f.agg=false/\∃m,g=[m]/\s.v=m.v))(O:k s):
 nh e T i j a ⟨q,.load c x,v,u,p,r⟩ k:=by
 refine⟨s,s.v,O,mr _,λl S=>?_⟩
 have R:=jv B I H l
 have C:=Fc B I H l
 have E:∀d,d<f.sh.length->D l.heap b (o+d)=(g[d]?).map Ce.v:=λd h=>by rw[S (b,o+d) (L d h),M d h]
 rcases Q with⟨t,y⟩|⟨t,m,y,K⟩
 ·have G:=run_loadCells_list (P:=e) (w:=l) ⟨b,o,none⟩ (g.map Ce.v) (λd W h=>by
   rw[tF,xf];have N:d<f.sh.length:=by
    rcases aV d f.sh.length with A|A
    ·exact A
    ·rw[cb bK]at h;simp at h
   rw[E d N,<-bW,h])
  simp only[eO]at G
  simp only[execOp,Instr.loadAt,J,Instr.sureAddr,loadVar,Sem.run_bind,Sem.run_pure,C,t,Result.andThen_ok,R,JV]
  simp[<-F,G,y]
 ·subst y
  have A:=E 0 (by rw[<-F];simp)
  simp at A
  simp only[execOp,Instr.loadAt,J,Instr.sureAddr,loadVar,Sem.run_bind,Sem.run_pure,C,t,Result.andThen_ok]
  simp[xf,A,K]
def Gm(C:sA e T)(B:jr n i a)(D:a.eval x=.pointer (some ⟨b,o,none⟩))
 (A:∀d f,eM T c=some d->f<d.sh.length->(b,o+f)∈P8 T i (.load c x))(h:Ni T j c b o k):nh e T i j a ⟨q,.load c x,v,u,p,r⟩ k:=by
 unfold Ni at h
 split at h
 ·rename_i H I F d
  obtain⟨g,w,G,E⟩:=Nh _ _ _ _ _ h
  exact lD C B D d rfl (λf t=>A _ f d t) G (λz m=>by simpa using E z m) (s:=.agg g) rfl (Or.inl ⟨rfl,rfl⟩) w
 ·rename_i G F d
  obtain⟨y,E,w⟩:=h
  exact lD C B D d rfl (λf t=>A _ f d t) (g:=[G.mk y]) rfl (λz m=>by
   have:z=0:=by simpa using m
   subst this;exact E) (s:=.c (G.mk y)) rfl (Or.inr ⟨rfl,_,rfl,rfl⟩) w
 ·rename_i G H F d
  obtain⟨y,E,w⟩:=h
  exact lD C B D d rfl (λf t=>A _ f d t) (g:=[.s y]) rfl (λz m=>by
   have:z=0:=by simpa using m
   subst this;exact E) (s:=.c (.s y)) rfl (Or.inr ⟨rfl,_,rfl,rfl⟩) w
 ·exact h.elim
def JO:∀{a:List Ce}{b o:Nat}{g:List Ce},Ej a o b=some g->g.length=b/\∀i,i<b->a[o+i]? =g[i]?
 |a,0,o,g,h=>by simp[Ej]at h;subst h;simp
 |a,b+1,o,g,h=>by
  simp only[Ej]at h;split at h
  ·rename_i j r c f;simp at h;subst h;obtain⟨d,e⟩:=JO f;refine⟨by simp[d],λi k=>?_⟩;cases i with
   |zero=>rw[nR]at c;simpa using c
   |succ i=>
    have:=e i V;rw[show o+(i+1)=o+1+i by omega];simpa using this
  ·simp at h
def Gl(C:sA e T)(B:jr n i a){I:Nat}{H:List Ce}(F:a.eval x=.pointer (some ⟨b,o,none⟩))
 (A:∀d m,eM T c=some d->m<d.sh.length->(b,o+m)∈P8 T i (.load c x))(J:j[b]? =some (.cells (H.map Ce.v).toArray I))(h:KJ T c H o k):
 nh e T i j a ⟨q,.load c x,v,u,p,r⟩ k:=by
 have E:∀f,D j b f=(H[f]?).map Ce.v:=λf=>by simp[D,J]
 unfold KJ at h
 split at h
 ·rename_i L M G d
  split at h
  ·rename_i g K
   obtain⟨t,w⟩:=JO K
   exact lD C B F d rfl (λm z=>A _ m d z) t (λf y=>by rw[E,w f y]) (s:=.agg g) rfl (Or.inl ⟨rfl,rfl⟩) h
  ·exact h.elim
 ·rename_i K G d
  split at h
  ·rename_i t w
   rw[nR]at w
   exact lD C B F d rfl (λm z=>A _ m d z) (g:=[t]) rfl (λf y=>by
    have:f=0:=by simpa using y
    subst this;rw[E];simp[w]) (s:=.c t) rfl (Or.inr ⟨rfl,_,rfl,rfl⟩) h
  ·exact h.elim
 ·rename_i I K G d
  split at h
  ·rename_i t w
   rw[nR]at w
   exact lD C B F d rfl (λm z=>A _ m d z) (g:=[t]) rfl (λf y=>by
    have:f=0:=by simpa using y
    subst this;rw[E];simp[w]) (s:=.c t) rfl (Or.inr ⟨rfl,_,rfl,rfl⟩) h
  ·exact h.elim
 ·rename_i M L K G d
  split at h
  ·rename_i t w
   rw[nR]at w
   exact lD C B F d rfl (λm z=>A _ m d z) (g:=[t]) rfl (λf y=>by
    have:f=0:=by simpa using y
    subst this;rw[E];simp[w]) (s:=.c t) rfl (Or.inr ⟨rfl,_,rfl,rfl⟩) h
  ·exact h.elim
 ·exact h.elim
def Ok(l:sA e T)(d:jr n i a)(B:Bx n i j)(h:rd T i j k (.load c x)):nh e T i j a ⟨q,.load c x,v,u,p,r⟩ k:=by
 simp only[rd]at h;split at h
 ·rename_i b o f;exact Gm l d (d.eq f rfl) (λm g A z=>by simp only[P8,f,A];exact List.mem_map.2 ⟨g,List.mem_range.2 z,rfl⟩) h
 ·rename_i C b o f;have w:∀m g,eM T c=some m->g<m.sh.length->(b,o+g)∈P8 T i (.load c x):=λm g A z=>by simp only[P8,f,A];exact List.mem_map.2 ⟨g,List.mem_range.2 z,rfl⟩
  split at h
  ·rename_i D t s y;obtain⟨rfl,h⟩:=h;exact Gl l d (d.eq f rfl) w (B.F C _ t s (Or.inl y)) h
  ·rename_i D t s y;obtain⟨rfl,h⟩:=h;exact Gl l d (d.eq f rfl) w (B.F C _ t s (Or.inr y)) h
  ·exact Gm l d (d.eq f rfl) w h
 ·exact h.elim
end
end Go.Vc
end
section
namespace Go.Vc
variable{x:Operand}{t:TypeId}
variable{P:Program}{T:TT}
section
variable{n:Nat}{b:Fr}{a:Act}{m:I}{k:SV->Prop}{d:Option Tmp}{g:TypeId}{f:String}{c:Array Edge}{e:Option (Nat×Bool)}
def J3(l:jr n b a){j:Nat}(h:rd T b m k (.extract x j)):nh P T b m a ⟨d,.extract x j,g,f,c,e⟩ k:=by
 simp only[rd]at h;split at h
 ·rename_i p o;split at h
  ·rename_i y i;refine⟨_,_,h,mr _,λw _=>?_⟩;rw[nR]at i;rw[AV.XK];have:a.eval x=.tuple (p.map AV.v).toArray:=l.eq o rfl;simp[execOp,Instr.extract,this,i]
  ·exact h.elim
 ·exact h.elim
def KT(c:jr n b a){x:Option Operand}{d:Int}{k:Int->Prop}(h:Kb b x d k):
 (x=none/\k d)\/∃y i,x=some y/\a.eval y=.int .i64 i/\k i:=by
 unfold Kb at h
 split at h
 ·exact Or.inl ⟨rfl,h⟩
 ·rename_i y
  split at h
  ·rename_i i e
   exact Or.inr ⟨y,i,rfl,c.eq e rfl,h⟩
  ·exact h.elim
def nW(k:IntKind)(i:Int)(y:Nat)(c:BoundsCode)(a:0<=i)(b:i<=y)(w:World):(Instr.sliceBound (.int k i) y c).run P w=.ok i.toNat w:=by
 simp[Instr.sliceBound,asIntOf,a,b]
def Vi(b o l c a d e:Nat):(O.cut (.mk b o l c) a d e).v=.slice (if c=a then some ⟨b,o,none⟩else(some (⟨b,o,none⟩:Addr)).map (·.add (a*e))) (d -a) (c -a):=by
 show Value.slice _ _ _=_;simp only[tF,mz];split<;>rfl
def Nd(J:sA P T)(r:jr n b a){A y:Option Operand}(i:rd T b m k (.slice t x A y none)):nh P T b m a ⟨d,.slice t x A y none,g,f,c,e⟩ k:=by
 simp only[rd]at i;split at i
 ·rename_i s G;unfold OF at i;split at i
  ·rename_i v N M L;split at i
   ·rename_i B K;cases D:B.sG
    ·rw[D]at i;have F:=(jt (J.vM L)).1;have E:=λw=>jv J K D w;have z:∀(l h:Int),0<=l->l<=h->h<=(s.cap:Int)->
      (∀w:World,(Instr.sliceBounds true s.len s.cap (A.map a.eval) (y.map a.eval) none).run P w=.ok (l.toNat,h.toNat,s.cap) w)->
      ∀w:World,(execOp a.eval ⟨d,.slice t x A y none,g,f,c,e⟩).run P w=.ok (.value (Ce.s (s.cut l.toNat h.toNat B.sh.length)).v) w:=by
      intro l h o p j q w
      cases s with
      |nil=>
       simp only[O.cap,O.len]at q j
       have:h=0:=V
       have:l=0:=V
       subst this;subst h
       simp[execOp,Instr.sliceAt,r.eq G rfl,SV.v,Ce.v,O.v,run_underlying F,Instr.slice,q,E,O.cut]
      |Bj u C H=>
       simp only[O.cap,O.len]at q j
       have:h=0:=V
       have:l=0:=V
       subst this;subst h
       simp[execOp,Instr.sliceAt,r.eq G rfl,SV.v,Ce.v,O.v,run_underlying F,Instr.slice,q,E,O.cut]
      |mk u I H C=>
       simp only[O.cap,O.len]at q
       have v:(Ce.s ((O.mk u I H C).cut l.toNat h.toNat B.sh.length)).v=_:=Vi u I H C l.toNat h.toNat B.sh.length
       rw[v]
       have:a.eval x=.slice (some ⟨u,I,none⟩) H C:=r.eq G rfl
       simp[execOp,Instr.sliceAt,this,run_underlying F,Instr.slice,q,E]
     simp only[kZ]at i;rcases KT r i with⟨rfl,C⟩|⟨Q,l,rfl,H,C⟩<;>rcases KT r C with⟨rfl,o,p,j,u⟩|⟨R,h,rfl,I,o,p,j,u⟩
     ·exact⟨_,_,u,mr _,λw _=>z _ _ o p j (λw=>by simp[Instr.sliceBounds]) w⟩
     ·exact⟨_,_,u,mr _,λw _=>z _ _ o p j (λw=>by simp[Instr.sliceBounds,I,nW _ _ _ _ (by omega:0<=h) j]) w⟩
     ·exact⟨_,_,u,mr _,λw _=>z _ _ o p j (λw=>by simp[Instr.sliceBounds,H,nW _ _ _ _ o p]) w⟩
     ·exact⟨_,_,u,mr _,λw _=>z _ _ o p j (λw=>by
       have v:l<=(h.toNat:Int):=V;simp[Instr.sliceBounds,I,H,nW _ _ _ _ (by omega:0<=h) j,nW _ _ _ _ o v]) w⟩
    ·rw[D]at i;exact i.elim
   ·exact i.elim
  ·exact i.elim
 ·exact i.elim
def Il(w:sA P T)(q:jr n b a)(p:List (Nat×Nat))(lg:Nat->Option (Nat×Nat))
 (r:∀i d t f,EU p i=some (d,t)->eM T t=some f->f.sG=false->lg i=some (d,f.sh.length)):
 ∀(s:List (Nat×Operand))(c:List Ce)(k:List Ce->Prop),CR T b p c s k->
  ∃l,k l/\Instr.fill lg (c.map Ce.v).toArray (s.map λe=>(e.1,a.eval e.2))=some (l.map Ce.v).toArray
 |[],c,k,h=>⟨c,h,rfl⟩
 |(i,x)::H,c,k,h=>by
  simp only[CR]at h;split at h
  ·rename_i d t e E D;split at h
   ·rename_i f F;cases g:(!f.sG&&Nat.beq e.length f.sh.length&&Nat.ble (d+e.length) c.length)
    ·rw[g]at h;exact h.elim
    ·rw[g]at h;simp only[bC,gF]at g;obtain⟨⟨y,m⟩,o⟩:=g;have m:=be m;have o:=ka o;obtain⟨l,A,C⟩:=Il w q p lg r H (kH c d e) k h;refine⟨l,A,?_⟩;obtain⟨B,z⟩:=nK D;have G:a.eval x=(ev b x).v:=q.eq rfl B;simp only[cg,Instr.fill,r i d t f E F y,G,z,Ba,eO,m];rw[ae bK,<-C];congr 1;apply y9;intro j;have u:=KN (e.map Ce.v) 0 d (c.map Ce.v).toArray j;rw[<-XQ,WE];have v:=zp c d e j o;rw[show((List.map Ce.v (kH c d e)).toArray)[j]? =((kH c d e)[j]?).map Ce.v by simp,v];rw[u];simp;split<;>split<;>first|rfl|(exfalso;omega)|(congr 1;omega)
   ·exact h.elim
  ·exact h.elim
def VJ(T:TT)(t:Nat):Nat:=match eM T t with|some a=>a.sh.length|none=>0
def Gt(c:sA P T)(w:World):∀(a:List Field),(∀f∈a,∃b,eM T f.type=some b/\b.sG=false)->
 (a.mapM (λf=>do pure (f.offset,<-sizeOf f.type):Field->Sem (Nat×Nat))).run P w=.ok (a.map λf=>(f.offset,VJ T f.type)) w
 |[],_=>E
 |f::a,h=>by
  obtain⟨b,d,j⟩:=h f E;have e:=Gt c w a (λg i=>h g (by simp[i]));simp only[Rm,Sem.run_bind,jv c d j,Result.andThen_ok,Sem.run_pure]at e⊢;rw[e];simp[VJ,d]
def Gv:∀{d:List (Nat×Nat)},td T d=true->∀p∈d,∃a,eM T p.2=some a/\a.sG=false
 |[],_,_,h=>by simp at h
 |(o,t)::r,h,p,c=>by
  simp only[td,bC]at h;rcases List.mem_cons.1 c with rfl|c
  ·have b:=h.1;split at b
   ·rename_i a e;exact⟨a,e,by simpa using b⟩
   ·simp at b
  ·exact Gv h.2 p c
def Nb(l:sA P T)(z:jr n b a){o:Array (Nat×Operand)}(i:rd T b m k (.build t o)):nh P T b m a ⟨d,.build t o,g,f,c,e⟩ k:=by
 simp only[rd]at i;split at i
 ·rename_i y L N v;cases q:td T y
  ·rw[q]at i;exact i.elim
  rw[q]at i;obtain⟨⟨j,D,s⟩,_⟩:=lJ (l.vM v);obtain⟨M,J,K,R⟩:=tU l v rfl;have A:∀h∈j.toList,∃r,eM T h.type=some r/\r.sG=false:=λh B=>
   Gv q (h.offset,h.type) (by rw[<-s];exact List.mem_map.2 ⟨h,B,rfl⟩)
  have H:∀w:World,(j.mapM (λh=>do pure (h.offset,<-sizeOf h.type):Field->Sem (Nat×Nat))).run P w=.ok (j.toList.map λh=>(h.offset,VJ T h.type)).toArray w:=by
   intro w;rw[Rw,Sem.run_map,Gt l w j.toList A];rfl
  obtain⟨S,F,G⟩:=Il l z y (λx=>((j.toList.map λh=>(h.offset,VJ T h.type)).toArray)[x]?) (λx U t r u I Q=>by
   rw[nR,<-s,bW]at u;obtain⟨O,C,p⟩:=Option.map_eq_some_iff.1 u;simp only[Lk]at p;obtain⟨rfl,rfl⟩:=p;simp only[j9,bW,C,mz,VJ,I]) _ _ _ i
  refine⟨_,_,F,mr _,λw _=>?_⟩;have u:M.cells=((L.map Sh.zero).map Ce.v).toArray:=by
   apply Array.toList_inj.1;simp[J]
  have C:(o.map λp=>(p.1,a.eval p.2)).toList=o.toList.map λp=>(p.1,a.eval p.2):=E;simp only[execOp,Instr.build,Sem.run_bind,K,Result.andThen_ok,run_underlying D,H,u,C,G];simp[SV.v]
 ·exact i.elim
def zk(d:jr n b a):∀{c:List Operand},c.all (λx=>(ev b x).iP)=true->c.map a.eval=c.map λx=>(ev b x).v
 |[],_=>rfl
 |x::c,h=>by
  simp only[Li,bC]at h;simp only[cg,d.eq rfl h.1,zk d h.2]
def J1(v:sA P T)(l:jr n b a){s:Builtin}{i:Array Operand}{r:Array TypeId}(h:rd T b m k (.call ⟨.builtin s,i,r⟩)):
 nh P T b m a ⟨d,.call ⟨.builtin s,i,r⟩,g,f,c,e⟩ k:=by
 simp only[rd]at h
 unfold Qr at h
 split at h
 ·rename_i t x z p
  split at h
  ·rename_i D E C q y o
   refine⟨_,_,h,mr _,λw _=>?_⟩
   have A:=(jt (v.vM y)).1
   have u:r=#[t]:=Array.toList_inj.1 (by simpa using z)
   have j:i=#[x]:=Array.toList_inj.1 (by simpa using p)
   subst u;subst j
   have B:a.eval x=q.v:=l.eq o rfl
   cases q<;>simp[execOp,resolve,invoke,builtin,Builtin.len_,run_underlying A,B,O.v,goInt,SV.v,Ce.v,O.len]
  ·exact h.elim
 ·rename_i x y p
  split at h
  ·rename_i u z o q
   refine⟨_,_,h,mr _,λw _=>?_⟩
   have j:i=#[x,y]:=Array.toList_inj.1 (by simpa using p)
   subst j
   simp[execOp,resolve,invoke,builtin,Builtin.max_,Builtin.max2,l.eq o rfl,l.eq q rfl,SV.v,Ce.v]
  ·exact h.elim
 ·rename_i x y p
  split at h
  ·rename_i u z o q
   refine⟨_,_,h,mr _,λw _=>?_⟩
   have j:i=#[x,y]:=Array.toList_inj.1 (by simpa using p)
   subst j
   simp[execOp,resolve,invoke,builtin,Builtin.min_,Builtin.min2,l.eq o rfl,l.eq q rfl,SV.v,Ce.v]
  ·exact h.elim
 ·exact h.elim
def Jb(j:sA P T)(i:jr n b a)(s:Bx n b m)(o:Oper)(h:rd T b m k o.op):nh P T b m a o k:=by
 obtain⟨d,l,g,f,c,e⟩:=o;cases l with
 |move x=>exact QM i h
 |assign x=>exact PO i h
 |pick p x y=>exact Ol i h
 |nilCheck x=>exact IF i h
 |binOp l t x y q=>exact Na j i h
 |unOp l t x=>exact Om i h
 |convert q t x=>exact J2 j i h
 |fieldAddr t x q=>exact G8 j i h
 |field t x q=>exact Nc j i h
 |indexAddr t x y=>exact G9 j i h
 |load t x=>exact Ok j i s h
 |extract x r=>exact J3 i h
 |slice t x v u r=>cases r with
  |none=>exact Nd j i h
  |some y=>exact h.elim
 |build t r=>exact Nb j i h
 |call p=>
  obtain⟨r,u,w⟩:=p;cases r with
  |builtin v=>exact J1 j i h
  |value q=>exact h.elim
  |invoke v q=>exact h.elim
 |_=>exact h.elim
end
end Go.Vc
end
section
namespace Go.Vc
variable{m m':I}{b o e n q:Nat}{l:List Ce}
def aj(m:I)(b o:Nat):List Ce->I
 |[]=>m
 |c::r=>aj (pA m b o c.v) b (o+1) r
def fm(m:I)(b o n:Nat):Prop:=∀j,j<n->(D m b (o+j)).isSome=true/\tH m b (o+j)=false
def fQ(m:I)(b o:Nat)(l:List Ce):Prop:=∀(i:Nat)(c:Ce),l[i]? =some c->D m b (o+i)=some c.v
def lU(a:List Ce)(n:Nat):List Ce:=(List.replicate n a).flatten
def br(l:List Ce):Array Value:=(l.map Ce.v).toArray
def OD(m:I)(b o:Nat)(v:Value):(pA m b o v).size=m.size:=by simp[pA]
def Jl(m:I)(b o:Nat)(v:Value){j:Nat}(h:j≠b):(pA m b o v)[j]? =m[j]? :=by
 simp only[pA,j8];rw[ae (λe=>h e.symm)]
def az:∀(l:List Ce)(m:I)(b o:Nat),(aj m b o l).size=m.size
 |[],_,_,_=>rfl
 |c::r,m,b,o=>by simp only[aj];rw[az r,OD]
def bh:∀(l:List Ce)(m:I)(b o:Nat){j:Nat},j≠b->(aj m b o l)[j]? =m[j]?
 |[],_,_,_,_,_=>rfl
 |c::r,m,b,o,j,h=>by simp only[aj];rw[bh r _ _ _ h,Jl m b o _ h]
def lC{v:Value}(h:D m b o=some v):b<m.size:=by
 rcases aV b m.size with a|a
 ·exact a
 ·simp[D,Gb a]at h
def aI(h:m'[b]? =m[b]?)(o:Nat):D m' b o=D m b o:=by simp only[D,h]
def cB(m:I)(b:Nat)(e:Nat)(l:List Ce):Prop:=m[b]? =some (.cells (br l) e)
def Rf(l:List Ce)(i:Nat):(br l)[i]? =(l[i]?).map Ce.v:=by simp[br]
def cB.cy(h:cB m b e l)(o:Nat):D m b o=(l[o]?).map Ce.v:=by
 have a:m[b]? =some (.cells (br l) e (0,0)):=h;simp only[D,a,Rf]
def cB.je(h:cB m b e l):fQ m b 0 l:=λi c a=>by rw[h.cy,bN,a];rfl
def cB.lt(h:cB m b e l):b<m.size:=(Array.getElem?_eq_some_iff.1 h).1
def cB.tH{m:I}{b e:Nat}{l:List Ce}(h:cB m b e l)(o:Nat):tH m b o=false:=by
 have a:m[b]? =some (.cells (br l) e (0,0)):=h;simp[Vc.tH,a]
def cB.fm(h:cB m b e l)(c:o+n<=l.length):fm m b o n:=λj a=>by
 refine⟨?_,h.tH _⟩;rw[h.cy];simp;omega
def cB.push(m:I)(l:List Ce)(e:Nat):cB (m.push (.cells (br l) e)) m.size e l:=by simp[cB]
def cB.congr(a:cB m b e l)(h:m'[b]? =m[b]?):cB m' b e l:=by
 unfold cB at*;rw[h];exact a
def cB.pA{m:I}{b e:Nat}{l:List Ce}(h:cB m b e l)(o:Nat)(c:Ce):cB (pA m b o c.v) b e (l.set o c):=by
 have d:m[b]? =some (.cells (br l) e (0,0)):=h;have f:=h.lt;simp only[cB,Vc.pA,j8,JV,d,mz];congr 2;apply y9;intro i;simp only[br,Array.getElem?_setIfInBounds,j9,bW,iI,Ba,eO];by_cases e:o=i
 ·subst e;by_cases a:o<l.length
  ·simp[a]
  ·simp[a]
 ·simp[e]
def iE(l:List Ce)(o:Nat):List Ce->List Ce
 |[]=>l
 |c::r=>iE (l.set o c) (o+1) r
def nm:∀(r l:List Ce)(o:Nat),(iE l o r).length=l.length
 |[],_,_=>rfl
 |c::r,l,o=>by simp only[iE];rw[nm r];simp
def tW:∀(r l:List Ce)(o i:Nat),(iE l o r)[i]? =if o<=i/\i<o+r.length/\i<l.length then r[i -o]? else l[i]?
 |[],l,o,i=>by simp[iE];intro h;omega
 |c::r,l,o,i=>by
  simp only[iE];rw[tW r,iI];simp only[gW,bg];by_cases b:o=i
  ·subst b;by_cases a:o<l.length
   ·simp[a];try omega
   ·simp[a];try omega
  ·by_cases a:o<=i/\i<o+(r.length+1)/\i<l.length
   ·rw[aq a,aq V,show i -o=(i -(o+1))+1 by omega,fO]
   ·rw[ae a,ae V];simp[b]
def cB.aj{m:I}{b e:Nat}:∀{r l:List Ce}{m:I}{o:Nat},cB m b e l->cB (aj m b o r) b e (iE l o r)
 |[],_,_,_,h=>h
 |c::r,l,m,o,h=>by
  simp only[Vc.aj,iE];exact cB.aj (m:=m) (h.pA o c)
def tc(t:Nat):List Nat->Bool
 |[]=>false
 |u::r=>Nat.beq u t||tc t r
def ER{t:Nat}:∀{M:List Nat},tc t M=true->t∈M
 |[],h=>by simp[tc]at h
 |u::r,h=>by
  simp only[tc,cv]at h;rcases h with h|h
  ·rw[be h];exact ba
  ·exact ai _ (ER h)
def JU(n:Nat):Fr->List Nat->List Nat
 |[],_=>[]
 |(q,x)::r,a=>bif Nat.ble n q&&!tc q a then
  match x with
  | .box b _ _=>b::JU n r (q::a)
  | .wZ b _ _=>b::JU n r (q::a)
  |_=>JU n r (q::a)
  else JU n r a
def dV(l:List Nat)(m m':I):Prop:=∀b∈l,m'[b]? =m[b]?
def xH(l:List Nat)(m m':I)(k:Prop):Prop:=
 match l with
 |[]=>k
 |_=>dV l m m'/\k
def kP{l:List Nat}{k:Prop}(h:xH l m m' k):dV l m m'/\k:=by
 unfold xH at h;split at h
 ·exact⟨(λb a=>by cases a),h⟩
 ·exact h
def Em{n:Nat}{q b e:Nat}{l:List Ce}(c:n<=q):∀{j:Fr}{a:List Nat},q∉a->km j q b e l->b∈JU n j a
 |[],a,_,h=>by rcases h with h|h<;>simp[fP]at h
 |(u,x)::r,a,g,h=>by
  simp only[JU];cases f:Nat.beq u q
  ·have k:u≠q:=λe=>by subst e;simp at f
   have d:km r q b e l:=by
    unfold km at h⊢;simpa only[fP,f,kZ]using h
   have i:q∉u::a:=by
    simp only[aS,tA];exact⟨λe=>k e.symm,g⟩
   cases(Nat.ble n u&&!tc u a)
   ·exact Em c g d
   ·simp only[iL];split
    ·exact ai _ (Em c i d)
    ·exact ai _ (Em c i d)
    ·exact Em c i d
  ·have:=be f;subst this;have i:tc u a=false:=by
    cases k:tc u a
    ·rfl
    ·exact absurd (ER k) g
   have d:Nat.ble n u=true:=UU c;simp only[i,d,JS,Bool.and_self,iL];unfold km at h;simp only[fP,f,iL]at h;rcases h with h|h<;>rw[h]<;>exact ba
def Bx.hO{c:Fr}(h:Bx n c m){x:SV}(i:∀b e l,x≠.box b e l/\x≠.wZ b e l):Bx n ((q,x)::c) m:=by
 have d:∀{u b e l},km ((q,x)::c) u b e l->km c u b e l:=by
  intro u b e l a;unfold km at a⊢;simp only[fP]at a;cases g:Nat.beq q u
  ·rw[g]at a;exact a
  ·rw[g]at a;rcases a with a|a
   ·exact absurd a (i b e l).1
   ·exact absurd a (i b e l).2
 exact⟨λq b e l f=>h.F q b e l (d f),λq t b e l j k s r o p=>h.LF q t b e l j k s r (d o) (d p),λq b e l f=>h.key q b e l (d f)⟩
def SV.VD(x:SV)(b e:Nat)(l:List Ce):x.nb≠.box b e l/\x.nb≠.wZ b e l:=by
 cases x<;>exact⟨by simp[SV.nb],by simp[SV.nb]⟩
def Bx.put{a:Fr}(h:Bx n a m)(d:Option Nat)(x:SV):Bx n (rU a d x) m:=by
 cases d with
 |none=>exact h
 |some d=>exact h.hO (SV.VD x)
def Bx.da{a:Fr}(h:Bx n a m)(d:dV (JU n a []) m m'):Bx n a m':=
 ⟨λq b e l c=>by rw[d b (Em (h.key q b e l c) E c)];exact h.F q b e l c,h.LF,h.key⟩
def Bx.push{a:Fr}(h:Bx n a m)(o:Obj):Bx n a (m.push o):=
 ⟨λq b e l d=>by
  have c:=h.F q b e l d;have f:=(Array.getElem?_eq_some_iff.1 c).1;rw[vQ,ae V];exact c,h.LF,h.key⟩
def Bx.new{d:Fr}(h:Bx n d m)(x:n<=q)(t:Nat)(l:List Ce):Bx n ((q,.box m.size t l)::d) (m.push (.cells (br l) t)):=by
 have w:=h.push (.cells (br l) t);have p:∀{u b e l},km d u b e l->b<m.size:=λa=>(Array.getElem?_eq_some_iff.1 (h.F _ _ _ _ a)).1;have g:∀{u b e c},km ((q,.box m.size t l)::d) u b e c->(u=q/\b=m.size/\e=t/\c=l)\/(u≠q/\km d u b e c):=by
  intro u b e c a;unfold km at a⊢;simp only[fP]at a;cases f:Nat.beq q u
  ·rw[f]at a;exact Or.inr ⟨λe=>by subst e;simp at f,a⟩
  ·rw[f]at a;have:=be f;subst this;rcases a with a|a
   ·simp at a;exact Or.inl ⟨rfl,a.1.symm,a.2.1.symm,a.2.2.symm⟩
   ·simp at a
 refine⟨λu b e c a=>?_,λu B b e z r s A o v k=>?_,λu b e c a=>?_⟩
 ·rcases g a with⟨rfl,rfl,rfl,rfl⟩|⟨_,a⟩
  ·simp[br]
  ·exact w.F u b e c a
 ·rcases g v with⟨rfl,rfl,rfl,rfl⟩|⟨f,j⟩
  ·rcases g k with⟨rfl,rfl,rfl,rfl⟩|⟨y,i⟩
   ·exact absurd rfl o
   ·have:=p i;omega
  ·rcases g k with⟨rfl,rfl,rfl,rfl⟩|⟨y,i⟩
   ·have:=p j;omega
   ·exact h.LF u B b e z r s A o j i
 ·rcases g a with⟨rfl,rfl,rfl,rfl⟩|⟨_,a⟩
  ·exact x
  ·exact h.key u b e c a
def Bx.uA{j:Fr}(h:Bx n j m){f:List Ce}(G:fP j q=.box b e f)(o:Nat)(l:List Ce):Bx n ((q,.box b e (iE f o l))::j) (aj m b o l):=by
 have k:km j q b e f:=Or.inl G;have F:cB m b e f:=h.F q b e f k;have p:∀{u c d g},km ((q,.box b e (iE f o l))::j) u c d g->(u=q/\c=b/\d=e/\g=iE f o l)\/(u≠q/\km j u c d g):=by
  intro u c d g a;unfold km at a⊢;simp only[fP]at a;cases i:Nat.beq q u
  ·rw[i]at a;exact Or.inr ⟨λe=>by subst e;simp at i,a⟩
  ·rw[i]at a;have:=be i;subst this;rcases a with a|a
   ·simp at a;exact Or.inl ⟨rfl,a.1.symm,a.2.1.symm,a.2.2.symm⟩
   ·simp at a
 refine⟨λu c d g a=>?_,λu s t w C v x D A E z=>?_,λu c d g a=>?_⟩
 ·rcases p a with⟨rfl,rfl,rfl,rfl⟩|⟨i,a⟩
  ·exact cB.aj (m:=m) F
  ·rw[bh l m b o (h.LF u q c d g b e f i a k)];exact h.F u c d g a
 ·rcases p E with⟨rfl,rfl,rfl,rfl⟩|⟨i,y⟩
  ·rcases p z with⟨rfl,rfl,rfl,rfl⟩|⟨B,r⟩
   ·exact absurd rfl A
   ·exactλe=>h.LF s u v x D _ _ _ B r k e.symm
  ·rcases p z with⟨rfl,rfl,rfl,rfl⟩|⟨B,r⟩
   ·exact h.LF u s t w C _ _ _ i y k
   ·exact h.LF u s t w C v x D A y r
 ·rcases p a with⟨rfl,rfl,rfl,rfl⟩|⟨_,a⟩
  ·exact h.key u c d f k
  ·exact h.key u c d g a
def CV(a:Fr):List Ce->Option Fr
 |[]=>some a
 | .bp q _ _::r=>match fP a q with
  | .wZ _ _ _=>none
  |_=>CV ((q,.hO)::a) r
 |_::r=>CV a r
def AV.RN:AV->List Ce
 | .c x=>[x]
 | .agg l=>l
def SV.RN:SV->List Ce
 | .c x=>[x]
 | .agg l=>l
 | .Uy l=>l.flatMap AV.RN
 |_=>[]
def QK(a:Fr)(l:List SV):Option Fr:=CV a (l.flatMap SV.RN)
def oI{n:Nat}{f:Act}{m:I}:∀{l:List Ce}{a c:Fr},CV a l=some c->jr n a f->Bx n a m->jr n c f/\Bx n c m
 |[],a,c,h,e,d=>by simp[CV]at h;subst h;exact⟨e,d⟩
 |g::r,a,c,h,e,d=>by
  cases g with
  |bp q b o=>
   simp only[CV]at h;split at h
   ·simp at h
   ·exact oI h (e.hO q) (d.hO E)
  |_=>exact oI (l:=r) (by simpa[CV]using h) e d
end Go.Vc
end
section
namespace Go.Vc
variable{P:Program}{T:TT}
def LX(m:I)(k:I->Prop):Prop:=k m
def iS(m:I)(f:Nat)(b:List Ce)(e:Nat)(s x:O)(k:O->I->Prop):Prop:=
 ∃a:List Ce,a.length=x.len*b.length/\fQ m x.F x.off a/\
  (s.len+x.len<=s.cap->fm m s.F (s.off+s.len*b.length) a.length/\
   k (match s with| .nil=>.nil| .mk d o l c=>.mk d o (l+x.len) c| .Bj d o g=>.Bj d o g) (aj m s.F (s.off+s.len*b.length) a))/\
  (s.cap<s.len+x.len->(s.len+x.len)*e<=140737488355328/\∃old:List Ce,old.length=s.len*b.length/\fQ m s.F s.off old/\
   ∀c,s.len+x.len<=c->k (.mk m.size 0 (s.len+x.len) c) (m.push (.cells (br (old++a++lU b (c -(s.len+x.len)))) f)))
def Ui(m:I)(c:Nat)(s x:O)(k:SV->I->Prop):Prop:=
 ∃a:List Ce,a.length=Nat.min x.len s.len*c/\fQ m x.F x.off a/\fm m s.F s.off a.length/\
  LX (aj m s.F s.off a) λb=>k (.c (.i (Nat.min x.len s.len:Nat))) b
def Rv:List Sh->(List Ce->Prop)->Prop
 |[],k=>k []
 |s::r,k=>∃x:s.ty,Rv r λl=>k (s.mk x::l)
def PM(T:TT):List Nat->(List AV->Prop)->Prop
 |[],k=>k []
 |t::r,k=>match eM T t with
  |some ⟨.struct _,b,_⟩=>Rv b λl=>PM T r λa=>k (.agg l::a)
  |some ⟨.cell,[s],_⟩=>∃x:s.ty,PM T r λa=>k (.c (s.mk x)::a)
  |some ⟨.slice _,[_],_⟩=>∃x:O,PM T r λa=>k (.c (.s x)::a)
  |_=>False
def Nq(T:TT)(t:Nat)(v:Value)(k:SV->Prop):Prop:=
 match eM T t with
 |some ⟨.tuple [],_,_⟩=>k .hO
 |some ⟨.tuple a,_,_⟩=>PM T a λl=>v=.tuple (l.map AV.v).toArray/\k (.Uy l)
 |some ⟨.struct _,a,_⟩=>Rv a λl=>v=.agg (l.map Ce.v).toArray/\k (.agg l)
 |some ⟨.cell,[s],_⟩=>∃x:s.ty,v=(s.mk x).v/\k (.c (s.mk x))
 |some ⟨.slice _,[_],_⟩=>∃x:O,v=x.v/\k (.c (.s x))
 |_=>False
def Qu(P:Program)(T:TT)(G:List Nat)(n:Nat)(a:Fr)(m:I)(e:Nat)(h:Operand)(b:List Operand)(k:Fr->SV->I->Prop):Prop:=
 match QK a (b.map (ev a))with
 |none=>False
 |some d=>match ev a h with
  | .c (.fn (.func g) first f)=>bif G.elem g&&b.all (λx=>(ev a x).iP)then
   aN P g (first.toList++(b.map λx=>(ev a x).v)++f.toList) m λv c=>xH (JU n d []) m c (Nq T e v λx=>k d x c)
   else False
  | .c (.fv q)=>bif b.all (λx=>(ev a x).iP)then
   ∃g,q.1=.func g/\G.elem g=true/\aN P g (q.2.1.toList++(b.map λx=>(ev a x).v)++q.2.2.toList) m λv c=>xH (JU n d []) m c (Nq T e v λx=>k d x c)
   else False
  |_=>False
def QW(m:I)(b:Nat)(l:List (Int×Int)):Prop:=
 ∃a c,m[b]? =some (.map a c)/\a.toList.map (λe=>(e.key,e.val))=l.map λp=>(Value.int .i64 p.1,Value.int .i64 p.2)
def LY(l:List (Int×Int))(k:Int):Int:=
 match l with
 |[]=>0
 |(j,v)::r=>if k=j then v else LY r k
def Ot(l:List (Int×Int))(k v:Int):List (Int×Int):=
 match l with
 |[]=>[(k,v)]
 |(j,u)::r=>if k=j then(j,v)::r else(j,u)::Ot r k v
def uQ(T:TT)(d:Fr)(b:Nat):List Ce->List (Nat×Operand)->(List Ce->Prop)->Prop
 |a,[],k=>k a
 |a,(i,x)::r,k=>
  match(ev d x).cells with
  |some c=>bif Nat.beq c.length b&&Nat.ble (i*b+c.length) a.length then uQ T d b (kH a (i*b) c) r k else False
  |none=>False
def PT(n:Nat)(b:Fr)(d:Option Nat)(m:I)(t:Nat)(l:List Ce)(k:Fr->SV->I->Prop):Prop:=
 match d with
 |some a=>match fP b (n+a)with
  | .wZ _ _ _=>False
  |_=>LX (m.push (.cells (br l) t)) λc=>k ((n+a,.box m.size t l)::b) (.c (.bp (n+a) m.size 0)) c
 |none=>LX (m.push (.cells (br l) t)) λc=>k b (.c (.p m.size 0)) c
def Mk(n:Nat)(c:Fr)(m:I)(x:SV)(l:List Ce)(k:Fr->SV->I->Prop):Prop:=
 match x with
 | .c (.p b o)=>fm m b o l.length/\LX (aj m b o l) λa=>xH (JU n c []) m a (k c .un a)
 | .c (.bp q b o)=>match fP c q with
  | .box d f e=>bif Nat.ble (o+l.length) e.length then LN d b (LX (aj m b o l) λa=>k ((q,.box d f (iE e o l))::c) .un a)else False
  | .wZ _ _ _=>False
  |_=>fm m b o l.length/\LX (aj m b o l) λa=>xH (JU n c []) m a (k c .un a)
 |_=>False
def wr(P:Program)(T:TT)(G:List Nat)(n:Nat)(a:Fr)(m:I)(h:Option Nat)(o:Nat)(k:Fr->SV->I->Prop):Op->Prop
 | .alloc t=>match eM T t with
  |some f=>bif f.sG then False else PT n a h m t (f.sh.map Sh.zero) k
  |none=>False
 | .box t x=>match(ev a x).cells with
  |some l=>match CV a l with
   |some d=>PT n d h m t l k
   |none=>False
  |none=>False
 | .buildSlice t g i=>match eM T t with
  |some ⟨.slice e,_,_⟩=>match eM T e with
   |some c=>bif c.sG||!(Nat.ble (g*c.sh.length) 16777216)then False else
    uQ T a c.sh.length (lU (c.sh.map Sh.zero) g) i.toList λl=>match CV a l with
     |some d=>LX (m.push (.cells (br l) e)) λb=>k d (.c (.s (.mk m.size 0 g g))) b
     |none=>False
   |none=>False
  |_=>False
 | .store t x y=>match(ev a y).cells,eM T t with
  |some l,some f=>bif f.sG||!(Nat.beq l.length f.sh.length)then False else match CV a l with
   |some d=>Mk n d m (ev a x) l k
   |none=>False
  |_,_=>False
 | .makeSlice t x y=>match eM T t,ev a x,ev a y with
  |some ⟨.slice e,_,_⟩,.c (.i l),.c (.i f)=>match eM T e with
   |some c=>bif c.sG then False else 0<=l/\l<=f/\(c.bytes:Int)*f<=281474976710656/\f<=9223372036854775807/\
    LX (m.push (.cells (br (lU (c.sh.map Sh.zero) f.toNat)) e)) λb=>k a (.c (.s (.mk m.size 0 l.toNat f.toNat))) b
   |none=>False
  |_,_,_=>False
 | .makeFunc g first f=>bif first.toList.all (λx=>(ev a x).iP)&&f.toList.all (λx=>(ev a x).iP)then
  match QK a (first.toList.map (ev a)++f.toList.map (ev a))with
  |some d=>k d (.c (.fn g (first.toList.map λx=>(ev a x).v).toArray (f.toList.map λx=>(ev a x).v).toArray)) m
  |none=>False
  else False
 | .makeMap _ none=>LX (m.push (.map #[] 0)) λb=>k a (.c (.mp m.size)) b
 | .lookup t x y false=>match eM T t,ev a x,ev a y with
  |some ⟨.map f g,_,_⟩,.c (.mp d),.c (.i n)=>match eM T f,eM T g with
   |some ⟨.cell,[.I],_⟩,some ⟨.cell,[.I],_⟩=>∃l,QW m d l/\k a (.c (.i (LY l n))) m
   |_,_=>False
  |_,_,_=>False
 | .mapUpdate t x y z=>match eM T t,ev a x,ev a y,ev a z with
  |some ⟨.map f _,_,_⟩,.c (.mp d),.c (.i g),.c (.i v)=>match eM T f with
   |some ⟨.cell,[.I],_⟩=>∃l,QW m d l/\∀b,QW b d (Ot l g v)->b.size=m.size->(∀j,j≠d->b[j]? =m[j]?)->xH (JU n a []) m b (k a .un b)
   |_=>False
  |_,_,_,_=>False
 | .call ⟨.value f,d,_⟩=>Qu P T G n a m o f d.toList k
 | .call ⟨.builtin .append,d,f⟩=>match d.toList,f.toList with
  |[x,y],[t,u]=>match eM T t,eM T u,ev a x,ev a y with
   |some ⟨.slice e,_,_⟩,some ⟨.slice _,_,_⟩,.c (.s s),.c (.s z)=>match eM T e with
    |some c=>bif c.sG||Nat.beq c.bytes 0 then False else iS m e (c.sh.map Sh.zero) c.bytes s z λr b=>xH (JU n a []) m b (k a (.c (.s r)) b)
    |none=>False
   |_,_,_,_=>False
  |_,_=>False
 | .call ⟨.builtin .copy,d,f⟩=>match d.toList,f.toList with
  |[x,y],t::_=>match eM T t,ev a x,ev a y with
   |some ⟨.slice e,_,_⟩,.c (.s s),.c (.s z)=>match eM T e with
    |some c=>bif c.sG then False else Ui m c.sh.length s z λx b=>xH (JU n a []) m b (k a x b)
    |none=>False
   |_,_,_=>False
  |_,_=>False
 |_=>False
def EH(P:Program)(g:Nat):Bool:=
 match P.funcs[g]? with
 |some a=>!(a.name== "runtime.NumGoroutine")&&a.body.isSome
 |none=>false
def RC(P:Program)(G:List Nat):Prop:=G.all (EH P)=true
def NL(a:List Ce):∀(n i:Nat),i<n*a.length->(lU a n)[i]? =a[i%a.length]?
 |0,i,h=>by simp at h
 |n+1,i,h=>by
  have c:0<a.length:=by
   rcases jq a.length with e|e
   ·rw[e]at h;simp at h
   ·exact e
  have e:lU a (n+1)=a++lU a n:=by simp[lU,oX]
  rw[e,List.getElem?_append];split
  ·rename_i b;rw[Nat.mod_eq_of_lt b]
  ·rename_i b;rw[NL a n (i -a.length) (by rw[fC,Nat.one_mul]at h;omega)];congr 1;rw[Nat.mod_eq_sub_mod (by omega:i>=a.length)]
def pK(a:List Ce)(n:Nat):(lU a n).length=n*a.length:=by
 simp[lU]
def Ga(a:List Ce)(z:Array Value)(d:z.toList=a.map Ce.v)(n:Nat):
 (Array.range (n*a.length)).map (λi=>z[i%z.size]!)=br (lU a n):=by
 apply y9
 intro i
 have j:z.size=a.length:=by rw[<-WD,d];simp
 by_cases b:i<n*a.length
 ·have f:=NL a n i b
  have h:0<a.length:=by
   rcases jq a.length with e|e
   ·rw[e]at b;simp at b
   ·exact e
  have g:i%a.length<a.length:=Nat.mod_lt _ h
  have c:(br (lU a n))[i]? =((lU a n)[i]?).map Ce.v:=by simp[br]
  rw[c,f,<-bW,<-d]
  simp[b,j,g]
 ·have c:(br (lU a n))[i]? =none:=by simp[br,pK];omega
  rw[c]
  simp[b]
end Go.Vc
end
section
namespace Go.Vc
variable{c:SV}{l:List Ce}{t:TypeId}
variable{d:Program}{T:TT}{G:List Nat}
def Ce.Sb(c:Ce):c.v.oneCell'=true:=by
 cases c with
 |s y=>cases y<;>rfl
 |_=>rfl
def jN:∀(l:List Ce)(w:World)(b o:Nat),(w.setCells b o (l.map Ce.v)).heap=aj w.heap b o l
 |[],_,_,_=>rfl
 |c::r,w,b,o=>by
  simp only[cg,World.setCells,aj];rw[jN r,Ma]
def pt:∀(l:List Value)(w:World)(a o:Nat),nF w (w.setCells a o l)
 |[],w,_,_=>nF.aC w
 |c::r,w,a,o=>by
  simp only[World.setCells];exact nF.trans (b:=w.setCell ⟨a,o,none⟩ c) ⟨rfl,rfl,rfl⟩ (pt r _ a (o+1))
def Bz(l:List Ce)(b o:Nat)(w:World)(h:fm w.heap b o l.length):
 (storeCells ⟨b,o,none⟩ (l.map Ce.v)).run d w=.ok () (w.setCells b o (l.map Ce.v)):=by
 have:=run_storeCells_cells (P:=d) b o (l.map Ce.v) 0 w
  (λj a=>by have:=(h j (by simpa using a)).1;rw[xf];simpa using this)
  (λj a=>by have:=(h j (by simpa using a)).2;rw[Oh];simpa using this)
  (λv a=>by obtain⟨c,_,rfl⟩:=List.mem_map.1 a;exact c.Sb)
 simpa using this
def Ns(l:List Ce)(b o:Nat)(a:World)(h:fQ a.heap b o l):(loadCells ⟨b,o,none⟩ l.length).run d a=.ok (br l) a:=by
 have:=run_loadCells_list (P:=d) (w:=a) ⟨b,o,none⟩ (l.map Ce.v) (λj v c=>by
  rw[tF,xf];rw[bW]at c;obtain⟨e,f,rfl⟩:=Option.map_eq_some_iff.1 c;exact h j e f)
 simpa[br]using this
section
variable{n:Nat}{b:Fr}{a:Act}{m:I}{k:Fr->SV->I->Prop}{e:Option Tmp}{f:TypeId}{i:String}{g:Array Edge}{h:Option (Nat×Bool)}
def CI(d:Program)(n:Nat)(a:Act)(m:I)(o:Oper)(k:Fr->SV->I->Prop):Prop:=
 ∀(w:World),w.heap=m->∀(f:Act->World->Prop)(Q:Exit->Act->World->Prop),
  (∀e c v b,k e c b.heap->jr n e a->Bx n e b.heap->c.Is v->nF w b->f (a.put o.dst v) b)->o.wp d a w f Q
def iU{o:Oper}{e:Fr}{v:Value}{w b:World}(h:jr n e a)(g:Bx n e b.heap)(p:c.Is v)(m:nF w b)(i:k e c b.heap)(l:(execOp a.eval o).run d w=.ok (.value v) b)
 {f:Act->World->Prop}{Q:Exit->Act->World->Prop}(j:∀e c v b,k e c b.heap->jr n e a->Bx n e b.heap->c.Is v->nF w b->f (a.put o.dst v) b):o.wp d a w f Q:=by
 unfold Oper.wp
 rw[l]
 exact j e c v b i h g p m
def KR{i:Option Nat}{t:Nat}(g:jr n b a)(f:Bx n b m)(h:PT n b i m t l k):
 ∃d c,jr n d a/\Bx n d (m.push (.cells (br l) t))/\c.Is (.pointer (some ⟨m.size,0,none⟩))/\k d c (m.push (.cells (br l) t)):=by
 unfold PT at h
 split at h
 ·split at h
  ·exact h.elim
  ·rename_i e _ j
   exact⟨(n+e,.box m.size t l)::b,.c (.bp (n+e) m.size 0),g.cons _ (λ_=>trivial),f.new (Y2 _ _) t l,rfl,h⟩
 ·exact⟨b,.c (.p m.size 0),g,f.push _,rfl,h⟩
def NC(s:jr n b a)(g:Bx n b m)(h:Mk n b m c l k):
 ∃p d o,jr n p a/\Bx n p (aj m d o l)/\(∀v,c.Is v->v=.pointer (some ⟨d,o,none⟩))/\fm m d o l.length/\k p .un (aj m d o l):=by
 unfold Mk at h
 split at h
 ·obtain⟨q,r⟩:=kP h.2
  exact⟨_,_,_,s,g.da q,λv e=>e,h.1,r⟩
 ·split at h
  ·rename_i w d o _ i j f u
   cases t:Nat.ble (o+l.length) f.length
   ·rw[t]at h;exact h.elim
   ·rw[t]at h
    obtain⟨rfl,h⟩:=h
    have x:cB m i j f:=g.F w i j f (Or.inl u)
    exact⟨(w,.box i j (iE f o l))::b,_,_,s.cons _ (λ_=>trivial),g.uA u o l,λv e=>e,x.fm (ka t),h⟩
  ·exact h.elim
  ·obtain⟨q,r⟩:=kP h.2
   exact⟨_,_,_,s,g.da q,λv e=>e,h.1,r⟩
 ·exact h.elim
def N6(y:sA d T)(s:jr n b a)(q:Bx n b m)(j:wr d T G n b m e f k (.alloc t)):CI d n a m ⟨e,.alloc t,f,i,g,h⟩ k:=by
 intro l D L Q B
 subst D;simp only[wr]at j;split at j
 ·rename_i p C;cases o:p.sG
  ·rw[o]at j;obtain⟨I,F,H,K⟩:=tU y C o;have z:I.cells=br (p.sh.map Sh.zero):=by apply Array.toList_inj.1;simp[F,br]
   obtain⟨J,c,u,r,E,A⟩:=KR s q j;refine iU (w:=l) (c:=c) (v:=.pointer (some ⟨l.heap.size,0,none⟩)) (b:={l with heap:=l.heap.push (.cells (br (p.sh.map Sh.zero)) t)}) u r E ⟨rfl,rfl,rfl⟩ A ?_ B;simp[execOp,Instr.alloc,H,newVar,newRow,z]
  ·rw[o]at j;exact j.elim
 ·exact j.elim
def Qx(p:jr n b a)(q:Bx n b m){c:Operand}(j:wr d T G n b m e f k (.box t c)):CI d n a m ⟨e,.box t c,f,i,g,h⟩ k:=by
 intro o F L Q E
 subst F;simp only[wr]at j;split at j
 ·rename_i l D;split at j
  ·rename_i K A;obtain⟨y,s⟩:=oI A p q;obtain⟨B,z⟩:=nK D;obtain⟨J,I,u,r,H,C⟩:=KR y s j;refine iU (w:=o) (c:=I) (v:=.pointer (some ⟨o.heap.size,0,none⟩)) (b:={o with heap:=o.heap.push (.cells (br l) t)}) u r H ⟨rfl,rfl,rfl⟩ C ?_ E;simp[execOp,Instr.box,newVar,newRow,p.eq rfl B,z,br]
  ·exact j.elim
 ·exact j.elim
def JY(q:jr n b a)(y:Bx n b m){o:Fn}{first l:Array Operand}(j:wr d T G n b m e f k (.makeFunc o first l)):CI d n a m ⟨e,.makeFunc o first l,f,i,g,h⟩ k:=by
 intro r D F Q C
 subst D;simp only[wr]at j;cases p:(first.toList.all (λc=>(ev b c).iP)&&l.toList.all (λc=>(ev b c).iP))
 ·rw[p]at j;exact j.elim
 ·rw[p]at j;simp only[bC]at p;obtain⟨u,x⟩:=p;have s:(first.toList.map λc=>(ev b c).v).toArray=first.map a.eval:=by
   apply Array.toList_inj.1;simp[zk q u]
  have t:(l.toList.map λc=>(ev b c).v).toArray=l.map a.eval:=by
   apply Array.toList_inj.1;simp[zk q x]
  simp only[iL]at j;split at j
  ·rename_i E B;obtain⟨A,z⟩:=oI B q y;refine iU (w:=r) (b:=r) A z (v:=.func o (first.map a.eval) (l.map a.eval)) ?_ (nF.aC r) j ?_ C
   ·show Value.func o (first.map a.eval) (l.map a.eval)=Value.func o _ _;rw[s,t]
   ·simp[execOp,Instr.makeFunc]
  ·exact j.elim
def Gz(p:jr n b a)(e:Nat):
 ∀(q:List (Nat×Operand))(d:List Ce)(k:List Ce->Prop),uQ T b e d q k->
  ∃l,k l/\Instr.fill (λi=>some (i*e,e)) (d.map Ce.v).toArray (q.map λf=>(f.1,a.eval f.2))=some (l.map Ce.v).toArray
 |[],d,k,h=>⟨d,h,rfl⟩
 |(i,c)::z,d,k,h=>by
  simp only[uQ]at h;split at h
  ·rename_i f x;cases g:(Nat.beq f.length e&&Nat.ble (i*e+f.length) d.length)
   ·rw[g]at h;exact h.elim
   ·rw[g]at h;simp only[bC]at g;obtain⟨m,o⟩:=g;have m:=be m;have o:=ka o;obtain⟨l,u,w⟩:=Gz p e z (kH d (i*e) f) k h;refine⟨l,u,?_⟩;obtain⟨v,t⟩:=nK x;have y:a.eval c=(ev b c).v:=p.eq rfl v;simp only[cg,Instr.fill,y,t,Ba,eO,m];rw[ae bK,<-w];congr 1;apply y9;intro j;have r:=KN (f.map Ce.v) 0 (i*e) (d.map Ce.v).toArray j;rw[<-XQ,WE];have s:=zp d (i*e) f j o;rw[show((List.map Ce.v (kH d (i*e) f)).toArray)[j]? =((kH d (i*e) f)[j]?).map Ce.v by simp,s];rw[r];simp;split<;>split<;>first|rfl|(exfalso;omega)|(congr 1;omega)
  ·exact h.elim
def GX(B:sA d T)(D:jr n b a)(O:Bx n b m){j:Nat}{z:Array (Nat×Operand)}(o:wr d T G n b m e f k (.buildSlice t j z)):CI d n a m ⟨e,.buildSlice t j z,f,i,g,h⟩ k:=by
 intro q W ae aa R
 subst W;simp only[wr]at o;split at o
 ·rename_i M sh ab U;split at o
  ·rename_i p I;cases r:(p.sG||!(Nat.ble (j*p.sh.length) 16777216))
   ·rw[r]at o;simp only[bQ,XR]at r;have ac:=ka r.2;have J:=(jt (B.vM U)).1;obtain⟨L,X,Y,ad⟩:=tU B I r.1;have H:=λq=>jv B I r.1 q;obtain⟨l,y,s⟩:=Gz D _ _ _ _ o;cases C:CV b l with
    |none=>rw[C]at y;exact y.elim
    |some u=>
    rw[C]at y;obtain⟨Q,P⟩:=oI C D O;refine iU (w:=q) (c:=.c (.s (.mk q.heap.size 0 j j))) (v:=.slice (some ⟨q.heap.size,0,none⟩) j j) (b:={q with heap:=q.heap.push (.cells (br l) M)}) Q (P.push _) rfl ⟨rfl,rfl,rfl⟩ y ?_ R;have F:(z.map λu=>(u.1,a.eval u.2)).toList=z.toList.map λu=>(u.1,a.eval u.2):=E;have Z:L.cells.toList=(p.sh.map Sh.zero).map Ce.v:=by simp[X]
    have K:(p.sh.map Sh.zero).length=p.sh.length:=E;have kd:=Ga (p.sh.map Sh.zero) L.cells Z j;rw[K]at kd;by_cases A:j*p.sh.length=0
    ·have S:lU (p.sh.map Sh.zero) j=[]:=by
      apply List.length_eq_zero_iff.1;rw[pK,K,A]
     rw[S]at s;simp only[execOp,Instr.buildSlice,Sem.run_bind,run_underlying J,Result.andThen_ok,H,A];simp only[F];have N:(Array.map (λc=>(default:Value)) (Array.range 0))=#[]:=E;simp at s⊢;rw[N,s];simp[newRow,br]
    ·simp only[execOp,Instr.buildSlice,Sem.run_bind,run_underlying J,Result.andThen_ok,H,A,pL];have:¬(j*p.sh.length>2^24):=V;simp only[this,pL,Y,Sem.run_bind,Sem.run_pure,Result.andThen_ok,F];rw[kd];simp only[br]at s⊢;simp[s,newRow]
   ·rw[r]at o;exact o.elim
  ·exact o.elim
 ·exact o.elim
def N7(C:sA d T)(q:jr n b a)(v:Bx n b m){c y:Operand}(j:wr d T G n b m e f k (.store t c y)):CI d n a m ⟨e,.store t c y,f,i,g,h⟩ k:=by
 intro w R Y W K
 subst R;simp only[wr]at j;split at j
 ·rename_i l s I Q;cases o:(s.sG||!(Nat.beq l.length s.sh.length))
  ·rw[o]at j;simp only[kZ]at j;simp only[bQ,XR]at o;split at j
   ·rename_i X E;obtain⟨B,z⟩:=oI E q v;obtain⟨u,p,r,A,x,S,L,F⟩:=NC B z j;have J:=be o.2;obtain⟨H,D⟩:=nK I;have O:=λw=>jv C Q o.1 w;unfold Oper.wp;have M:(execOp a.eval ⟨e,.store t c y,f,i,g,h⟩).run d w=.ok .skip (w.setCells p r (l.map Ce.v)):=by
     have N:=Bz (d:=d) l p r w L;have U:a.eval c=.pointer (some ⟨p,r,none⟩):=S _ (q.ev c);have V:(a.eval y).cells=(l.map Ce.v).toArray:=by rw[q.eq rfl H,D]
     simp only[execOp,Instr.storeAt,U,Instr.sureAddr,storeVar,Sem.run_bind,Sem.run_pure,Result.andThen_ok,O,V,Ba,eO,J];simp[N]
    rw[M];exact K u .un undef _ (by rw[jN];exact F) A (by rw[jN];exact x) rfl (pt _ _ _ _)
   ·exact j.elim
  ·rw[o]at j;exact j.elim
 ·exact j.elim
end
end Go.Vc
end
section
namespace Go.Vc
variable{b y f:Operand}{t:TypeId}{e:Array TypeId}
variable{c:Program}{T:TT}{G:List Nat}
section
variable{n:Nat}{g:Fr}{a:Act}{m:I}{k:Fr->SV->I->Prop}{i:Option Tmp}{h:TypeId}{o:String}{j:Array Edge}{l:Option (Nat×Bool)}
def Ms{b:Int}(e: -9223372036854775808<=b)(f:b<=9223372036854775807):IntKind.i64.wrap b=b:=by
 have a:((2:Int)^IntKind.i64.bits)=18446744073709551616:=bd;have c:((2:Int)^(IntKind.i64.bits -1))=9223372036854775808:=bd;have d:IntKind.i64.signed=true:=rfl;simp only[IntKind.wrap,a,c,d,Lh,ao];split<;>omega
def aP{b:Int}(a: -9223372036854775808<=b)(c:b<=9223372036854775807):cK b=b:=Ms a c
def Iv(s:sA c T)(u:jr n g a)(H:Bx n g m)(e:wr c T G n g m i h k (.makeSlice t b y)):CI c n a m ⟨i,.makeSlice t b y,h,o,j,l⟩ k:=by
 intro q W ai ae K
 subst W;simp only[wr]at e;split at e
 ·rename_i D sh af p d R Z hy;split at e
  ·rename_i f z;cases r:f.sG
   ·rw[r]at e;obtain⟨h0,h1,h2,h3,J⟩:=e;have U:=(jt (s.vM R)).1;obtain⟨C,hz,ac,ah⟩:=tU s z r;obtain⟨ti,I,ag,S,_⟩:=Dt s z r;have Q:=λq=>jv s z r q;refine iU (w:=q) (c:=.c (.s (.mk q.heap.size 0 p.toNat d.toNat))) (v:=.slice (some ⟨q.heap.size,0,none⟩) p.toNat d.toNat) (b:={q with heap:=q.heap.push (.cells (br (lU (f.sh.map Sh.zero) d.toNat)) D)}) u (H.push _) rfl ⟨rfl,rfl,rfl⟩ J ?_ K;have ad:C.cells.toList=(f.sh.map Sh.zero).map Ce.v:=by simp[hz]
    have B:(f.sh.map Sh.zero).length=f.sh.length:=E;have kd:=Ga (f.sh.map Sh.zero) C.cells ad d.toNat;rw[B]at kd;have aa:a.eval b=.int .i64 p:=u.eq Z rfl;have ab:a.eval y=.int .i64 d:=u.eq hy rfl;have Y:IntKind.i64.wrap p=p:=Ms V V;have X:IntKind.i64.wrap d=d:=Ms V V;have L:¬d<0:=V;have M:¬((f.bytes:Int)*d>2^48):=by
     have:(2:Int)^48=281474976710656:=bd;omega
    have N:¬p<0:=V;have O:¬p>d:=V;simp only[execOp,Instr.makeSlice,Sem.run_bind,run_underlying U,Result.andThen_ok,asInt,asIntOf,aa,ab,Sem.run_pure,S,Y,X,I];simp only[L,M,N,O,decide_false,Ss,ib,pL];simp only[Sem.run_bind,Sem.run_pure,Result.andThen_ok,run_askRoom,Q];by_cases A:d.toNat*f.sh.length=0
    ·have P:lU (f.sh.map Sh.zero) d.toNat=[]:=by
      apply List.length_eq_zero_iff.1;rw[pK,B,A]
     rw[P];have F:(Array.map (λb=>(default:Value)) (Array.range 0))=#[]:=E;simp[A,newRow,br];rw[F]
    ·simp only[A,pL,Sem.run_bind,ac,Result.andThen_ok,Sem.run_pure];rw[kd];simp[newRow]
   ·rw[r]at e;exact e.elim
  ·exact e.elim
 ·exact e.elim
def Iy:∀{c:List Sh}{k:List Ce->Prop},Rv c k->∃l,k l
 |[],_,h=>⟨_,h⟩
 |_::_,_,⟨b,h⟩=>let⟨_,a⟩:=Iy h;⟨_,a⟩
def CW:∀{e:List Nat}{k:List AV->Prop},PM T e k->∃l,k l
 |[],_,h=>⟨_,h⟩
 |t::e,k,h=>by
  simp only[PM]at h;split at h
  ·obtain⟨l,c⟩:=Iy h;obtain⟨d,a⟩:=CW c;exact⟨_,a⟩
  ·obtain⟨b,c⟩:=h;obtain⟨d,a⟩:=CW c;exact⟨_,a⟩
  ·obtain⟨b,c⟩:=h;obtain⟨d,a⟩:=CW c;exact⟨_,a⟩
  ·exact h.elim
def PX{t:Nat}{v:Value}{k:SV->Prop}(h:Nq T t v k):∃b:SV,b.Is v/\k b:=by
 unfold Nq at h;split at h
 ·exact⟨.hO,trivial,h⟩
 ·obtain⟨l,c,a⟩:=CW h;exact⟨.Uy l,c,a⟩
 ·obtain⟨l,c,a⟩:=Iy h;exact⟨.agg l,c,a⟩
 ·rename_i s _ _;obtain⟨b,c,a⟩:=h;exact⟨.c (s.mk b),c,a⟩
 ·obtain⟨b,c,a⟩:=h;exact⟨.c (.s b),c,a⟩
 ·exact h.elim
def Iu(z:RC c G)(A:jr n g a){q:Fr}(B:jr n q a)(y:Bx n q m){d:Array Operand}{p:Nat}{first s:Array Value}(E:a.eval f=.func (.func p) first s)
 (H:G.elem p=true)(J:d.toList.all (λb=>(ev g b).iP)=true)
 (x:aN c p (first.toList++(d.toList.map λb=>(ev g b).v)++s.toList) m λv r=>xH (JU n q []) m r (Nq T h v λb=>k q b r)):
 CI c n a m ⟨i,.call ⟨.value f,d,e⟩,h,o,j,l⟩ k:=by
 intro w O V R K
 subst O
 have r:EH c p=true:=List.all_eq_true.1 z p (by simpa using H)
 have C:d.map a.eval=(d.toList.map λb=>(ev g b).v).toArray:=by
  apply Array.toList_inj.1;simp[<-zk A J]
 unfold EH at r
 split at r
 ·rename_i u F
  simp only[bC,gF]at r
  have D:u.body.isNone=false:=by cases U:u.body<;>simp_all
  have L:(execOp a.eval ⟨i,.call ⟨.value f,d,e⟩,h,o,j,l⟩).run c w=
   .ok (.enter p (first.toList++(d.toList.map λb=>(ev g b).v)++s.toList).toArray) w:=by
   simp only[execOp,resolve,E,C,Deferred.ofValue,Sem.run_bind,Sem.run_pure,Result.andThen_ok,invoke,callFunc,run_program,F,r.1,D,ib,pL]
   simp
  unfold Oper.wp
  rw[L]
  show Calls c p _ w _
  refine(x w rfl).mono ?_
  rintro S Q ⟨v,rfl,M,t⟩
  obtain⟨N,t⟩:=kP t
  obtain⟨b,P,I⟩:=PX t
  exact K q b v Q I B (y.da N) P M
 ·simp at r
def PK(v:RC c G)(q:jr n g a)(y:Bx n g m){r:Array Operand}(d:wr c T G n g m i h k (.call ⟨.value f,r,e⟩)):CI c n a m ⟨i,.call ⟨.value f,r,e⟩,h,o,j,l⟩ k:=by
 simp only[wr,Qu]at d;split at d
 ·exact d.elim
 rename_i D z;obtain⟨w,u⟩:=oI z q y;split at d
 ·rename_i s first x t
  cases p:(G.elem s&&r.toList.all (λb=>(ev g b).iP))
  ·rw[p]at d;exact d.elim
  ·rw[p]at d;simp only[bC]at p;exact Iu v q w u (q.eq t rfl) p.1 p.2 d
 ·rename_i x t;cases p:(r.toList.all (λb=>(ev g b).iP))
  ·rw[p]at d;exact d.elim
  ·rw[p]at d;obtain⟨s,A,B,d⟩:=d;have C:a.eval f=.func (.func s) x.2.1 x.2.2:=by
    rw[<-A];exact q.eq t rfl
   exact Iu v q w u C B p d
 ·exact d.elim
def qy(a:c.underlying t=some (.int .i64))(e:Bool)(b:Int)(w:World):(Instr.checkKey e 10000 t (.int .i64 b)).run c w=.ok () w:=by
 have:Instr.checkKey e 10000 t (.int .i64 b)=Instr.checkKey e (9999+1) t (.int .i64 b):=rfl;rw[this];generalize 9999=d;simp[Instr.checkKey,run_underlying a]
def xk(b:Int):∀(a:List MapEntry)(l:List (Int×Int))(i:Nat),a.map (λe=>(e.key,e.val))=l.map (λp=>(Value.int .i64 p.1,Value.int .i64 p.2))->
 (Instr.findNow (.int .i64) (.int .i64 b) a i=some none/\LY l b=0/\(∀v,Ot l b v=l++[(b,v)]))\/
 ∃j u,Instr.findNow (.int .i64) (.int .i64 b) a i=some (some (i+j,.int .i64 u))/\LY l b=u/\j<a.length/\l[j]? =some (b,u)/\∀v,Ot l b v=l.set j (b,v)
 |[],[],i,_=>Or.inl ⟨rfl,rfl,λv=>rfl⟩
 |[],_::_,i,h=>by simp at h
 |_::_,[],i,h=>by simp at h
 |e::a,(j,u)::l,i,h=>by
  simp only[cg,List.cons.injEq,Lk]at h;obtain⟨⟨r,s⟩,h⟩:=h;have k:Instr.sameNow (.int .i64) (.int .i64 b) e.key=some (b==j):=by rw[r];simp[Instr.sameNow]
  by_cases c:b=j
  ·subst c;refine Or.inr ⟨0,u,?_,?_,E,E,?_⟩
   ·simp[Instr.findNow,k,s]
   ·simp[LY]
   ·intro v;simp[Ot]
  ·have m:(b==j)=false:=by simpa using c
   rcases xk b a l (i+1) h with⟨d,f,g⟩|⟨q,t,d,f,g,o,p⟩
   ·refine Or.inl ⟨?_,?_,?_⟩
    ·simp[Instr.findNow,k,m,d]
    ·simp[LY,c,f]
    ·intro v;simp[Ot,c,g]
   ·refine Or.inr ⟨q+1,t,?_,?_,by simpa using g,by simpa using o,?_⟩
    ·have n:i+1+q=i+(q+1):=V;simp[Instr.findNow,k,m,d,n]
    ·simp[LY,c,f]
    ·intro v;simp[Ot,c,p]
def LG(f:jr n g a)(e:Bx n g m){r:Option Operand}(d:wr c T G n g m i h k (.makeMap t r)):CI c n a m ⟨i,.makeMap t r,h,o,j,l⟩ k:=by
 intro b q s Q p
 subst q;cases r with
 |some r=>exact d.elim
 |none=>
  refine iU (w:=b) (c:=.c (.mp b.heap.size)) (v:=.map (some b.heap.size)) (b:={b with heap:=b.heap.push (.map #[] 0)}) f (e.push _) rfl ⟨rfl,rfl,rfl⟩ d ?_ p;simp[execOp,Instr.makeMap]
def MU(u:sA c T)(s:jr n g a)(M:Bx n g m){A:Bool}(d:wr c T G n g m i h k (.lookup t b y A)):CI c n a m ⟨i,.lookup t b y A,h,o,j,l⟩ k:=by
 intro e X ag ad U
 subst X;cases A with
 |true=>exact d.elim
 |false=>
  simp only[wr]at d;split at d
  ·rename_i kt et sh ae C p W Y Z;split at d
   ·rename_i b1 b2 S Q;obtain⟨z,⟨D,K,P,O⟩,R⟩:=d;have H:=(zt (u.vM W)).1;obtain⟨⟨L,f,F⟩,_⟩:=my (u.vM S);have N:L=.int .i64:=by
     unfold xE at F;split at F<;>simp_all
    subst N;obtain⟨B,hz,ac,ab⟩:=tU u Q rfl;have aa:B=.int .i64 0:=by
     have:B.cells.toList=[Value.int .i64 0]:=hz;have V:=ab rfl;cases B<;>first|(simp[Value.cells]at this;done)|(simp[Value.cells]at this;rw[this.1,this.2])|exact absurd rfl (V _)
    have I:a.eval b=.map (some C):=s.eq Y rfl;have J:a.eval y=.int .i64 p:=s.eq Z rfl;have E:(getObj C).run c e=.ok (.map D K) e:=by simp[getObj,Sem.run,P]
    refine iU (w:=e) (c:=.c (.i (LY z p))) (v:=.int .i64 (LY z p)) (b:=e) s M rfl (nF.aC e) R ?_ U;rcases xk p D.toList z 0 O with⟨q,r,_⟩|⟨af,ah,q,r,_⟩
    ·simp[execOp,Instr.lookup,run_underlying H,I,J,E,qy f,Instr.findKey,run_underlying f,q,ac,aa,r]
    ·simp[execOp,Instr.lookup,run_underlying H,I,J,E,qy f,Instr.findKey,run_underlying f,q,r]
   ·exact d.elim
  ·exact d.elim
def Iw(N:sA c T)(s:jr n g a)(M:Bx n g m){z:Operand}(r:wr c T G n g m i h k (.mapUpdate t b y z)):CI c n a m ⟨i,.mapUpdate t b y z,h,o,j,l⟩ k:=by
 intro w hw ak ai S
 subst hw;simp only[wr]at r;split at r
 ·rename_i kt et sh aj e d v ht hx hy hz;split at r
  ·rename_i b1 ag;obtain⟨aa,⟨p,q,H,A⟩,R⟩:=r;have W:=(zt (N.vM ht)).1;obtain⟨⟨ab,x,U⟩,_⟩:=my (N.vM ag);have ac:ab=.int .i64:=by
    unfold xE at U;split at U<;>simp_all
   subst ac;have X:a.eval b=.map (some e):=s.eq hx rfl;have Y:a.eval y=.int .i64 d:=s.eq hy rfl;have Z:a.eval z=.int .i64 v:=s.eq hz rfl;have P:(getObj e).run c w=.ok (.map p q) w:=by simp[getObj,Sem.run,H]
   have V:∀K,(setObj e K).run c w=.ok () {w with heap:=w.heap.setIfInBounds e K}:=λK=>by simp[setObj,Sem.run,H]
   have O:e<w.heap.size:=(Array.getElem?_eq_some_iff.1 H).1;unfold Oper.wp;rcases xk d p.toList aa 0 A with⟨D,h2,F⟩|⟨f,al,D,h2,F,L,h5⟩
   ·have J:(execOp a.eval ⟨i,.mapUpdate t b y z,h,o,j,l⟩).run c w=.ok .skip {w with heap:=w.heap.setIfInBounds e (.map (p.push {key:=.int .i64 d,val:=.int .i64 v,born:=q}) (q+1))}:=by
     simp[execOp,Instr.mapUpdate,run_underlying W,X,Y,Z,P,qy x,Instr.findKey,run_underlying x,D,V]
    rw[J];have u:=kP (R {w with heap:=w.heap.setIfInBounds e (.map (p.push {key:=.int .i64 d,val:=.int .i64 v,born:=q}) (q+1))}.heap ?_ E ?_)
    ·exact S g .un undef _ u.2 s (M.da u.1) rfl ⟨rfl,rfl,rfl⟩
    ·refine⟨_,_,by simp[O];exact⟨rfl,rfl⟩,?_⟩;rw[F];simp[A]
    ·intro f I;simp[jb (jQ I)]
   ·have af:(p[f]?).map (·.key)=some (.int .i64 d):=by
     have:=rQ (λB=>(B[f]?).map (·.1)) A;simpa[L]using this
    have ah:(Instr.keyThatStays (.int .i64 d) (.int .i64 d)).run c w=.ok (.int .i64 d) w:=by
     simp[Instr.keyThatStays,Instr.sameBits]
    have J:(execOp a.eval ⟨i,.mapUpdate t b y z,h,o,j,l⟩).run c w=.ok .skip {w with heap:=w.heap.setIfInBounds e (.map (p.modify f λC=>{C with key:=.int .i64 d,val:=.int .i64 v}) q)}:=by
     simp only[execOp,Instr.mapUpdate,run_underlying W,X,Y,Z,P,qy x,Instr.findKey,run_underlying x,D,Sem.run_bind,Result.andThen_ok,Sem.run_pure,bN,af,tx,ah,V]
    rw[J];have u:=kP (R {w with heap:=w.heap.setIfInBounds e (.map (p.modify f λC=>{C with key:=.int .i64 d,val:=.int .i64 v}) q)}.heap ?_ E ?_)
    ·exact S g .un undef _ u.2 s (M.da u.1) rfl ⟨rfl,rfl,rfl⟩
    ·refine⟨_,_,by simp[O];exact⟨rfl,rfl⟩,?_⟩;rw[h5];apply fI;intro B;have C:=rQ (λ(q':List (Value×Value))=>q'[B]?) A;simp only[bW]at C;simp only[bW,iI,US,j8]at C⊢;by_cases Q:f=B
     ·subst Q;have ae:f<aa.length:=(List.getElem?_eq_some_iff.1 L).1;have ad:f<p.size:=by simpa using F
      simp[ae,ad]
     ·simp only[Q,pL];exact C
    ·intro f I;simp[jb (jQ I)]
  ·exact r.elim
 ·exact r.elim
def rj(l:List Ce)(z:O)(a f:Nat)(d:l.length=a*f)(w:World)(h:fQ w.heap z.F z.off l)(e:a<=z.len):
 (Builtin.firstCells f a z.v).run c w=.ok (br l) w:=by
 cases z with
 |nil=>
  have b:a=0:=by simp at e;omega
  have:l=[]:=List.length_eq_zero_iff.1 (by rw[d,b];simp)
  subst this
  simp[Builtin.firstCells,O.v,br]
 |Bj g i j=>
  have b:a=0:=by simp at e;omega
  have:l=[]:=List.length_eq_zero_iff.1 (by rw[d,b];simp)
  subst this
  simp[Builtin.firstCells,O.v,br,b,loadCells,loadCellsFrom]
 |mk b o i g=>
  simp only[Builtin.firstCells,O.v,<-d]
  exact Ns l b o w h
def Mt(a:List Ce)(z:Array Value)(b:z.toList=a.map Ce.v)(n:Nat):Builtin.zeroCells z n=br (lU a n):=by
 have c:z.size=a.length:=by rw[<-WD,b];simp
 rw[<-Ga a z b n,Builtin.zeroCells,c]
def NH(l r:List Ce):br (l++r)=br l++br r:=by simp[br]
def MT(I:sA c T)(D:jr n g a)(M:Bx n g m){aa:Array Operand}(q:wr c T G n g m i h k (.call ⟨.builtin .append,aa,e⟩)):CI c n a m ⟨i,.call ⟨.builtin .append,aa,e⟩,h,o,j,l⟩ k:=by
 intro d hw aN aG Q
 subst hw;simp only[wr]at q;split at q
 ·rename_i b y t aF an aB;split at q
  ·rename_i B sh aH e2 aO aI s z ht aC hx hy;split at q
   ·rename_i f af;cases u:(f.sG||Nat.beq f.bytes 0)
    ·rw[u]at q;simp only[bQ]at u;obtain⟨A,R,av,ai,aj⟩:=q;have e1:aa=#[b,y]:=Array.toList_inj.1 (by simpa using an);have am:e=#[t,aF]:=Array.toList_inj.1 (by simpa using aB);subst e1;subst am;have W:=(jt (I.vM ht)).1;have X:=(jt (I.vM aC)).1;obtain⟨zv,hz,al,aM⟩:=tU I af u.1;obtain⟨ti,hb,aL,ag,_⟩:=Dt I af u.1;have U:=λd=>jv I af u.1 d;have Y:a.eval b=s.v:=D.eq hx rfl;have Z:a.eval y=z.v:=D.eq hy rfl;have H:(Builtin.lenOf z.v).run c d=.ok z.len d:=by cases z<;>simp[Builtin.lenOf,O.v,O.len]
     have ak:(f.sh.map Sh.zero).length=f.sh.length:=E;rw[ak]at R;simp only[ak]at ai aj;have N:∀r:World,r.heap=d.heap->(Builtin.firstCells f.sh.length z.len z.v).run c r=.ok (br A) r:=λr ah=>
      rj A z z.len f.sh.length R r (by rw[ah];exact av) (ad _)
     have aA:=s.Uz;by_cases F:s.len+z.len<=s.cap
     ·obtain⟨S,p⟩:=ai F;cases s with
      |nil=>
       simp only[O.LU,O.RL]at F S p;have K:z.len=0:=V;have:A=[]:=List.length_eq_zero_iff.1 (by rw[R,K];simp);subst this;obtain⟨ac,p⟩:=kP p;refine iU (w:=d) (c:=.c (.s .nil)) (v:=.slice none 0 0) (b:=d) D M rfl (nF.aC d) p ?_ Q;have J:a.eval b=.slice none 0 0:=Y;have C:=N d rfl;simp only[execOp,resolve,Sem.run_bind,Sem.run_pure,Result.andThen_ok,invoke,builtin,Builtin.append_,lM,cg,eI,J,Z];rw[K]at H C;simp[run_underlying W,run_underlying X,U,H,C]
      |Bj L o0 sp=>
       simp only[O.Pl,O.RK]at F S p;have K:z.len=0:=V;have:A=[]:=List.length_eq_zero_iff.1 (by rw[R,K];simp);subst this;obtain⟨ac,p⟩:=kP p;refine iU (w:=d) (c:=.c (.s (.Bj L o0 sp))) (v:=.slice (some ⟨L,o0,some sp⟩) 0 0) (b:=d) D M rfl (nF.aC d) p ?_ Q;have J:a.eval b=.slice (some ⟨L,o0,some sp⟩) 0 0:=Y;have C:=N d rfl;simp only[execOp,resolve,Sem.run_bind,Sem.run_pure,Result.andThen_ok,invoke,builtin,Builtin.append_,lM,cg,eI,J,Z];rw[K]at H C;simp[run_underlying W,run_underlying X,U,H,C,br,storeCells]
      |mk C L K ab=>
       simp only[O.fj,O.LD,O.iT,O.lY]at F S p;obtain⟨ac,p⟩:=kP p;refine iU (w:=d) (c:=.c (.s (.mk C L (K+z.len) ab))) (v:=.slice (some ⟨C,L,none⟩) (K+z.len) ab) (b:=d.setCells C (L+K*f.sh.length) (A.map Ce.v)) D (by rw[jN];exact M.da ac) rfl (pt _ _ _ _) (by rw[jN];exact p) ?_ Q;have ao:=Bz (d:=c) A C (L+K*f.sh.length) d S;have J:a.eval b=.slice (some ⟨C,L,none⟩) K ab:=Y;simp only[execOp,resolve,Sem.run_bind,Sem.run_pure,Result.andThen_ok,invoke,builtin,Builtin.append_,lM,cg,eI,J,Z];simp[run_underlying W,run_underlying X,U,H,F,N d rfl,tF,br,ao]
     ·obtain⟨ao,old,ax,az,p⟩:=aj V;have aJ:=growslice_fits (need:=s.len+z.len) (old:=s.cap) (bytes:=f.bytes) V ao;have S:f.bytes≠0:=λB=>by rw[B]at u;simp at u
      have aK:¬(((s.len+z.len:Nat):Int)>IntKind.i64.max/\f.bytes=0):=λhh=>S hh.2;have ay:∀r:World,r.heap=d.heap->(Builtin.firstCells f.sh.length s.len s.v).run c r=.ok (br old) r:=λr ah=>
       rj old s s.len f.sh.length ax r (by rw[ah];exact az) (ad _)
      let K:Question:=.appendCap (s.len+z.len) s.cap B;let C:=K.cut (d.tape d.drawn K);let L:World:={d with drawn:=d.drawn+1};have ar:s.len+z.len<=C:=Y2 _ _;refine iU (w:=d) (c:=.c (.s (.mk d.heap.size 0 (s.len+z.len) C))) (v:=.slice (some ⟨d.heap.size,0,none⟩) (s.len+z.len) C)
       (b:={L with heap:=d.heap.push (.cells (br (old++A++lU (f.sh.map Sh.zero) (C -(s.len+z.len)))) B)}) D (M.push _) rfl ⟨rfl,rfl,rfl⟩ (kP (p C ar)).2 ?_ Q
      have aE:zv.cells.toList=(f.sh.map Sh.zero).map Ce.v:=by simp[hz]
      have ac:=Mt (f.sh.map Sh.zero) zv.cells aE (C -(s.len+z.len));have ap:K.forced=false:=rfl;have au:¬(Builtin.nextslicecap (s.len+z.len) s.cap*f.bytes>2^48):=by
       have:(2:Nat)^48=281474976710656:=bd;omega
      simp only[execOp,resolve,Sem.run_bind,Sem.run_pure,Result.andThen_ok,invoke,builtin,Builtin.append_,lM,cg,eI,Y,Z];have J:=ay L rfl;have ab:=N L rfl;rw[aA]at J⊢;simp only[j9,qv,fO,Sem.run_bind,run_underlying W,run_underlying X,Result.andThen_ok,U,Sem.run_pure,H,ib,pL,F,ag,hb,false_or];simp only[S,and_false,pL,au,Sem.run_bind,run_choose,ap,ib,Result.andThen_ok,ag,run_askRoom,J,JS,JV,ab,al,ac,newRow,run_newObj,Sem.run_pure];simp[NH];rw[hb,ae V,ae (show¬(Question.appendCap (s.len+z.len) s.cap B).forced=true by simp[Question.forced])];have aw:(Builtin.firstCells f.sh.length s.len (Value.slice s.cG s.len s.cap)).run c d.drew=.ok (br old) d.drew:=J;have aq:(Builtin.firstCells f.sh.length z.len z.v).run c d.drew=.ok (br A) d.drew:=ab;simp only[ag,Result.andThen_ok,aw,aq,al];have aD:Builtin.zeroCells zv.cells ((Question.appendCap (s.len+z.len) s.cap B).cut (d.tape d.drawn (Question.appendCap (s.len+z.len) s.cap B)) -(s.len+z.len))=br (lU (f.sh.map Sh.zero) (C -(s.len+z.len))):=ac;rw[aD];rfl
    ·rw[u]at q;exact q.elim
   ·exact q.elim
  ·exact q.elim
 ·exact q.elim
end
end Go.Vc
end
section
namespace Go.Vc
variable{b:Program}{T:TT}{G:List Nat}
section
variable{n:Nat}{c:Fr}{a:Act}{m:I}{k:Fr->SV->I->Prop}{d:Option Tmp}{e:TypeId}{h:String}{f:Array Edge}{g:Option (Nat×Bool)}
def PL(N:sA b T)(t:jr n c a)(V:Bx n c m){r:Array Operand}{L:Array TypeId}(i:wr b T G n c m d e k (.call ⟨.builtin .copy,r,L⟩)):CI b n a m ⟨d,.call ⟨.builtin .copy,r,L⟩,e,h,f,g⟩ k:=by
 intro j hw ai af X
 subst hw;simp only[wr]at i;split at i
 ·rename_i q S ae aj W ac;split at i
  ·rename_i ah sh ag s z ht hx hy;split at i
   ·rename_i K ab;cases u:K.sG
    ·rw[u]at i;obtain⟨o,C,Y,Z,y⟩:=i;obtain⟨aa,y⟩:=kP y;have U:r=#[q,S]:=Array.toList_inj.1 (by simpa using W);subst U;have F:L[0]? =some ae:=by rw[<-US,ac];rfl
     have H:=(jt (N.vM ht)).1;have D:=λj=>jv N ab u j;have I:a.eval q=s.v:=t.eq hx rfl;have J:a.eval S=z.v:=t.eq hy rfl;have A:(Builtin.lenOf z.v).run b j=.ok z.len j:=by cases z<;>simp[Builtin.lenOf,O.v,O.len]
     have l:(Builtin.firstCells K.sh.length (Nat.min z.len s.len) z.v).run b j=.ok (br o) j:=
      rj o z _ K.sh.length C j Y (Nat.min_le_left _ _)
     refine iU (w:=j) (c:=.c (.i (Nat.min z.len s.len:Nat))) (v:=.int .i64 (Nat.min z.len s.len:Nat)) (b:=j.setCells s.F s.off (o.map Ce.v)) t (by rw[jN];exact V.da aa) rfl (pt _ _ _ _) (by rw[jN];exact y) ?_ X;cases s with
     |nil=>
      have B:Nat.min z.len O.nil.len=0:=E;have:o=[]:=List.length_eq_zero_iff.1 (by rw[C,B];simp);subst this;have p:a.eval q=.slice none 0 0:=I;simp only[O.LU]at l⊢;simp only[execOp,resolve,Sem.run_bind,Sem.run_pure,Result.andThen_ok,invoke,builtin,Builtin.copy_,lM,cg,eI,p,J,F];simp only[j9,qv,fO,Sem.run_bind,run_underlying H,Result.andThen_ok,A,D,l,Sem.run_pure];rfl
     |Bj M Q R=>
      have B:Nat.min z.len (O.Bj M Q R).len=0:=E;have:o=[]:=List.length_eq_zero_iff.1 (by rw[C,B];simp);subst this;have p:a.eval q=.slice (some ⟨M,Q,some R⟩) 0 0:=I;simp only[O.Pl]at l⊢;simp only[execOp,resolve,Sem.run_bind,Sem.run_pure,Result.andThen_ok,invoke,builtin,Builtin.copy_,lM,cg,eI,p,J,F];simp only[j9,qv,fO,Sem.run_bind,run_underlying H,Result.andThen_ok,A,D,l,Sem.run_pure,br];rfl
     |mk B M ad Q=>
      have R:=Bz (d:=b) o B M j Z;have p:a.eval q=.slice (some ⟨B,M,none⟩) ad Q:=I;simp only[O.fj]at l⊢;simp only[execOp,resolve,Sem.run_bind,Sem.run_pure,Result.andThen_ok,invoke,builtin,Builtin.copy_,lM,cg,eI,p,J,F];simp only[j9,qv,fO,Sem.run_bind,run_underlying H,Result.andThen_ok,A,D,l,Sem.run_pure,br,R];rfl
    ·rw[u]at i;exact i.elim
   ·exact i.elim
  ·exact i.elim
 ·exact i.elim
def NJ(o:sA b T)(u:RC b G)(l:jr n c a)(j:Bx n c m)(p:Oper)(i:wr b T G n c m p.dst p.type k p.op):CI b n a m p k:=by
 obtain⟨d,v,e,h,f,g⟩:=p;cases v with
 |alloc t=>exact N6 o l j i
 |box t x=>exact Qx l j i
 |buildSlice t q r=>exact GX o l j i
 |store t x y=>exact N7 o l j i
 |makeSlice t x y=>exact Iv o l j i
 |makeFunc r first q=>exact JY l j i
 |makeMap t w=>exact LG l j i
 |lookup t x y q=>exact MU o l j i
 |mapUpdate t x y z=>exact Iw o l j i
 |call r=>
  obtain⟨s,t,x⟩:=r;cases s with
  |builtin q=>
   cases q with
   |append=>exact MT o l j i
   |copy=>exact PL o l j i
   |_=>exact i.elim
  |value q=>exact PK u l j i
  |invoke w q=>exact i.elim
 |_=>exact i.elim
end
end Go.Vc
end
section
namespace Go.Vc
variable{b:Array Bool}{j:Nat}{L:List (Nat×(World->Prop))}{a:Act}{w:World}
section
variable{P:Program}{c:Array Oper}{Q:Exit->Act->World->Prop}{d:Region.Mode}{e:Nat->Nat->Bool}
def tw(P:Program)(d:Region.Mode)(c:Array Oper)(Q:Exit->Act->World->Prop)(e:Nat->Nat->Bool)(L:List (Nat×(World->Prop))):Nat->Array Bool->Act->World->Prop
 |0,b,a,w=>Region.ready d c b=[]/\Q .normal a w
 |h+1,b,a,w=>
  (Region.ready d c b=[]->Q .normal a w)/\
  ∀i∈Region.ready d c b,wpOp P c Q i (λg f=>(∀x∈L,e i x.1=false->x.2 w->x.2 f)/\tw P d c Q e L h (b.setIfInBounds i true) g f) a w
def JQ{L:List (Nat×(World->Prop))}:∀(f:Nat)(b:Array Bool)(a:Act)(w:World),tw P d c Q e L f b a w->wpAny P d c Q f b a w
 |0,_,_,_,h=>h
 |f+1,_,_,_,h=>⟨h.1,λk j=>wpOp_mono (λg l i=>JQ f _ g l i.2) (h.2 k j)⟩
def A2{L g:List (Nat×(World->Prop))}(j:∀x∈g,x∈L):∀(f:Nat)(b:Array Bool)(a:Act)(w:World),tw P d c Q e L f b a w->tw P d c Q e g f b a w
 |0,_,_,_,h=>h
 |f+1,_,_,_,h=>⟨h.1,λn l=>wpOp_mono (λk o i=>⟨λx m=>i.1 x (j x m),A2 j f _ k o i.2⟩) (h.2 n l)⟩
def Et(e:Nat->Nat->Bool)(b:Array Bool):Prop:=∀i,b.getD i false=true->∀r,e i r=true->b.getD r false=true
def Rx(d:Region.Mode)(c:Array Oper)(e:Nat->Nat->Bool):Prop:=
 ∀(i r:Nat)(o:Oper),c[i]? =some o->e i r=true->∃a∈o.after,Region.binds d a=true/\(a.on=r\/e a.on r=true)
def uS(k:Rx d c e)(l:Et e b)(n:j∈Region.ready d c b){r:Nat}(p:e j r=true):b.getD r false=true:=by
 obtain⟨_,q,o,g⟩:=mem_ready.1 n;obtain⟨f,m,i,h⟩:=k j r q o p;have a:=g f m i;rcases h with rfl|h
 ·exact a
 ·exact l _ a r h
def Et.set(k:Rx d c e)(a:Et e b)(l:j∈Region.ready d c b):Et e (b.setIfInBounds j true):=by
 intro i f r h;by_cases g:j=i
 ·subst g;exact getD_set_true (uS k a l h)
 ·rw[getD_set_ne false g]at f;exact getD_set_true (a i f r h)
def Ep{i:Nat}{l:Oper}{F:Value}{S:World->Prop}(I:Rx d c e)(C:c[i]? =some l)(O:∀(j:Nat)(R:Oper) q p,c[j]? =some R->R.op≠.select q p)
 (V:∀f a w,Q (.panic f) (a.put l.dst F) w->Q (.panic f) a w):
 ∀(r:Nat)(b:Array Bool)(a:Act)(w:World),Et e b->
  (∀j m,c[j]? =some m->j≠i->b.getD j true=false->(∀f∈m.after,Region.binds d f=true->f.on≠i)->l.apart c m=true)->
  i∈Region.ready d c b->YieldsIf P c S l F a->S w->
  tw P d c Q e ((i,S)::L) r (b.setIfInBounds i true) (a.put l.dst F) w->tw P d c Q e L (r+1) b a w:=by
 intro r
 induction r with
 |zero=>
  intro b a w _ _ k y x H
  refine⟨λh=>(by rw[h]at k;cases k),λj n=>?_⟩
  by_cases g:j=i
  ·subst g;exact y.wpOp C x ⟨λz _ _ h=>h,H⟩
  ·have:=ready_mono n g
   rw[H.1]at this
   cases this
 |succ r ih=>
  intro b a w J K k y x H
  refine⟨λh=>(by rw[h]at k;cases k),λj n=>?_⟩
  by_cases g:j=i
  ·subst g;exact y.wpOp C x ⟨λz _ _ h=>h,A2 (λz E=>ai _ E) _ _ _ _ H⟩
  ·have u:=H.2 j (ready_mono n g)
   obtain⟨N,m,D,W⟩:=mem_ready.1 n
   have s:b.getD i false=false:=by
    have G:=(mem_ready.1 k).1;rcases aV i b.size with A|A
    ·simp[A]at G⊢;exact G
    ·simp[Gb A]
   have ad:∀f∈m.after,Region.binds d f=true->f.on≠i:=λf Y B Z=>by
    have u:=W f Y B;rw[Z,s]at u;cases u
   have X:e j i=false:=by
    cases B:e j i
    ·rfl
    ·have:=uS I J n B;rw[s]at this;cases this
   have U:=wpOp_putIf D (K j m D g N ad) (λq p=>O i l q p C) (λq p=>O j m q p D) V y u
   have aa:∀o t,c[o]? =some t->o≠i->(b.setIfInBounds j true).getD o true=false->
    (∀f∈t.after,Region.binds d f=true->f.on≠i)->l.apart c t=true:=λo t hk ab s ac=>by
    refine K o t hk ab ?_ ac
    by_cases M:j=o
    ·subst M;exact N
    ·rw[getD_set_ne true M]at s;exact s
   refine wpOp_mono (λT w' v=>⟨λz E=>v.2.1 z (ai _ E),
    ih (b.setIfInBounds j true) T w' (J.set I n) aa (ready_mono k (jQ g)) v.1 (v.2.1 (i,S) ba X x) ?_⟩) U
   rw[Array.setIfInBounds_comm _ _ g]
   exact v.2.2
def OM{f:Nat}(k:Region.ready d c b≠[])
 (j:∀i∈Region.ready d c b,wpOp P c Q i (λh g=>(∀x∈L,e i x.1=false->x.2 w->x.2 g)/\tw P d c Q e L f (b.setIfInBounds i true) h g) a w):
 tw P d c Q e L (f+1) b a w:=⟨λg=>absurd g k,j⟩
def NI(f:Region.ready d c b=[])(h:Q .normal a w):
 ∀g,tw P d c Q e L g b a w
 |0=>⟨f,h⟩
 |_+1=>⟨λ_=>h,by rw[f];simp⟩
end
end Go.Vc
end
