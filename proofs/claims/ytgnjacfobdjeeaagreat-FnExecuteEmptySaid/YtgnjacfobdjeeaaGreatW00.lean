/- Part of a proof, joined by a program. -/
import Derived.KernelRfl
import Derived.Laws.Append
import Derived.Laws.Cells
import Derived.Laws.Entries
import Derived.Laws.IdiomCopy
import Derived.Orders
import Derived.OrdersHeld
import Derived.Still
import Derived.Tactics
set_option linter.unusedVariables false
set_option linter.unusedSimpArgs false
set_option linter.defProp false
set_option linter.constructorNameAsVariable false
set_option maxHeartbeats 8000000
set_option maxRecDepth 100000
namespace Go.Vc
def ad:=@Nat.le_refl
def ae:=@if_neg
def aj:=@List.mem_cons_of_mem
def ak:=@beq_eq_false_iff_ne
def ao:=@if_pos
def au:=@decide_eq_true_eq
def aw:=@List.getElem?_append_left
def aF:=@beq_iff_eq
def aG:=@List.getElem?_append_right
def aP:=@Nat.lt_of_lt_of_le
def aU:=@List.mem_cons
def aY:=@List.length_cons
def aZ:=@List.length_append
def ba:=@List.mem_cons_self
def be:=@Nat.lt_or_ge
def bt:=@Nat.eq_of_beq_eq_true
def bz:=@Bool.or_eq_false_iff
def bH:=@decide_eq_false_iff_not
def bL:=@List.mem_append_left
def bM:=@Bool.and_eq_true
def bT:=@Bool.or_eq_true
def cg:=@Nat.le_trans
def cy:=@List.getElem?_set_ne
def cC:=@Nat.zero_add
def cE:=@Int.le_refl
def cG:=@List.map_cons
def cQ:=@List.getElem?_map
def cU:=@List.cons_append
def cY:=@List.getElem?_eq_none
def db:=@Nat.mul_le_mul_right
def df:=@Nat.add_assoc
def dg:=@List.take_append_drop
def di:=@List.mem_or_eq_of_mem_set
def dC:=@List.getElem?_take_of_lt
def dE:=@List.getElem?_set_self
def dI:=@List.append_nil
def dK:=@Classical.byContradiction
def dL:=@Classical.em
def dR:=@List.length_map
def dS:=@List.nil_append
def dX:=@List.dropLast_concat_getLast
def dY:=@List.length_nil
def dZ:=@List.length_set
def eJ:=@Nat.zero_le
def eS:=@Classical.choose_spec
def eT:=@List.getLast?_eq_some_getLast
def eZ:=@List.take_length
def fm:=@List.append_assoc
def fq:=@List.map_nil
def fC:=@List.mem_append_right
def fD:=@List.map_append
def fI:=@List.getD_eq_getElem?_getD
def fR:=@List.mem_of_mem_take
def fY:=@List.length_take
def gA:=@Nat.add_mul
def gR:=@List.getElem?_cons_succ
def gW:=@List.set_cons_zero
def gX:=@Nat.mul_one
def ij:=@bne_eq_false_iff_eq
def iv:=@Bool.not_eq_true'
def iy:=@List.ext_getElem?
def iO:=@Nat.min_eq_left
def iT:=@Bool.false_eq_true
def iU:=@List.set_cons_succ
def iZ:=@List.mem_of_getElem?
def js:=@List.flatten_cons
def jt:=@List.getElem?_set
def ju:=@Nat.add_zero
def jv:=@Option.map_eq_some_iff
def jw:=@cond_true
def jC:=@Nat.not_lt_zero
def jJ:=@Array.getElem?_setIfInBounds_ne
def jS:=@List.not_mem_nil
def jT:=@Nat.eq_zero_or_pos
def kd:=@Ne.symm
def kU:=@gt_iff_lt
def lz:=@Array.getElem?_modify
def lA:=@List.getElem?_toArray
def lB:=@Nat.le_of_ble_eq_true
def lV:=@Option.some.inj
def mh:=@List.findIdx_lt_length_of_exists
def mj:=@List.flatMap_cons
def mC:=@cond_false
def mH:=@Array.getElem?_push
def mI:=@List.length_reverse
def mV:=@List.map_toArray
def mW:=@List.prefix_refl
def nj:=@List.take_append_of_le_length
def nv:=@List.getElem?_take
def nA:=@List.mem_singleton
def nB:=@List.take_of_length_le
def nC:=@Nat.lt_of_le_of_lt
def nR:=@Option.map_some
def oH:=@List.sizeOf_lt_of_mem
def oT:=@Nat.le_succ_of_le
def pQ:=@Int.tdiv_eq_ediv_of_nonneg
def pU:=@Nat.succ_mul
def pW:=@List.drop_eq_getElem_cons
def qB:=@List.flatten_append
def qC:=@List.length_take_le
def qD:=@List.replicate_succ
def ru:=@List.set_eq_of_length_le
def ry:=@congrArg
def rB:=@if_false
def rT:=@List.getElem?_drop
def sa:=@List.getElem?_cons_zero
def tF:=@Int.toNat_natCast
def tG:=@List.map_set
def tH:=@not_or
def vg:=@Nat.le_of_not_lt
def vh:=@Option.getD_some
def vj:=@bne_iff_ne
def wC:=@List.mem_of_mem_drop
def yX:=@Array.getD_eq_getD_getElem?
def yY:=@Nat.le_of_eq
def Bb:=@Array.ext_getElem?
def Bc:=@or_false
def C0:=@List.size_toArray
def Da:=@Option.some.injEq
def Db:=@of_decide_eq_true
def Gt:=@Nat.add_sub_cancel_left
def Gu:=@ge_iff_le
def Ie:=@Array.getElem?_eq_none
def If:=@Int.lt_or_le
def Ig:=@List.drop_of_length_le
def IH:=@Bool.eq_iff_iff
def Lm:=@Bool.not_false
def Ln:=@List.set_append_left
def Lp:=@List.take_take
def Lq:=@Nat.mul_le_mul
def Mj:=@List.replicate_zero
def Mk:=@List.take_succ_cons
def Ml:=@Nat.testBit_two_pow
def MV:=@Bool.not_true
def MW:=@Bool.true_and
def MX:=@List.all_cons
def MY:=@List.map_take
def MZ:=@Prod.mk.injEq
def Oi:=@List.set_eq_take_append_cons_drop
def PA:=@List.any_nil
def PB:=@List.reverse_cons
def PC:=@Nat.le_of_lt
def PD:=@Nat.sub_self
def PE:=@Nat.zero_mul
def PF:=@if_true
def RH:=@List.range_succ
def RK:=@Iff.rfl
def RL:=@dif_pos
def Tq:=@List.mapM_cons
def Ts:=@Nat.eq_of_mul_eq_mul_right
def Tt:=@Nat.testBit_or
def TA:=@Array.mapM_eq_mapM_toList
def TB:=@List.exists_mem_of_ne_nil
def UB:=@Array.getElem?_replicate
def UC:=@Bool.false_or
def UD:=@Bool.or_false
def UE:=@List.eq_of_mem_replicate
def Wt:=@List.map_map
def Wu:=@List.mem_map
def Wv:=@List.set_set
def Ww:=@Nat.sub_zero
def WM:=@Array.getElem?_toList
def WN:=@List.set_append_right
def WO:=@Nat.ble_eq_true_of_le
def YB:=@Int.add_mul
def YT:=@Array.length_toList
def YU:=@Array.toList_zipIdx
def Z0:=@Array.foldl_toList
def Z1:=@Bool.not_eq_false'
theorem dit{p A B:Prop}{i:Decidable p}(f:p->A)(g:¬p->B):(decide p=true->A)/\(decide p=false->B):=⟨λh=>f (Db h),λh=>g (of_decide_eq_false h)⟩
theorem V{p:Prop}(h:p:=by omega):p:=h
theorem D{p:Prop}(h:p:=by simp):p:=h
theorem bh{p:Prop}(h:p:=by decide):p:=h
theorem bJ{p:Prop}(h:p:=by simp;omega):p:=h
end Go.Vc
section
namespace Go.Vc
variable{n:Nat}{a:Act}
abbrev I:=Array Obj
def af(m:I)(b o:Nat):Option Value:=
 match m[b]? with
 |some (.cells c _ _)=>c[o]?
 |_=>none
def vw(m:I)(b o:Nat):Bool:=
 match m[b]? with
 |some (.cells _ _ (c,a))=>c<=o&&o<a
 |_=>false
def qY(m:I)(b o:Nat)(v:Value):I:=
 m.modify b λ
  | .cells c e f=>.cells (c.setIfInBounds o v) e f
  |x=>x
def zl(w:World)(b o:Nat):w.cell? ⟨b,o,none⟩=af w.heap b o:=by
 simp only[World.cell?,af];cases h:w.heap[b]? with
 |none=>rfl
 |some x=>cases x<;>simp
def P5(w:World)(b o:Nat):w.frozen? ⟨b,o,none⟩=vw w.heap b o:=by
 simp only[World.frozen?,vw];cases h:w.heap[b]? with
 |none=>rfl
 |some x=>cases x<;>simp
def NK(w:World)(b o:Nat)(v:Value):(w.setCell ⟨b,o,none⟩ v).heap=qY w.heap b o v:=by
 simp only[World.setCell,qY];congr 1
structure od(w w':World):Prop where
 os:w'.os=w.os
 tape:w'.tape=w.tape
 output:w'.output=w.output
def od.aB(w:World):od w w:=⟨rfl,rfl,rfl⟩
def od.trans{a b c:World}(h:od a b)(k:od b c):od a c:=⟨k.os.trans h.os,k.tape.trans h.tape,k.output.trans h.output⟩
def aO(P:Program)(f:FuncId)(b:List Value)(m:I)(K:Value->I->Prop):Prop:=
 ∀w:World,w.heap=m->Calls P f b.toArray w λe a=>∃v,e=.returned v/\od w a/\K v a.heap
def aO.mono{P:Program}{f:FuncId}{b:List Value}{m:I}{K a:Value->I->Prop}(h:aO P f b m K)
 (e:∀v c,K v c->a v c):aO P f b m a:=
 λw i=>(h w i).mono λ_ _⟨v,d,g,c⟩=>⟨v,d,g,e _ _ c⟩
inductive O where
 |nil
 |mk (b o len cap:Nat)
 |zn (b o sp:Nat)
def O.v:O->Value
 | .nil=>.slice none 0 0
 | .mk b o l c=>.slice (some ⟨b,o,none⟩) l c
 | .zn b o a=>.slice (some ⟨b,o,some a⟩) 0 0
def O.len:O->Nat
 | .nil=>0
 | .mk _ _ l _=>l
 | .zn _ _ _=>0
def O.cap:O->Nat
 | .nil=>0
 | .mk _ _ _ c=>c
 | .zn _ _ _=>0
def O.F:O->Nat
 | .nil=>0
 | .mk b _ _ _=>b
 | .zn b _ _=>b
def O.off:O->Nat
 | .nil=>0
 | .mk _ o _ _=>o
 | .zn _ o _=>o
@[simp] theorem O.QX (b o sp:Nat):(O.zn b o sp).len=0:=rfl
@[simp] theorem O.TR (b o sp:Nat):(O.zn b o sp).cap=0:=rfl
@[simp] theorem O.NC:O.nil.len=0:=rfl
@[simp] theorem O.TS:O.nil.cap=0:=rfl
@[simp] theorem O.YH:O.nil.F=0:=rfl
@[simp] theorem O.YM:O.nil.off=0:=rfl
@[simp] theorem O.iE (b o l c:Nat):(O.mk b o l c).len=l:=rfl
@[simp] theorem O.Nm (b o l c:Nat):(O.mk b o l c).cap=c:=rfl
@[simp] theorem O.jm (b o l c:Nat):(O.mk b o l c).F=b:=rfl
@[simp] theorem O.ta (b o l c:Nat):(O.mk b o l c).off=o:=rfl
def O.Fm:O->Bool
 | .nil=>true
 | .mk _ _ _ _=>false
 | .zn _ _ _=>false
@[simp] theorem O.WH:O.nil.Fm=true:=rfl
@[simp] theorem O.WG (b o sp:Nat):(O.zn b o sp).Fm=false:=rfl
@[simp] theorem O.Xz (b o l c:Nat):(O.mk b o l c).Fm=false:=rfl
def O.bY:O->Option Addr
 | .nil=>none
 | .mk b o _ _=>some ⟨b,o,none⟩
 | .zn b o a=>some ⟨b,o,some a⟩
def O.Ws(s:O):s.v=.slice s.bY s.len s.cap:=by cases s<;>rfl
inductive Ce where
 |i (n:Int)
 |u (k:IntKind) (n:Int)
 |t (x:Bool)
 |s (x:O)
 |p (b o:Nat)
 |pn
 |fn (f:Fn) (first captured:Array Value)
 |fv (q:Fn×Array Value×Array Value)
 |nf
 |str (x:ByteArray)
 |mp (b:Nat)
 |mn
 |bp (k b o:Nat)
def Ce.v:Ce->Value
 | .i n=>.int .i64 n
 | .u k n=>.int k n
 | .t x=>.bool x
 | .s x=>x.v
 | .p b o=>.pointer (some ⟨b,o,none⟩)
 | .pn=>.pointer none
 | .fn f a c=>.func f a c
 | .fv q=>.func q.1 q.2.1 q.2.2
 | .nf=>.nilFunc
 | .str x=>.string x
 | .mp b=>.map (some b)
 | .mn=>.map none
 | .bp _ b o=>.pointer (some ⟨b,o,none⟩)
inductive AV where
 |c (x:Ce)
 |agg (l:List Ce)
def AV.v:AV->Value
 | .c x=>x.v
 | .agg l=>.agg (l.map Ce.v).toArray
inductive SV where
 |c (x:Ce)
 |tt
 |ff
 |agg (l:List Ce)
 |Wr (l:List AV)
 |un
 |fP
 |box (b e:Nat) (l:List Ce)
 |zj (b e:Nat) (l:List Ce)
def SV.v:SV->Value
 | .c x=>x.v
 | .tt=>.bool true
 | .ff=>.bool false
 | .agg l=>.agg (l.map Ce.v).toArray
 | .Wr l=>.tuple (l.map AV.v).toArray
 | .un=>undef
 | .fP=>undef
 | .box _ _ _=>undef
 | .zj _ _ _=>undef
def SV.Is:SV->Value->Prop
 | .fP,_=>True
 | .box _ _ _,_=>True
 | .zj _ _ _,_=>True
 |s,v=>v=s.v
def AV.sv:AV->SV
 | .c x=>.c x
 | .agg l=>.agg l
def AV.ZX(x:AV):x.sv.v=x.v:=by cases x<;>rfl
abbrev Fr:=List (Nat×SV)
def gS:Fr->Nat->SV
 |[],_=>.fP
 |(u,x)::r,t=>bif Nat.beq u t then x else gS r t
def SV.nb:SV->SV
 | .box _ _ _=>.fP
 | .zj _ _ _=>.fP
 |x=>x
def tK(a:Fr)(d:Option Nat)(x:SV):Fr:=
 match d with
 |some d=>(d,x.nb)::a
 |none=>a
def SV.SR{x:SV}{v:Value}(h:x.Is v):x.nb.Is v:=by
 cases x<;>first|exact h|trivial
def Ce.kK(x:Ce):x.v.cells=#[x.v]:=by
 cases x with
 |s y=>cases y<;>rfl
 |_=>rfl
def kA:Value->Option Ce
 | .int .i64 n=>some (.i n)
 | .int k n=>some (.u k n)
 | .bool x=>some (.t x)
 | .slice none 0 0=>some (.s .nil)
 | .pointer none=>some .pn
 | .nilFunc=>some .nf
 | .string x=>some (.str x)
 |_=>none
def My{x:Value}{c:Ce}(h:kA x=some c):c.v=x:=by
 unfold kA at h;split at h<;>simp at h<;>subst h<;>rfl
def pw:List Value->Option (List Ce)
 |[]=>some []
 |v::b=>match kA v,pw b with
  |some c,some a=>some (c::a)
  |_,_=>none
def J0:∀{b:List Value}{a:List Ce},pw b=some a->a.map Ce.v=b
 |[],_,h=>by simp[pw]at h;subst h;rfl
 |v::b,a,h=>by
  simp only[pw]at h;split at h
  ·rename_i e f c d;simp at h;subst h;simp[My c,J0 d]
  ·simp at h
def ET:Value->SV
 | .bool true=>.tt
 | .bool false=>.ff
 | .agg a=>match pw a.toList with
  |some l=>.agg l
  |none=>.fP
 | .tuple a=>bif a.toList.isEmpty then .un else .fP
 |v=>match kA v with
  |some c=>.c c
  |none=>.fP
def PT(x:Value):(ET x).Is x:=by
 unfold ET;split
 ·rfl
 ·rfl
 ·rename_i a;split
  ·rename_i l b;show Value.agg a=.agg (l.map Ce.v).toArray;rw[J0 b]
  ·trivial
 ·rename_i a;cases h:a.toList.isEmpty
  ·trivial
  ·show Value.tuple a=undef;have:a=#[]:=by simpa using h
   rw[this];rfl
 ·split
  ·rename_i c a;exact(My a).symm
  ·trivial
def ev(a:Fr):Operand->SV
 | .tmp t=>(gS a t).nb
 | .const v=>ET v
 | .global g=>.c (.p g 0)
 | .func f=>.c (.fn (.func f) #[] #[])
structure jU(n:Nat)(fr:Fr)(a:Act):Prop where
 size:a.tmps.size=n
 defers:a.defers=[]
 E:∀t,(gS fr t).Is (a.tmps.getD t undef)
def jU.ev{b:Fr}(h:jU n b a)(x:Operand):(ev b x).Is (a.eval x):=by
 cases x with
 |tmp t=>exact SV.SR (h.E t)
 |const v=>exact PT v
 |global g=>rfl
 |func f=>rfl
def jU.put{n:Nat}{b:Fr}{a:Act}(h:jU n b a){d:Option Nat}{x:SV}{v:Value}(i:x.Is v)(f:∀t,d=some t->t<n):
 jU n (tK b d x) (a.put d v):=by
 cases d with
 |none=>exact h
 |some d=>
  refine⟨by simpa[Act.put]using h.size,h.defers,λt=>?_⟩
  have g:d<a.tmps.size:=by rw[h.size];exact f d rfl
  simp only[tK,gS,Act.put]
  by_cases e:d=t
  ·subst e
   simp only[Nat.beq_refl,jw]
   simpa[g]using SV.SR i
  ·have:Nat.beq d t=false:=by
    cases c:Nat.beq d t
    ·rfl
    ·exact absurd (bt c) e
   simp only[this,mC]
   have:=h.E t
   simpa[jJ e]using this
def jU.cons{b:Fr}(h:jU n b a)(t:Nat){x:SV}(c:∀v,x.Is v):jU n ((t,x)::b) a:=by
 refine⟨h.size,h.defers,λu=>?_⟩;simp only[gS];cases d:Nat.beq t u
 ·exact h.E u
 ·exact c _
def jU.fP{b:Fr}(h:jU n b a)(t:Nat):jU n ((t,.fP)::b) a:=by
 refine⟨h.size,h.defers,λu=>?_⟩;simp only[gS];cases c:Nat.beq t u
 ·exact h.E u
 ·trivial
end Go.Vc
end
section
namespace Go.Vc
variable{P:Program}{t b e:Nat}
inductive Sh where
 |I
 |U (k:IntKind)
 |T
 |S
 |P
 |F
 |M
 deriving DecidableEq
abbrev Sh.ty:Sh->Type
 | .I=>Int
 | .U _=>Int
 | .T=>Bool
 | .S=>O
 | .P=>Nat×Nat
 | .F=>Fn×Array Value×Array Value
 | .M=>Nat
abbrev Sh.mk:(s:Sh)->s.ty->Ce
 | .I,n=>.i n
 | .U k,n=>.u k n
 | .T,x=>.t x
 | .S,x=>.s x
 | .P,q=>.p q.1 q.2
 | .F,v=>.fv v
 | .M,b=>.mp b
def Sh.zero:Sh->Ce
 | .I=>.i 0
 | .U k=>.u k 0
 | .T=>.t false
 | .S=>.s .nil
 | .P=>.pn
 | .F=>.nf
 | .M=>.mn
inductive TK where
 |cell
 |slice (elem:Nat)
 |struct (offs:List (Nat×Nat))
 |tuple (ts:List Nat)
 |map (key elem:Nat)
structure TI where
 GZ:TK
 sh:List Sh
 bytes:Nat
abbrev TT:=List (Nat×TI)
def fA:TT->Nat->Option TI
 |[],_=>none
 |(u,x)::r,t=>bif Nat.beq u t then some x else fA r t
def NM:Sh->Value->Bool
 | .I,.int .i64 0=>true
 | .U k,.int a 0=>decide (k=a)
 | .T,.bool false=>true
 | .S,.slice none 0 0=>true
 | .P,.pointer none=>true
 | .F,.nilFunc=>true
 | .M,.map none=>true
 |_,_=>false
def NN{s:Sh}{v:Value}(h:NM s v=true):v=s.zero.v:=by
 unfold NM at h;split at h<;>first|rfl|(simp at h;subst h;rfl)|simp at h
def ED:List Value->List Sh->Bool
 |[],[]=>true
 |v::b,s::a=>NM s v&&ED b a
 |_,_=>false
def Ba:∀{b:List Value}{a:List Sh},ED b a=true->b=a.map λs=>s.zero.v
 |[],[],_=>rfl
 |v::b,s::a,h=>by
  simp only[ED,bM]at h;simp[NN h.1,Ba h.2]
 |[],_::_,h=>by simp[ED]at h
 |_::_,[],h=>by simp[ED]at h
def ME:List Field->List (Nat×Nat)->Bool
 |[],[]=>true
 |f::a,(o,t)::r=>Nat.beq f.offset o&&Nat.beq f.type t&&ME a r
 |_,_=>false
def Ku:∀{a:List Field}{b:List (Nat×Nat)},ME a b=true->a.map (λf=>(f.offset,f.type))=b
 |[],[],_=>rfl
 |f::a,(o,t)::r,h=>by
  simp only[ME,bM]at h;simp[bt h.1.1,bt h.1.2,Ku h.2]
 |[],_::_,h=>by simp[ME]at h
 |_::_,[],h=>by simp[ME]at h
def zL:TypeDesc->List Sh->Bool
 | .bool,[.T]=>true
 | .int .i64,[.I]=>true
 | .int k,[.U k']=>decide (k=k')
 | .pointer _,[.P]=>true
 | .func ..,[.F]=>true
 |_,_=>false
def Bh(i:TypeInfo)(a:TI)(b:Bool):Bool:=
 Nat.beq i.size a.sh.length&&Nat.beq i.bytes a.bytes&&
 (match i.zero with
  |some (.agg c)=>b&&ED c.toList a.sh
  |some z=>!b&&ED [z] a.sh
  |none=>false)
def XQ(t:Nat):Nat:=t+1000000
def TY(P:Program)(t:Nat):Bool:=
 match P.underlying t with
 |some (.struct a)=>a.toList.all (λf=>f.name != "_")&&!P.stoodInHeld t&&!P.eqGuardType P.depth t
 |_=>false
def xY(P:Program)(t:Nat)(a:TI):Bool:=
 match a.GZ with
 | .tuple _=>if t<1000000 then true else TY P (t -1000000)
 | .slice e=>match P.info? t,P.underlying t with
  |some i,some (.slice b)=>Nat.beq e b&&Bh i a false
  |_,_=>false
 | .struct d=>match P.info? t,P.underlying t with
  |some i,some (.struct c)=>ME c.toList d&&Bh i a true
  |_,_=>false
 | .map k e=>match P.info? t,P.underlying t with
  |some i,some (.map c b)=>Nat.beq k c&&Nat.beq e b&&Bh i a false
  |_,_=>false
 | .cell=>match P.info? t,P.underlying t with
  |some i,some d=>zL d a.sh&&Bh i a false
  |_,_=>false
def ua(P:Program)(T:TT):Prop:=T.all (λx=>xY P x.1 x.2)=true
def Pr:∀{T:TT}{t:Nat}{b:TI},fA T t=some b->(t,b)∈T
 |[],_,_,h=>by simp[fA]at h
 |(u,x)::r,t,b,h=>by
  simp only[fA]at h;cases a:Nat.beq u t
  ·rw[a]at h;exact aj _ (Pr h)
  ·rw[a]at h;have:=bt a;simp at h;subst h;subst this;exact ba
def ua.xY{T:TT}(h:ua P T){a:TI}(b:fA T t=some a):xY P t a=true:=
 List.all_eq_true.1 h _ (Pr b)
def ua.cmp{T:TT}(h:ua P T){l:List Nat}{c:List Sh}(a:fA T (XQ t)=some ⟨.tuple l,c,b⟩):TY P t=true:=by
 have:=h.xY a;simp only[Go.Vc.xY]at this;rw[ae (by unfold XQ;omega),show XQ t -1000000=t by unfold XQ;omega]at this;exact this
structure JO(P:Program)(t:Nat)(ti:TI)(agg:Bool):Prop where
 aaa:∃i,P.info? t=some i/\i.size=ti.sh.length/\i.bytes=ti.bytes/\
  ∃z,i.zero=some z/\z.cells.toList=(ti.sh.map λs=>s.zero.v)/\(agg=false->∀cs,z≠.agg cs)
def sD{g:TI}{i:TypeInfo}{c:Bool}(j:P.info? t=some i)(h:Bh i g c=true):JO P t g c:=by
 simp only[Bh,bM]at h;refine⟨i,j,bt h.1.1,bt h.1.2,?_⟩;have a:=h.2;split at a
 ·rename_i d b;simp only[bM]at a;exact⟨_,b,by simpa[Value.cells]using Ba a.2,λf=>by rw[f]at a;simp at a⟩
 ·rename_i z f b;simp only[bM]at a;refine⟨_,b,?_,λ_ d e=>f d (by rw[e])⟩;have:=Ba a.2;rw[<-this];cases z<;>first|rfl|exact(f _ rfl).elim
 ·simp at a
def jY{a:List Sh}(h:xY P t ⟨.slice e,a,b⟩=true):P.underlying t=some (.slice e)/\JO P t ⟨.slice e,a,b⟩ false:=by
 simp only[xY]at h;split at h
 ·rename_i i f c d;simp only[bM]at h;have:=bt h.1;subst this;exact⟨d,sD c h.2⟩
 ·simp at h
def Bu{k:Nat}{a:List Sh}(h:xY P t ⟨.map k e,a,b⟩=true):P.underlying t=some (.map k e)/\JO P t ⟨.map k e,a,b⟩ false:=by
 simp only[xY]at h;split at h
 ·rename_i j l i f g;simp only[bM]at h;have c:=bt h.1.1;have d:=bt h.1.2;subst c;subst d;exact⟨g,sD f h.2⟩
 ·simp at h
def mT{c:List (Nat×Nat)}{d:List Sh}(h:xY P t ⟨.struct c,d,b⟩=true):
 (∃a,P.underlying t=some (.struct a)/\a.toList.map (λf=>(f.offset,f.type))=c)/\JO P t ⟨.struct c,d,b⟩ true:=by
 simp only[xY]at h
 split at h
 ·rename_i i a e f
  simp only[bM]at h
  exact⟨⟨a,f,Ku h.1⟩,sD e h.2⟩
 ·simp at h
def nQ{a:List Sh}(h:xY P t ⟨.cell,a,b⟩=true):
 (∃d,P.underlying t=some d/\zL d a=true)/\JO P t ⟨.cell,a,b⟩ false:=by
 simp only[xY]at h
 split at h
 ·rename_i i d c e
  simp only[bM]at h
  exact⟨⟨d,e,h.1⟩,sD c h.2⟩
 ·simp at h
def TI.agg(a:TI):Bool:=match a.GZ with| .struct _=>true|_=>false
def TI.ui(a:TI):Bool:=match a.GZ with| .tuple _=>true|_=>false
def j9{T:TT}(f:ua P T){d:TI}(g:fA T t=some d)(j:d.ui=false)(w:World):
 (sizeOf t).run P w=.ok d.sh.length w:=by
 have h:=f.xY g
 obtain⟨GZ,k,b⟩:=d
 have:∃i,P.info? t=some i/\i.size=k.length:=by
  cases GZ with
  |cell=>obtain⟨_,⟨i,a,c,_⟩⟩:=nQ h;exact⟨i,a,c⟩
  |slice e=>obtain⟨_,⟨i,a,c,_⟩⟩:=jY h;exact⟨i,a,c⟩
  |map l e=>obtain⟨_,⟨i,a,c,_⟩⟩:=Bu h;exact⟨i,a,c⟩
  |struct o=>obtain⟨_,⟨i,a,c,_⟩⟩:=mT h;exact⟨i,a,c⟩
  |tuple l=>simp[TI.ui]at j
 obtain⟨i,a,c⟩:=this
 simp[sizeOf,typeInfo,a,c]
def Fy{T:TT}(g:ua P T){f:TI}(j:fA T t=some f)(k:f.ui=false):
 ∃i,i.bytes=f.bytes/\i.size=f.sh.length/\(∀w,(typeInfo t).run P w=.ok i w)/\P.info? t=some i:=by
 have h:=g.xY j
 obtain⟨GZ,l,b⟩:=f
 have:∃i,P.info? t=some i/\i.size=l.length/\i.bytes=b:=by
  cases GZ with
  |cell=>obtain⟨_,⟨i,a,c,d,_⟩⟩:=nQ h;exact⟨i,a,c,d⟩
  |slice e=>obtain⟨_,⟨i,a,c,d,_⟩⟩:=jY h;exact⟨i,a,c,d⟩
  |map m e=>obtain⟨_,⟨i,a,c,d,_⟩⟩:=Bu h;exact⟨i,a,c,d⟩
  |struct o=>obtain⟨_,⟨i,a,c,d,_⟩⟩:=mT h;exact⟨i,a,c,d⟩
  |tuple m=>simp[TI.ui]at k
 obtain⟨i,a,c,d⟩:=this
 exact⟨i,d,c,λw=>by simp[typeInfo,a],a⟩
def vP{T:TT}(m:ua P T){k:TI}(n:fA T t=some k)(o:k.ui=false):
 ∃z,z.cells.toList=k.sh.map (λs=>s.zero.v)/\(∀w,(zeroValue t).run P w=.ok z w)/\(k.agg=false->∀a,z≠.agg a):=by
 have h:=m.xY n
 obtain⟨GZ,l,b⟩:=k
 have:∃i,P.info? t=some i/\∃z,i.zero=some z/\z.cells.toList=(l.map λs=>s.zero.v)/\((TI.mk GZ l b).agg=false->∀a,z≠.agg a):=by
  cases GZ with
  |cell=>obtain⟨_,⟨i,a,g,j,z,c,d,f⟩⟩:=nQ h;exact⟨i,a,z,c,d,λ_=>f rfl⟩
  |slice e=>obtain⟨_,⟨i,a,g,j,z,c,d,f⟩⟩:=jY h;exact⟨i,a,z,c,d,λ_=>f rfl⟩
  |map p e=>obtain⟨_,⟨i,a,g,j,z,c,d,f⟩⟩:=Bu h;exact⟨i,a,z,c,d,λ_=>f rfl⟩
  |struct p=>obtain⟨_,⟨i,a,g,j,z,c,d,f⟩⟩:=mT h;exact⟨i,a,z,c,d,λh=>by simp[TI.agg]at h⟩
  |tuple d=>simp[TI.ui]at o
 obtain⟨i,a,z,g,j,c⟩:=this
 exact⟨z,j,λw=>by simp[zeroValue,typeInfo,a,g],c⟩
def Hl{T:TT}(f:ua P T){c:TI}(g:fA T t=some c)(i:c.ui=false)(w:World):
 (isAgg t).run P w=.ok c.agg w:=by
 have h:=f.xY g
 obtain⟨GZ,l,b⟩:=c
 cases GZ with
 |cell=>
  obtain⟨⟨j,a,d⟩,_⟩:=nQ h
  unfold zL at d
  split at d<;>first|(simp at d;done)|simp[isAgg,run_underlying a,TI.agg]
 |slice e=>obtain⟨a,_⟩:=jY h;simp[isAgg,run_underlying a,TI.agg]
 |map k e=>obtain⟨a,_⟩:=Bu h;simp[isAgg,run_underlying a,TI.agg]
 |struct o=>obtain⟨⟨d,a,_⟩,_⟩:=mT h;simp[isAgg,run_underlying a,TI.agg]
 |tuple a=>simp[TI.ui]at i
end Go.Vc
end
section
namespace Go.Vc
def kZ:SV->Option Bool
 | .tt=>some true
 | .ff=>some false
 | .c (.t x)=>some x
 |_=>none
def SV.jx:SV->Bool
 | .fP=>false
 | .box _ _ _=>false
 | .zj _ _ _=>false
 |_=>true
def cW(n:Int):Int:=IntKind.i64.wrap n
def Hb{α:Type}:List α->Nat->Option α
 |[],_=>none
 |x::_,0=>some x
 |_::r,n+1=>Hb r n
def pF{α:Type}:∀(l:List α)(n:Nat),Hb l n=l[n]?
 |[],_=>by simp[Hb]
 |x::_,0=>by simp[Hb]
 |_::r,n+1=>by simp[Hb,pF r n]
def Ve(m:I)(b o:Nat):Nat->List Sh->(List Ce->Prop)->Prop
 |_,[],k=>k []
 |j,s::r,k=>∃x:s.ty,af m b (o+j)=some (s.mk x).v/\Ve m b o (j+1) r λl=>k (s.mk x::l)
def Uz(a b:Int):Int:=cW ((a%18446744073709551616).toNat^^^(b%18446744073709551616).toNat:Nat)
def rG(c:BinOp)(a b:Int)(k:SV->Prop):Prop:=
 match c with
 | .add=>k (.c (.i (cW (a+b))))
 | .sub=>k (.c (.i (cW (a -b))))
 | .mul=>k (.c (.i (cW (a*b))))
 | .quo=>b≠0/\k (.c (.i (cW (a.tdiv b))))
 | .rem=>b≠0/\k (.c (.i (a.tmod b)))
 | .xor=>k (.c (.i (Uz a b)))
 | .eql=>k (.c (.t (a==b)))
 | .neq=>k (.c (.t (a !=b)))
 | .lss=>k (.c (.t (decide (a<b))))
 | .leq=>k (.c (.t (decide (a<=b))))
 | .gtr=>k (.c (.t (decide (a>b))))
 | .geq=>k (.c (.t (decide (a>=b))))
 |_=>False
def TP(c:BinOp)(a b:Bool)(k:SV->Prop):Prop:=
 match c with
 | .eql=>k (.c (.t (a==b)))
 | .neq=>k (.c (.t (!(a==b))))
 |_=>False
def Ui(a:BinOp)(s:O)(k:SV->Prop):Prop:=
 match a with
 | .eql=>k (.c (.t s.Fm))
 | .neq=>k (.c (.t (!s.Fm)))
 |_=>False
def YS(a:UnOp)(x:SV)(k:SV->Prop):Prop:=
 match a,x with
 | .not,.tt=>k .ff
 | .not,.ff=>k .tt
 | .not,.c (.t b)=>k (.c (.t (!b)))
 | .neg,.c (.i n)=>k (.c (.i (cW (0 -n))))
 |_,_=>False
def O.cut(x:O)(a d e:Nat):O:=
 match x with
 | .nil=>.nil
 | .mk b o _ c=>.mk b (if c=a then o else o+a*e) (d -a) (c -a)
 | .zn b o c=>.zn b o c
def SV.cells:SV->Option (List Ce)
 | .c x=>some [x]
 | .tt=>some [.t true]
 | .ff=>some [.t false]
 | .agg l=>some l
 |_=>none
def lX(l:List Ce)(b:Nat)(a:List Ce):List Ce:=
 match b,l with
 |0,l=>match a,l with
  |[],l=>l
  |n::a,_::l=>n::lX l 0 a
  |_::_,[]=>[]
 |b+1,x::l=>x::lX l b a
 |_+1,[]=>[]
termination_by structural l
def EP(T:TT)(c:Fr)(e:List (Nat×Nat)):List Ce->List (Nat×Operand)->(List Ce->Prop)->Prop
 |a,[],k=>k a
 |a,(i,x)::r,k=>
  match Hb e i,(ev c x).cells with
  |some (d,t),some b=>
   match fA T t with
   |some f=>bif !f.ui&&Nat.beq b.length f.sh.length&&Nat.ble (d+b.length) a.length then EP T c e (lX a d b) r k else False
   |none=>False
  |_,_=>False
def uR(T:TT):List (Nat×Nat)->Bool
 |[]=>true
 |(_,t)::r=>(match fA T t with|some a=>!a.ui|none=>false)&&uR T r
def LQ(a:Fr)(x:Option Operand)(d:Int)(k:Int->Prop):Prop:=
 match x with
 |none=>k d
 |some x=>match ev a x with
  | .c (.i n)=>k n
  |_=>False
def Wh(T:TT)(t:Nat)(s:O)(n:Int)(k:SV->Prop):Prop:=
 match fA T t with
 |some ⟨.slice e,_,_⟩=>match fA T e with
  |some a=>bif a.ui then False else 0<=n/\n<(s.len:Int)/\k (.c (.p s.F (s.off+n.toNat*a.sh.length)))
  |none=>False
 |_=>False
def O0(T:TT)(m:I)(t b o:Nat)(k:SV->Prop):Prop:=
 match fA T t with
 |some ⟨.struct _,a,_⟩=>Ve m b o 0 a λl=>k (.agg l)
 |some ⟨.cell,[s],_⟩=>∃x:s.ty,af m b o=some (s.mk x).v/\k (.c (s.mk x))
 |some ⟨.slice _,[_],_⟩=>∃x:O,af m b o=some x.v/\k (.c (.s x))
 |_=>False
def Qs(T:TT)(a:Fr)(t:Nat)(s:O)(d c:Option Operand)(k:SV->Prop):Prop:=
 match fA T t with
 |some ⟨.slice e,_,_⟩=>match fA T e with
  |some b=>bif b.ui then False else
   LQ a d 0 λl=>LQ a c (s.len:Int) λh=>0<=l/\l<=h/\h<=(s.cap:Int)/\k (.c (.s (s.cut l.toNat h.toNat b.sh.length)))
  |none=>False
 |_=>False
def Nt(T:TT)(t f:Nat)(l:List Ce)(k:SV->Prop):Prop:=
 match fA T t with
 |some ⟨.struct c,_,_⟩=>match Hb c f with
  |some (b,u)=>match fA T u with
   |some a=>bif a.ui then False else bif a.agg then k (.agg ((l.drop b).take a.sh.length))else(match Hb l b with|some x=>k (.c x)|none=>False)
   |none=>False
  |none=>False
 |_=>False
def EW(T:TT)(t f o:Nat)(mk:Nat->SV)(k:SV->Prop):Prop:=
 match fA T t with
 |some ⟨.struct c,_,_⟩=>match Hb c f with
  |some (b,u)=>match fA T u with
   |some a=>bif a.ui||Nat.beq a.sh.length 0 then False else k (mk (o+b))
   |none=>False
  |none=>False
 |_=>False
def LA(a b:Nat)(k:Prop):Prop:=a=b/\k
def aD(b:Nat)(k:Prop):LA b b k=k:=by simp[LA]
def Gj:List Ce->Nat->Nat->Option (List Ce)
 |_,_,0=>some []
 |l,o,n+1=>match Hb l o,Gj l (o+1) n with
  |some c,some r=>some (c::r)
  |_,_=>none
def Mw(T:TT)(t:Nat)(a:List Ce)(o:Nat)(k:SV->Prop):Prop:=
 match fA T t with
 |some ⟨.struct _,b,_⟩=>match Gj a o b.length with
  |some l=>k (.agg l)
  |none=>False
 |some ⟨.cell,[_],_⟩=>match Hb a o with
  |some c=>k (.c c)
  |none=>False
 |some ⟨.slice _,[_],_⟩=>match Hb a o with
  |some c=>k (.c c)
  |none=>False
 |some ⟨.map _ _,[_],_⟩=>match Hb a o with
  |some c=>k (.c c)
  |none=>False
 |_=>False
def Se(T:TT)(c:Fr)(d:Builtin)(e:List Nat)(f:List Operand)(k:SV->Prop):Prop:=
 match d,e,f with
 | .len,[t],[x]=>match fA T t,ev c x with
  |some ⟨.slice _,_,_⟩,.c (.s s)=>k (.c (.i (s.len:Int)))
  |_,_=>False
 | .max,_,[x,y]=>match ev c x,ev c y with
  | .c (.i a),.c (.i b)=>k (.c (.i (if b>a then b else a)))
  |_,_=>False
 | .min,_,[x,y]=>match ev c x,ev c y with
  | .c (.i a),.c (.i b)=>k (.c (.i (if b<a then b else a)))
  |_,_=>False
 |_,_,_=>False
def WE(T:TT):Nat->List (Nat×Nat)->List Ce->List Ce->Option Bool
 |_,[],[],[]=>some true
 |i,(o,u)::c,.i a::l,.i b::r=>bif Nat.beq o i then match fA T u,WE T (i+1) c l r with
  |some ⟨.cell,[.I],_⟩,some z=>some (a==b&&z)
  |_,_=>none else none
 |_,_,_,_=>none
def eqA(T:TT)(t:Nat)(l r:List Ce)(k:SV->Prop):Prop:=
 match fA T (XQ t),fA T t with
 |some ⟨.tuple _,_,_⟩,some ⟨.struct a,_,_⟩=>match WE T 0 a l r with
  |some z=>k (.c (.t z))
  |none=>False
 |_,_=>False
def rd(T:TT)(a:Fr)(m:I)(k:SV->Prop):Op->Prop
 | .move x| .assign x=>k (ev a x)
 | .pick d c b=>match ev a d with
  | .tt=>k (ev a c)
  | .ff=>k (ev a b)
  | .c (.t x)=>match kZ (ev a c),kZ (ev a b)with
   |some y,some z=>k (.c (.t (bif x then y else z)))
   |_,_=>False
  |_=>False
 | .nilCheck x=>match ev a x with
  | .c (.p b o)=>k (.c (.p b o))
  | .c (.bp q b o)=>k (.c (.bp q b o))
  | .c (.fn (.func f) c d)=>k (.c (.fn (.func f) c d))
  | .c (.fv q)=>∃g,q.1=.func g/\k (.c (.fv q))
  |_=>False
 | .binOp d t x y _=>match ev a x,ev a y with
  | .c (.i c),.c (.i b)=>rG d c b k
  | .c (.s s),.c (.s .nil)=>match fA T t with
   |some ⟨.slice _,_,_⟩=>Ui d s k
   |_=>False
  | .agg l,.agg r=>match d with
   | .eql=>eqA T t l r k
   |_=>False
  |e,g=>match fA T t,kZ e,kZ g with
   |some ⟨.cell,[.T],_⟩,some c,some b=>TP d c b k
   |_,_,_=>False
 | .unOp d _ x=>YS d (ev a x) k
 | .convert s t x=>match fA T s,fA T t,ev a x with
  |some ⟨.cell,[_],_⟩,some ⟨.cell,[.I],_⟩,.c (.u _ n)=>k (.c (.i (cW n)))
  |_,_,_=>False
 | .fieldAddr t x f=>match ev a x with
  | .c (.p b o)=>EW T t f o (λo=>.c (.p b o)) k
  | .c (.bp q b o)=>EW T t f o (λo=>.c (.bp q b o)) k
  |_=>False
 | .field t x f=>match ev a x with
  | .agg l=>Nt T t f l k
  |_=>False
 | .indexAddr t x i=>match ev a x,ev a i with
  | .c (.s s),.c (.i n)=>Wh T t s n k
  |_,_=>False
 | .load t x=>match ev a x with
  | .c (.p b o)=>O0 T m t b o k
  | .c (.bp q b o)=>match gS a q with
   | .box c _ d=>LA c b (Mw T t d o k)
   | .zj c _ d=>LA c b (Mw T t d o k)
   |_=>O0 T m t b o k
  |_=>False
 | .extract x i=>match ev a x with
  | .Wr l=>match Hb l i with
   |some y=>k y.sv
   |none=>False
  |_=>False
 | .slice t x c b none=>match ev a x with
  | .c (.s s)=>Qs T a t s c b k
  |_=>False
 | .build t c=>match fA T t with
  |some ⟨.struct b,d,_⟩=>bif uR T b then EP T a b (d.map Sh.zero) c.toList λl=>k (.agg l)else False
  |_=>False
 | .call ⟨.builtin c,b,d⟩=>Se T a c d.toList b.toList k
 |_=>False
def lC(a:Fr)(q b e:Nat)(l:List Ce):Prop:=gS a q=.box b e l\/gS a q=.zj b e l
structure Bx(n:Nat)(fr:Fr)(m:I):Prop where
 F:∀q b e l,lC fr q b e l->m[b]? =some (.cells (l.map Ce.v).toArray e)
 Nn:∀q q' b e l b' e' l',q≠q'->lC fr q b e l->lC fr q' b' e' l'->b≠b'
 key:∀q b e l,lC fr q b e l->n<=q
def RJ(T:TT)(c:Fr):Op->List (Nat×Nat)
 | .load t x=>match ev c x,fA T t with
  | .c (.p b o),some a=>(List.range a.sh.length).map λj=>(b,o+j)
  | .c (.bp _ b o),some a=>(List.range a.sh.length).map λj=>(b,o+j)
  |_,_=>[]
 |_=>[]
end Go.Vc
end
section
namespace Go.Vc
variable{s:SV}{b:Bool}
def SV.Is.eq{v:Value}(h:s.Is v)(a:s.jx=true):v=s.v:=by
 cases s<;>first|exact h|simp[SV.jx]at a
def nH(s:SV):s.Is s.v:=by cases s<;>first|rfl|trivial
def jU.eq{n:Nat}{b:Fr}{a:Act}(h:jU n b a){x:Operand}{s:SV}(c:Vc.ev b x=s)(d:s.jx=true):a.eval x=s.v:=by
 have:=h.ev x;rw[c]at this;exact this.eq d
def wG(h:kZ s=some b):s.jx=true/\s.v=.bool b:=by
 unfold kZ at h;split at h<;>simp_all [SV.jx,SV.v,Ce.v]
def jU.YJ{n:Nat}{c:Fr}{a:Act}(h:jU n c a){x:Operand}(d:kZ (Vc.ev c x)=some b):a.eval x=.bool b:=by
 rw[h.eq rfl (wG d).1,(wG d).2]
def vt(b o n:Nat):(⟨b,o,none⟩:Addr).add n=⟨b,o+n,none⟩:=by
 unfold Addr.add;split
 ·rename_i h;subst h;rfl
 ·rfl
def Bm:∀(l:List Ce)(a:Nat)(b:List Ce)(i:Nat),a+b.length<=l.length->
 (lX l a b)[i]? =if a<=i/\i<a+b.length then b[i -a]? else l[i]?
 |[],0,[],i,_=>by simp[lX]
 |[],0,_::_,_,h=>by simp at h
 |[],_+1,_,_,h=>by simp at h
 |x::l,0,[],i,_=>by simp[lX]
 |x::l,0,n::b,i,h=>by
  simp only[lX];cases i with
  |zero=>simp
  |succ i=>
   have:=Bm l 0 b i (by simp at h;omega);simp only[gR,this];simp
 |x::l,a+1,b,i,h=>by
  simp only[lX];cases i with
  |zero=>simp
  |succ i=>
   have:=Bm l a b i (by simp at h;omega);simp only[gR,this];have e:(i+1 -(a+1))=i -a:=V;simp only[e];congr 1;simp;omega
def MA(c:List Value):∀(k a:Nat)(b:Array Value)(i:Nat),
 ((c.zipIdx k).foldl (λ(d:Array Value)(p:Value×Nat)=>d.setIfInBounds (a+p.2) p.1) b)[i]? =
  if a+k<=i/\i<a+k+c.length/\i<b.size then c[i -(a+k)]? else b[i]? :=by
 induction c with
 |nil=>intro k a b i;simp;intro h;omega
 |cons v c g=>
  intro k a b i
  simp only[List.zipIdx_cons,List.foldl_cons,g,Array.size_setIfInBounds,aY]
  by_cases d:i=a+k
  ·subst d
   by_cases e:a+k<b.size
   ·simp[e];try omega
   ·simp[e];try omega
  ·have:¬(a+k=i):=λf=>d f.symm
   rw[jJ this]
   by_cases e:a+k<=i/\i<a+k+(c.length+1)/\i<b.size
   ·rw[ao e,ao V]
    have:i -(a+k)=(i -(a+(k+1)))+1:=V
    rw[this,gR]
   ·rw[ae e,ae V]
def pv{l:List Ce}(h:s.cells=some l):s.jx=true/\s.v.cells=(l.map Ce.v).toArray:=by
 cases s with
 |c x=>simp[SV.cells]at h;subst h;exact⟨rfl,by simp[SV.v,Ce.kK]⟩
 |tt=>simp[SV.cells]at h;subst h;exact⟨rfl,rfl⟩
 |ff=>simp[SV.cells]at h;subst h;exact⟨rfl,rfl⟩
 |agg a=>simp[SV.cells]at h;subst h;exact⟨rfl,rfl⟩
 |Wr _=>simp[SV.cells]at h
 |un=>simp[SV.cells]at h
 |fP=>simp[SV.cells]at h
 |box _ _ _=>simp[SV.cells]at h
 |zj _ _ _=>simp[SV.cells]at h
end Go.Vc
end
section
namespace Go.Vc
variable{x y:Operand}{c:TypeId}{h b f o:Nat}{g:List Ce}
variable{e:Program}{T:TT}
def oK(e:Program)(T:TT)(b:Fr)(m:I)(a:Act)(o:Oper)(k:SV->Prop):Prop:=
 ∃x v,k x/\x.Is v/\∀w:World,(∀q∈RJ T b o.op,af w.heap q.1 q.2=af m q.1 q.2)->(execOp a.eval o).run e w=.ok (.value v) w
section
variable{n:Nat}{i:Fr}{a:Act}{j:I}{k:SV->Prop}{q:Option Tmp}{v:TypeId}{u:String}{p:Array Edge}{r:Option (Nat×Bool)}
def SF(b:jU n i a)(h:k (ev i x)):oK e T i j a ⟨q,.move x,v,u,p,r⟩ k:=
 ⟨_,_,h,b.ev x,λw _=>by simp[execOp]⟩
def Rq(b:jU n i a)(h:k (ev i x)):oK e T i j a ⟨q,.assign x,v,u,p,r⟩ k:=
 ⟨_,_,h,b.ev x,λw _=>by simp[execOp]⟩
def P9(c:jU n i a){f:Operand}(h:rd T i j k (.pick f x y)):oK e T i j a ⟨q,.pick f x y,v,u,p,r⟩ k:=by
 simp only[rd]at h;split at h
 ·rename_i d;exact⟨_,_,h,c.ev x,λw _=>by simp[execOp,c.eq d rfl,SV.v,asBool]⟩
 ·rename_i d;exact⟨_,_,h,c.ev y,λw _=>by simp[execOp,c.eq d rfl,SV.v,asBool]⟩
 ·rename_i b d;split at h
  ·rename_i m o g l;refine⟨_,_,h,nH _,λw _=>?_⟩;simp[execOp,c.eq d rfl,SV.v,Ce.v,asBool,c.YJ g,c.YJ l];try (cases b<;>rfl)
  ·exact h.elim
 ·exact h.elim
def Kc(d:jU n i a)(h:rd T i j k (.nilCheck x)):oK e T i j a ⟨q,.nilCheck x,v,u,p,r⟩ k:=by
 simp only[rd]at h;split at h
 ·rename_i b o c;exact⟨_,_,h,nH _,λw _=>by simp[execOp,d.eq c rfl,SV.v,Ce.v]⟩
 ·rename_i m b o c;exact⟨_,_,h,nH _,λw _=>by simp[execOp,d.eq c rfl,SV.v,Ce.v]⟩
 ·rename_i f g l c;exact⟨_,_,h,nH _,λw _=>by simp[execOp,d.eq c rfl,SV.v,Ce.v]⟩
 ·rename_i m c;obtain⟨s,g,l⟩:=h;exact⟨_,_,l,nH _,λw _=>by simp[execOp,d.eq c rfl,SV.v,Ce.v,g]⟩
 ·exact h.elim
def TQ{a:BinOp}{x y:Int}(h:rG a x y k):∃s v,k s/\s.Is v/\∀w:World,(binOp a c (.int .i64 x) (.int .i64 y)).run e w=.ok v w:=by
 cases a<;>simp only[rG]at h
 case quo=>exact⟨_,_,h.2,nH _,λw=>by simp[binOp,Op.intDiv,h.1,SV.v,Ce.v,cW]⟩
 case rem=>exact⟨_,_,h.2,nH _,λw=>by simp[binOp,Op.intDiv,h.1,SV.v,Ce.v]⟩
 case xor=>exact⟨_,_,h,nH _,λw=>by simp[binOp,Op.intBits,SV.v,Ce.v,cW,Uz,IntKind.bits];rfl⟩
 all_goals exact⟨_,_,h,nH _,λw=>by simp[binOp,Op.intArith,Op.intCmp,SV.v,Ce.v,cW]⟩
def OJ(a:BinOp)(c:TypeId)(d f:Operand)(b:IntKind)(x:Int)(y:Value)(w:World):(eqGuard a c d f (.int b x) y).run e w=.ok () w:=by
 cases a<;>simp[eqGuard]
def Nr(a:BinOp)(c:TypeId)(b d:Operand)(x:Bool)(y:Value)(w:World):(eqGuard a c b d (.bool x) y).run e w=.ok () w:=by
 cases a<;>simp[eqGuard]
def PY(a:e.underlying c=some .bool)(x y:Bool)(w:World):(Op.equal c (.bool x) (.bool y)).run e w=.ok (x==y) w:=by
 have:Op.equal c (.bool x) (.bool y)=Op.equalIn (9999+1) c (.bool x) (.bool y):=rfl;rw[this];generalize 9999=h;simp[Op.equalIn,run_underlying a]
def IL{a:TypeId}(b:e.underlying c=some (.slice a))(s:O)(w:World):(Op.equal c s.v (.slice none 0 0)).run e w=.ok s.Fm w:=by
 have:Op.equal c s.v (.slice none 0 0)=Op.equalIn (9999+1) c s.v (.slice none 0 0):=rfl;rw[this];generalize 9999=h;cases s<;>simp[Op.equalIn,run_underlying b,O.v]
def OK(a:e.underlying c=some (.int .i64))(x y:Int)(w:World):(Op.equalIn (h+1) c (.int .i64 x) (.int .i64 y)).run e w=.ok (x==y) w:=by
 simp[Op.equalIn,run_underlying a]
def O8(d:ua e T){u:Nat}(f:fA T u=some ⟨.cell,[.I],b⟩){a:Array Value}{c:Nat}{v:Value}(h:a[c]? =some v)(w:World):(part u a c).run e w=.ok v w:=by
 simp[part,Hl d f rfl,TI.agg,h]
def Sz(n:ua e T){X Y:Array Value}(A:World):∀(j:List Field)(i:Nat)(l:List (Nat×Nat))(g r:List Ce)(z:Bool),j.map (λf=>(f.offset,f.type))=l->(∀f∈j,f.name≠ "_")->
 (∀k d,g[k]? =some d->X[i+k]? =some d.v)->(∀k d,r[k]? =some d->Y[i+k]? =some d.v)->WE T i l g r=some z->
 (forIn (m:=Sem) j ((none,()):Option Bool×PUnit) λf _=>do
  if f.name≠ "_" then
   if !(<-Op.equalIn (h+1) f.type (<-part f.type X f.offset) (<-part f.type Y f.offset))then pure (.done (some false,()))else pure (.yield (none,()))
  else pure (.yield (none,()))).run e A=.ok (if z=true then(none,())else(some false,())) A:=by
 intro j
 induction j with
 |nil=>
  intro i l g r z u v p q c
  subst u
  cases g<;>cases r<;>simp[WE]at c
  subst c
  simp
 |cons f j K=>
  intro i l g r z u v p q c
  subst u
  simp only[cG]at c
  unfold WE at c
  split at c
  ·simp at*
  ·rename_i i _ _ _ _ o N l a g b r C
   obtain⟨⟨rfl,rfl⟩,rfl⟩:=by simpa using C
   cases s:Nat.beq f.offset i
   ·rw[s]at c;simp at c
   ·rw[s]at c;simp only[jw]at c
    have x:=bt s
    split at c
    ·rename_i M L w J
     simp only[Da]at c
     obtain⟨⟨B,D,y⟩,_⟩:=nQ (n.xY w)
     have F:B=.int .i64:=by unfold zL at y;split at y<;>simp_all
     subst F
     have H:X[f.offset]? =some (.int .i64 a):=by have:=p 0 (.i a) rfl;rw[x];exact this
     have I:Y[f.offset]? =some (.int .i64 b):=by have:=q 0 (.i b) rfl;rw[x];exact this
     have G:=K (i+1) _ g r L rfl (λt E=>v t (aj _ E)) (λk d t=>by have:=p (k+1) d (by simpa using t);rw[<-this];congr 1;omega) (λk d t=>by have:=q (k+1) d (by simpa using t);rw[<-this];congr 1;omega) J
     rw[List.forIn_cons,Sem.run_bind,ao (v f ba)]
     simp only[Sem.run_bind,O8 n w H,O8 n w I,Result.andThen_ok,OK D]
     cases t:(a==b)
     ·rw[t]at c;subst c;simp
     ·rw[t]at c;simp only[MW]at c;subst c
      simp only[MV,iT,rB,Sem.run_pure,Result.andThen_ok]
      exact G
    ·simp at c
  ·simp at c
def Ns(j:ua e T){a:Array Field}(p:e.underlying c=some (.struct a))(o:e.stoodInHeld c=false)(n:∀f∈a.toList,f.name≠ "_"){r:List Ce}{z:Bool}
 (l:WE T 0 (a.toList.map λf=>(f.offset,f.type)) g r=some z)(w:World):(Op.equal c (.agg (g.map Ce.v).toArray) (.agg (r.map Ce.v).toArray)).run e w=.ok z w:=by
 have:Op.equal c (.agg (g.map Ce.v).toArray) (.agg (r.map Ce.v).toArray)=Op.equalIn (9998+1+1) c (.agg (g.map Ce.v).toArray) (.agg (r.map Ce.v).toArray):=rfl
 rw[this]
 generalize 9998=h
 rw[Op.equalIn]
 simp only[Sem.run_bind,run_underlying p,Result.andThen_ok]
 have m:=Sz j (h:=h) (X:=(g.map Ce.v).toArray) (Y:=(r.map Ce.v).toArray) w a.toList 0 _ g r z rfl n (λk i b=>by simp[b]) (λk i b=>by simp[b]) l
 have b:(program:Sem Program).run e w=.ok e w:=rfl
 rw[b,Result.andThen_ok,ae (by simp[o]),Sem.run_bind,<-Array.forIn_toList,m]
 cases z<;>rfl
def Rh(h:TY e c=true):∃a,e.underlying c=some (.struct a)/\(∀f∈a.toList,f.name≠ "_")/\e.stoodInHeld c=false/\e.eqGuardType e.depth c=false:=by
 unfold TY at h;split at h
 ·rename_i a b;simp only[bM,List.all_eq_true,vj,iv]at h;exact⟨a,b,h.1.1,h.1.2,h.2⟩
 ·cases h
def OI(h:e.eqGuardType e.depth c=false)(f g:Operand)(a b:Array Value)(w:World):(eqGuard .eql c f g (.agg a) (.agg b)).run e w=.ok () w:=by
 have d:(program:Sem Program).run e w=.ok e w:=rfl;simp only[eqGuard,Sem.run_bind];simp[d,h]
def Lz(a:BinOp)(c:TypeId)(b d:Operand)(s:O)(y:Value)(w:World):(eqGuard a c b d s.v y).run e w=.ok () w:=by
 cases s<;>cases a<;>simp[eqGuard,O.v]
def OR(m:ua e T)(d:jU n i a){z:BinOp}{E:TypeId}(b:rd T i j k (.binOp z c x y E)):oK e T i j a ⟨q,.binOp z c x y E,v,u,p,r⟩ k:=by
 simp only[rd]at b;split at b
 ·rename_i M N f l;obtain⟨s,F,A,w,C⟩:=TQ (e:=e) (c:=c) b;refine⟨s,F,A,w,λB _=>?_⟩;simp only[execOp,d.eq f rfl,d.eq l rfl,SV.v,Ce.v,Sem.run_bind];simp[OJ,C]
 ·rename_i s f l;split at b
  ·rename_i J K I A;have w:=(jY (m.xY A)).1;have G:a.eval x=s.v:=d.eq f rfl;have H:a.eval y=.slice none 0 0:=d.eq l rfl;cases z<;>simp only[Ui]at b
   all_goals
    first
    |exact b.elim
    |exact⟨_,_,b,nH _,λB _=>by
     have C:∀o:BinOp,o=.eql\/o=.neq->binOp o c s.v (.slice none 0 0)=(if o=.eql then(do pure (.bool (<-Op.equal c s.v (.slice none 0 0))))else(do pure (.bool (!(<-Op.equal c s.v (.slice none 0 0)))))):=by
      intro o F;rcases F with rfl|rfl<;>cases s<;>rfl
     simp only[execOp,G,H,Sem.run_bind,Lz,Result.andThen_ok];rw[C _ D];simp[IL w,SV.v,Ce.v]⟩
  ·exact b.elim
 ·rename_i g O f l;split at b
  ·unfold eqA at b;split at b
   ·rename_i H A;split at b
    ·rename_i S C;obtain⟨Q,w,K,L,I⟩:=Rh (m.cmp H);obtain⟨⟨R,s,J⟩,_⟩:=mT (m.xY A);rw[w]at s;obtain rfl:=(TypeDesc.struct.inj (lV s));rw[<-J]at C;refine⟨_,_,b,nH _,λB _=>?_⟩;have F:a.eval x=.agg (g.map Ce.v).toArray:=d.eq f rfl;have G:a.eval y=.agg (O.map Ce.v).toArray:=d.eq l rfl;simp only[execOp,F,G,Sem.run_bind,OI I,Result.andThen_ok,binOp,Ns m w L K C];rfl
    ·exact b.elim
   ·exact b.elim
  ·exact b.elim
 ·split at b
  ·rename_i M N A f l;obtain⟨⟨h,s,C⟩,_⟩:=nQ (m.xY A);have w:h=.bool:=by
    cases h<;>simp_all [zL]
   subst w;cases z<;>simp only[TP]at b
   all_goals
    first
    |exact b.elim
    |exact⟨_,_,b,nH _,λB _=>by
     simp only[execOp,d.YJ f,d.YJ l,Sem.run_bind,Nr,Result.andThen,binOp,PY s];rfl⟩
  ·exact b.elim
def LG(d:ua e T)(l:jU n i a){s:TypeId}(b:rd T i j k (.convert s c x)):oK e T i j a ⟨q,.convert s c x,v,u,p,r⟩ k:=by
 simp only[rd]at b;split at b
 ·rename_i E A B C D w y z;obtain⟨⟨h,m,_⟩,_⟩:=nQ (d.xY w);obtain⟨⟨g,o,f⟩,_⟩:=nQ (d.xY y);have t:g=.int .i64:=by unfold zL at f;split at f<;>simp_all
  subst t;exact⟨_,_,b,nH _,λF _=>by
   simp only[execOp,l.eq z rfl,SV.v,Ce.v,Sem.run_bind];simp[convert,run_underlying m,run_underlying o,Conv.intToInt,cW]⟩
 ·exact b.elim
def Qa(b:jU n i a){f:UnOp}(h:rd T i j k (.unOp f c x)):oK e T i j a ⟨q,.unOp f c x,v,u,p,r⟩ k:=by
 simp only[rd]at h;generalize d:ev i x=sx at h;unfold YS at h;split at h
 ·exact⟨_,_,h,nH _,λw _=>by simp[execOp,b.eq d rfl,SV.v,Op.unary]⟩
 ·exact⟨_,_,h,nH _,λw _=>by simp[execOp,b.eq d rfl,SV.v,Op.unary]⟩
 ·exact⟨_,_,h,nH _,λw _=>by simp[execOp,b.eq d rfl,SV.v,Ce.v,Op.unary]⟩
 ·exact⟨_,_,h,nH _,λw _=>by simp[execOp,b.eq d rfl,SV.v,Ce.v,Op.unary,Op.intArith,cW]⟩
 ·exact h.elim
def CJ(l:ua e T)(L:jU n i a){mk:Nat->SV}(E:∀o,(mk o).v=.pointer (some ⟨b,o,none⟩))(J:a.eval x=.pointer (some ⟨b,o,none⟩))(h:EW T c f o mk k):
 oK e T i j a ⟨q,.fieldAddr c x f,v,u,p,r⟩ k:=by
 unfold EW at h
 split at h
 ·rename_i N O K H
  split at h
  ·rename_i M P s
   split at h
   ·rename_i g I
    cases d:(g.ui||Nat.beq g.sh.length 0)
    ·rw[d]at h
     simp only[bz]at d
     obtain⟨⟨z,C,D⟩,_⟩:=mT (l.xY H)
     rw[pF,<-D,cQ]at s
     obtain⟨y,A,m⟩:=Option.map_eq_some_iff.1 s
     simp only[MZ]at m
     obtain⟨rfl,rfl⟩:=m
     have G:=λw=>j9 l I d.1 w
     have F:g.sh.length≠0:=λt=>by rw[t]at d;simp at d
     refine⟨_,_,h,nH _,λw _=>?_⟩
     have B:z[f]? =some y:=by simpa using A
     rw[E]
     simp[execOp,Instr.fieldAt,J,run_underlying C,B,Instr.sureAddr,fieldPlace,G,F,vt]
    ·rw[d]at h;exact h.elim
   ·exact h.elim
  ·exact h.elim
 ·exact h.elim
def IM(l:ua e T)(d:jU n i a)(h:rd T i j k (.fieldAddr c x f)):oK e T i j a ⟨q,.fieldAddr c x f,v,u,p,r⟩ k:=by
 simp only[rd]at h;split at h
 ·rename_i b o g;exact CJ l d (λo=>rfl) (d.eq g rfl) h
 ·rename_i m b o g;exact CJ l d (λo=>rfl) (d.eq g rfl) h
 ·exact h.elim
def OT(l:ua e T)(m:jU n i a)(h:rd T i j k (.field c x f)):oK e T i j a ⟨q,.field c x f,v,u,p,r⟩ k:=by
 simp only[rd]at h;split at h
 ·rename_i g C;unfold Nt at h;split at h
  ·rename_i N O L K;split at h
   ·rename_i M P A;split at h
    ·rename_i E B;cases b:E.ui
     ·rw[b]at h;obtain⟨⟨G,z,I⟩,_⟩:=mT (l.xY K);rw[pF,<-I,cQ]at A;obtain⟨F,H,s⟩:=Option.map_eq_some_iff.1 A;simp only[MZ]at s;obtain⟨rfl,rfl⟩:=s;have J:=λw=>j9 l B b w;have o:=λw=>Hl l B b w;have t:G[f]? =some F:=by simpa using H
      cases d:E.agg
      ·simp only[d,mC]at h;split at h
       ·rename_i y D;refine⟨_,_,h,nH _,λw _=>?_⟩;rw[pF]at D;simp[execOp,Instr.field,m.eq C rfl,SV.v,run_underlying z,t,asAgg,part,o,d,D]
       ·exact h.elim
      ·simp only[d,mC,jw]at h;refine⟨_,_,h,nH _,λw _=>?_⟩;simp[execOp,Instr.field,m.eq C rfl,SV.v,run_underlying z,t,asAgg,part,o,d,J,List.map_drop,MY]
     ·rw[b]at h;exact h.elim
    ·exact h.elim
   ·exact h.elim
  ·exact h.elim
 ·exact h.elim
def IN(l:ua e T)(g:jU n i a)(h:rd T i j k (.indexAddr c x y)):oK e T i j a ⟨q,.indexAddr c x y,v,u,p,r⟩ k:=by
 simp only[rd]at h;split at h
 ·rename_i E J C D;unfold Wh at h;split at h
  ·rename_i I L G A;split at h
   ·rename_i F t;cases f:F.ui
    ·rw[f]at h;obtain⟨m,d,s⟩:=h;have B:=(jY (l.xY A)).1;have z:=λw=>j9 l t f w;cases E with
     |nil=>simp[O.len]at d;omega
     |zn _ _ _=>simp[O.len]at d;omega
     |mk b o K H=>
      refine⟨_,_,s,nH _,λw _=>?_⟩;simp only[O.len]at d;simp[execOp,Instr.indexAt,g.eq C rfl,g.eq D rfl,SV.v,Ce.v,O.v,asIntOf,run_underlying B,m,d,z,vt,O.F,O.off]
    ·rw[f]at h;exact h.elim
   ·exact h.elim
  ·exact h.elim
 ·exact h.elim
def OZ:∀(d:List Sh)(b o a:Nat)(k:List Ce->Prop),Ve j b o a d k->∃g,k g/\g.length=d.length/\∀i,i<d.length->af j b (o+a+i)=(g[i]?).map Ce.v
 |[],_,_,_,_,h=>⟨[],h,rfl,λi c=>by simp at c⟩
 |s::r,b,o,a,k,h=>by
  obtain⟨x,n,h⟩:=h;obtain⟨g,l,m,f⟩:=OZ r b o (a+1) _ h;refine⟨s.mk x::g,l,by simp[m],λi c=>?_⟩;cases i with
  |zero=>simpa using n
  |succ i=>
   have:=f i (by simpa using c);have e:o+(a+1)+i=o+a+(i+1):=V;rw[e]at this;simpa using this
def mM(B:ua e T)(S:jU n i a)(I:a.eval x=.pointer (some ⟨b,o,none⟩)){f:TI}(H:fA T c=some f)(G:f.ui=false)
 (K:∀d,d<f.sh.length->(b,o+d)∈RJ T i (.load c x))(E:g.length=f.sh.length)(L:∀z,z<f.sh.length->af j b (o+z)=(g[z]?).map Ce.v)
 {s:SV}(U:s.jx=true)(O:(f.agg=true/\s.v=.agg (g.map Ce.v).toArray)\/(f.agg=false/\∃m,g=[m]/\s.v=m.v))(N:k s):
 oK e T i j a ⟨q,.load c x,v,u,p,r⟩ k:=by
 refine⟨s,s.v,N,nH _,λl R=>?_⟩
 have Q:=j9 B H G l
 have C:=Hl B H G l
 have D:∀d,d<f.sh.length->af l.heap b (o+d)=(g[d]?).map Ce.v:=λd h=>by rw[R (b,o+d) (K d h),L d h]
 rcases O with⟨t,y⟩|⟨t,m,y,J⟩
 ·have F:=run_loadCells_list (P:=e) (w:=l) ⟨b,o,none⟩ (g.map Ce.v) (λd V h=>by
   rw[vt,zl];have M:d<f.sh.length:=by
    rcases be d f.sh.length with A|A
    ·exact A
    ·rw[cY bJ]at h;simp at h
   rw[D d M,<-cQ,h])
  simp only[dR]at F
  simp only[execOp,Instr.loadAt,I,Instr.sureAddr,loadVar,Sem.run_bind,Sem.run_pure,C,t,Result.andThen_ok,Q,PF]
  simp[<-E,F,y]
 ·subst y
  have A:=D 0 (by rw[<-E];simp)
  simp at A
  simp only[execOp,Instr.loadAt,I,Instr.sureAddr,loadVar,Sem.run_bind,Sem.run_pure,C,t,Result.andThen_ok]
  simp[zl,A,J]
def Il(C:ua e T)(B:jU n i a)(D:a.eval x=.pointer (some ⟨b,o,none⟩))
 (A:∀d f,fA T c=some d->f<d.sh.length->(b,o+f)∈RJ T i (.load c x))(h:O0 T j c b o k):oK e T i j a ⟨q,.load c x,v,u,p,r⟩ k:=by
 unfold O0 at h
 split at h
 ·rename_i H I F d
  obtain⟨g,w,G,E⟩:=OZ _ _ _ _ _ h
  exact mM C B D d rfl (λf t=>A _ f d t) G (λz m=>by simpa using E z m) (s:=.agg g) rfl (Or.inl ⟨rfl,rfl⟩) w
 ·rename_i G F d
  obtain⟨y,E,w⟩:=h
  exact mM C B D d rfl (λf t=>A _ f d t) (g:=[G.mk y]) rfl (λz m=>by
   have:z=0:=by simpa using m
   subst this;exact E) (s:=.c (G.mk y)) rfl (Or.inr ⟨rfl,_,rfl,rfl⟩) w
 ·rename_i G H F d
  obtain⟨y,E,w⟩:=h
  exact mM C B D d rfl (λf t=>A _ f d t) (g:=[.s y]) rfl (λz m=>by
   have:z=0:=by simpa using m
   subst this;exact E) (s:=.c (.s y)) rfl (Or.inr ⟨rfl,_,rfl,rfl⟩) w
 ·exact h.elim
def Ld:∀{a:List Ce}{b o:Nat}{g:List Ce},Gj a o b=some g->g.length=b/\∀i,i<b->a[o+i]? =g[i]?
 |a,0,o,g,h=>by simp[Gj]at h;subst h;simp
 |a,b+1,o,g,h=>by
  simp only[Gj]at h;split at h
  ·rename_i j r c f;simp at h;subst h;obtain⟨d,e⟩:=Ld f;refine⟨by simp[d],λi k=>?_⟩;cases i with
   |zero=>rw[pF]at c;simpa using c
   |succ i=>
    have:=e i V;rw[show o+(i+1)=o+1+i by omega];simpa using this
  ·simp at h
def Ik(C:ua e T)(B:jU n i a){H:Nat}{G:List Ce}(E:a.eval x=.pointer (some ⟨b,o,none⟩))
 (A:∀d m,fA T c=some d->m<d.sh.length->(b,o+m)∈RJ T i (.load c x))(I:j[b]? =some (.cells (G.map Ce.v).toArray H))(h:Mw T c G o k):
 oK e T i j a ⟨q,.load c x,v,u,p,r⟩ k:=by
 have D:∀f,af j b f=(G[f]?).map Ce.v:=λf=>by simp[af,I]
 unfold Mw at h
 split at h
 ·rename_i K L F d
  split at h
  ·rename_i g J
   obtain⟨t,w⟩:=Ld J
   exact mM C B E d rfl (λm z=>A _ m d z) t (λf y=>by rw[D,w f y]) (s:=.agg g) rfl (Or.inl ⟨rfl,rfl⟩) h
  ·exact h.elim
 ·rename_i J F d
  split at h
  ·rename_i t w
   rw[pF]at w
   exact mM C B E d rfl (λm z=>A _ m d z) (g:=[t]) rfl (λf y=>by
    have:f=0:=by simpa using y
    subst this;rw[D];simp[w]) (s:=.c t) rfl (Or.inr ⟨rfl,_,rfl,rfl⟩) h
  ·exact h.elim
 ·rename_i H J F d
  split at h
  ·rename_i t w
   rw[pF]at w
   exact mM C B E d rfl (λm z=>A _ m d z) (g:=[t]) rfl (λf y=>by
    have:f=0:=by simpa using y
    subst this;rw[D];simp[w]) (s:=.c t) rfl (Or.inr ⟨rfl,_,rfl,rfl⟩) h
  ·exact h.elim
 ·rename_i L K J F d
  split at h
  ·rename_i t w
   rw[pF]at w
   exact mM C B E d rfl (λm z=>A _ m d z) (g:=[t]) rfl (λf y=>by
    have:f=0:=by simpa using y
    subst this;rw[D];simp[w]) (s:=.c t) rfl (Or.inr ⟨rfl,_,rfl,rfl⟩) h
  ·exact h.elim
 ·exact h.elim
def P8(l:ua e T)(d:jU n i a)(B:Bx n i j)(h:rd T i j k (.load c x)):oK e T i j a ⟨q,.load c x,v,u,p,r⟩ k:=by
 simp only[rd]at h;split at h
 ·rename_i b o f;exact Il l d (d.eq f rfl) (λm g A z=>by simp only[RJ,f,A];exact List.mem_map.2 ⟨g,List.mem_range.2 z,rfl⟩) h
 ·rename_i C b o f;have w:∀m g,fA T c=some m->g<m.sh.length->(b,o+g)∈RJ T i (.load c x):=λm g A z=>by simp only[RJ,f,A];exact List.mem_map.2 ⟨g,List.mem_range.2 z,rfl⟩
  split at h
  ·rename_i D t s y;obtain⟨rfl,h⟩:=h;exact Ik l d (d.eq f rfl) w (B.F C _ t s (Or.inl y)) h
  ·rename_i D t s y;obtain⟨rfl,h⟩:=h;exact Ik l d (d.eq f rfl) w (B.F C _ t s (Or.inr y)) h
  ·exact Il l d (d.eq f rfl) w h
 ·exact h.elim
end
end Go.Vc
end
section
namespace Go.Vc
variable{x:Operand}{t:TypeId}
variable{P:Program}{T:TT}
section
variable{n:Nat}{b:Fr}{a:Act}{m:I}{k:SV->Prop}{d:Option Tmp}{g:TypeId}{f:String}{c:Array Edge}{e:Option (Nat×Bool)}
def LH(l:jU n b a){j:Nat}(h:rd T b m k (.extract x j)):oK P T b m a ⟨d,.extract x j,g,f,c,e⟩ k:=by
 simp only[rd]at h;split at h
 ·rename_i p o;split at h
  ·rename_i y i;refine⟨_,_,h,nH _,λw _=>?_⟩;rw[pF]at i;rw[AV.ZX];have:a.eval x=.tuple (p.map AV.v).toArray:=l.eq o rfl;simp[execOp,Instr.extract,this,i]
  ·exact h.elim
 ·exact h.elim
def MF(c:jU n b a){x:Option Operand}{d:Int}{k:Int->Prop}(h:LQ b x d k):
 (x=none/\k d)\/∃y i,x=some y/\a.eval y=.int .i64 i/\k i:=by
 unfold LQ at h
 split at h
 ·exact Or.inl ⟨rfl,h⟩
 ·rename_i y
  split at h
  ·rename_i i e
   exact Or.inr ⟨y,i,rfl,c.eq e rfl,h⟩
  ·exact h.elim
def pI(k:IntKind)(i:Int)(y:Nat)(c:BoundsCode)(a:0<=i)(b:i<=y)(w:World):(Instr.sliceBound (.int k i) y c).run P w=.ok i.toNat w:=by
 simp[Instr.sliceBound,asIntOf,a,b]
def Xh(b o l c a d e:Nat):(O.cut (.mk b o l c) a d e).v=.slice (if c=a then some ⟨b,o,none⟩else(some (⟨b,o,none⟩:Addr)).map (·.add (a*e))) (d -a) (c -a):=by
 show Value.slice _ _ _=_;simp only[vt,nR];split<;>rfl
def OU(J:ua P T)(r:jU n b a){A y:Option Operand}(i:rd T b m k (.slice t x A y none)):oK P T b m a ⟨d,.slice t x A y none,g,f,c,e⟩ k:=by
 simp only[rd]at i;split at i
 ·rename_i s G;unfold Qs at i;split at i
  ·rename_i v N M L;split at i
   ·rename_i B K;cases D:B.ui
    ·rw[D]at i;have F:=(jY (J.xY L)).1;have E:=λw=>j9 J K D w;have z:∀(l h:Int),0<=l->l<=h->h<=(s.cap:Int)->
      (∀w:World,(Instr.sliceBounds true s.len s.cap (A.map a.eval) (y.map a.eval) none).run P w=.ok (l.toNat,h.toNat,s.cap) w)->
      ∀w:World,(execOp a.eval ⟨d,.slice t x A y none,g,f,c,e⟩).run P w=.ok (.value (Ce.s (s.cut l.toNat h.toNat B.sh.length)).v) w:=by
      intro l h o p j q w
      cases s with
      |nil=>
       simp only[O.cap,O.len]at q j
       have:h=0:=V
       have:l=0:=V
       subst this;subst h
       simp[execOp,Instr.sliceAt,r.eq G rfl,SV.v,Ce.v,O.v,run_underlying F,Instr.slice,q,E,O.cut]
      |zn u C H=>
       simp only[O.cap,O.len]at q j
       have:h=0:=V
       have:l=0:=V
       subst this;subst h
       simp[execOp,Instr.sliceAt,r.eq G rfl,SV.v,Ce.v,O.v,run_underlying F,Instr.slice,q,E,O.cut]
      |mk u I H C=>
       simp only[O.cap,O.len]at q
       have v:(Ce.s ((O.mk u I H C).cut l.toNat h.toNat B.sh.length)).v=_:=Xh u I H C l.toNat h.toNat B.sh.length
       rw[v]
       have:a.eval x=.slice (some ⟨u,I,none⟩) H C:=r.eq G rfl
       simp[execOp,Instr.sliceAt,this,run_underlying F,Instr.slice,q,E]
     simp only[mC]at i;rcases MF r i with⟨rfl,C⟩|⟨Q,l,rfl,H,C⟩<;>rcases MF r C with⟨rfl,o,p,j,u⟩|⟨R,h,rfl,I,o,p,j,u⟩
     ·exact⟨_,_,u,nH _,λw _=>z _ _ o p j (λw=>by simp[Instr.sliceBounds]) w⟩
     ·exact⟨_,_,u,nH _,λw _=>z _ _ o p j (λw=>by simp[Instr.sliceBounds,I,pI _ _ _ _ (by omega:0<=h) j]) w⟩
     ·exact⟨_,_,u,nH _,λw _=>z _ _ o p j (λw=>by simp[Instr.sliceBounds,H,pI _ _ _ _ o p]) w⟩
     ·exact⟨_,_,u,nH _,λw _=>z _ _ o p j (λw=>by
       have v:l<=(h.toNat:Int):=V;simp[Instr.sliceBounds,I,H,pI _ _ _ _ (by omega:0<=h) j,pI _ _ _ _ o v]) w⟩
    ·rw[D]at i;exact i.elim
   ·exact i.elim
  ·exact i.elim
 ·exact i.elim
def JY(w:ua P T)(q:jU n b a)(p:List (Nat×Nat))(iH:Nat->Option (Nat×Nat))
 (r:∀i d t f,Hb p i=some (d,t)->fA T t=some f->f.ui=false->iH i=some (d,f.sh.length)):
 ∀(s:List (Nat×Operand))(c:List Ce)(k:List Ce->Prop),EP T b p c s k->
  ∃l,k l/\Instr.fill iH (c.map Ce.v).toArray (s.map λe=>(e.1,a.eval e.2))=some (l.map Ce.v).toArray
 |[],c,k,h=>⟨c,h,rfl⟩
 |(i,x)::H,c,k,h=>by
  simp only[EP]at h;split at h
  ·rename_i d t e E D;split at h
   ·rename_i f F;cases g:(!f.ui&&Nat.beq e.length f.sh.length&&Nat.ble (d+e.length) c.length)
    ·rw[g]at h;exact h.elim
    ·rw[g]at h;simp only[bM,iv]at g;obtain⟨⟨y,m⟩,o⟩:=g;have m:=bt m;have o:=lB o;obtain⟨l,A,C⟩:=JY w q p iH r H (lX c d e) k h;refine⟨l,A,?_⟩;obtain⟨B,z⟩:=pv D;have G:a.eval x=(ev b x).v:=q.eq rfl B;simp only[cG,Instr.fill,r i d t f E F y,G,z,C0,dR,m];rw[ae bJ,<-C];congr 1;apply Bb;intro j;have u:=MA (e.map Ce.v) 0 d (c.map Ce.v).toArray j;rw[<-Z0,YU];have v:=Bm c d e j o;rw[show((List.map Ce.v (lX c d e)).toArray)[j]? =((lX c d e)[j]?).map Ce.v by simp,v];rw[u];simp;split<;>split<;>first|rfl|(exfalso;omega)|(congr 1;omega)
   ·exact h.elim
  ·exact h.elim
def XO(T:TT)(t:Nat):Nat:=match fA T t with|some a=>a.sh.length|none=>0
def It(c:ua P T)(w:World):∀(a:List Field),(∀f∈a,∃b,fA T f.type=some b/\b.ui=false)->
 (a.mapM (λf=>do pure (f.offset,<-sizeOf f.type):Field->Sem (Nat×Nat))).run P w=.ok (a.map λf=>(f.offset,XO T f.type)) w
 |[],_=>D
 |f::a,h=>by
  obtain⟨b,d,j⟩:=h f D;have e:=It c w a (λg i=>h g (by simp[i]));simp only[Tq,Sem.run_bind,j9 c d j,Result.andThen_ok,Sem.run_pure]at e⊢;rw[e];simp[XO,d]
def Iv:∀{d:List (Nat×Nat)},uR T d=true->∀p∈d,∃a,fA T p.2=some a/\a.ui=false
 |[],_,_,h=>by simp at h
 |(o,t)::r,h,p,c=>by
  simp only[uR,bM]at h;rcases List.mem_cons.1 c with rfl|c
  ·have b:=h.1;split at b
   ·rename_i a e;exact⟨a,e,by simpa using b⟩
   ·simp at b
  ·exact Iv h.2 p c
def OS(l:ua P T)(z:jU n b a){o:Array (Nat×Operand)}(i:rd T b m k (.build t o)):oK P T b m a ⟨d,.build t o,g,f,c,e⟩ k:=by
 simp only[rd]at i;split at i
 ·rename_i y L N v;cases q:uR T y
  ·rw[q]at i;exact i.elim
  rw[q]at i;obtain⟨⟨j,E,s⟩,_⟩:=mT (l.xY v);obtain⟨M,J,K,R⟩:=vP l v rfl;have A:∀h∈j.toList,∃r,fA T h.type=some r/\r.ui=false:=λh B=>
   Iv q (h.offset,h.type) (by rw[<-s];exact List.mem_map.2 ⟨h,B,rfl⟩)
  have H:∀w:World,(j.mapM (λh=>do pure (h.offset,<-sizeOf h.type):Field->Sem (Nat×Nat))).run P w=.ok (j.toList.map λh=>(h.offset,XO T h.type)).toArray w:=by
   intro w;rw[TA,Sem.run_map,It l w j.toList A];rfl
  obtain⟨S,F,G⟩:=JY l z y (λx=>((j.toList.map λh=>(h.offset,XO T h.type)).toArray)[x]?) (λx U t r u I Q=>by
   rw[pF,<-s,cQ]at u;obtain⟨O,C,p⟩:=Option.map_eq_some_iff.1 u;simp only[MZ]at p;obtain⟨rfl,rfl⟩:=p;simp only[lA,cQ,C,nR,XO,I]) _ _ _ i
  refine⟨_,_,F,nH _,λw _=>?_⟩;have u:M.cells=((L.map Sh.zero).map Ce.v).toArray:=by
   apply Array.toList_inj.1;simp[J]
  have C:(o.map λp=>(p.1,a.eval p.2)).toList=o.toList.map λp=>(p.1,a.eval p.2):=D;simp only[execOp,Instr.build,Sem.run_bind,K,Result.andThen_ok,run_underlying E,H,u,C,G];simp[SV.v]
 ·exact i.elim
def Bi(d:jU n b a):∀{c:List Operand},c.all (λx=>(ev b x).jx)=true->c.map a.eval=c.map λx=>(ev b x).v
 |[],_=>rfl
 |x::c,h=>by
  simp only[MX,bM]at h;simp only[cG,d.eq rfl h.1,Bi d h.2]
def LF(v:ua P T)(l:jU n b a){s:Builtin}{i:Array Operand}{r:Array TypeId}(h:rd T b m k (.call ⟨.builtin s,i,r⟩)):
 oK P T b m a ⟨d,.call ⟨.builtin s,i,r⟩,g,f,c,e⟩ k:=by
 simp only[rd]at h
 unfold Se at h
 split at h
 ·rename_i t x z p
  split at h
  ·rename_i D E C q y o
   refine⟨_,_,h,nH _,λw _=>?_⟩
   have A:=(jY (v.xY y)).1
   have u:r=#[t]:=Array.toList_inj.1 (by simpa using z)
   have j:i=#[x]:=Array.toList_inj.1 (by simpa using p)
   subst u;subst j
   have B:a.eval x=q.v:=l.eq o rfl
   cases q<;>simp[execOp,resolve,invoke,builtin,Builtin.len_,run_underlying A,B,O.v,goInt,SV.v,Ce.v,O.len]
  ·exact h.elim
 ·rename_i x y p
  split at h
  ·rename_i u z o q
   refine⟨_,_,h,nH _,λw _=>?_⟩
   have j:i=#[x,y]:=Array.toList_inj.1 (by simpa using p)
   subst j
   simp[execOp,resolve,invoke,builtin,Builtin.max_,Builtin.max2,l.eq o rfl,l.eq q rfl,SV.v,Ce.v]
  ·exact h.elim
 ·rename_i x y p
  split at h
  ·rename_i u z o q
   refine⟨_,_,h,nH _,λw _=>?_⟩
   have j:i=#[x,y]:=Array.toList_inj.1 (by simpa using p)
   subst j
   simp[execOp,resolve,invoke,builtin,Builtin.min_,Builtin.min2,l.eq o rfl,l.eq q rfl,SV.v,Ce.v]
  ·exact h.elim
 ·exact h.elim
def Kz(j:ua P T)(i:jU n b a)(s:Bx n b m)(o:Oper)(h:rd T b m k o.op):oK P T b m a o k:=by
 obtain⟨d,l,g,f,c,e⟩:=o;cases l with
 |move x=>exact SF i h
 |assign x=>exact Rq i h
 |pick p x y=>exact P9 i h
 |nilCheck x=>exact Kc i h
 |binOp l t x y q=>exact OR j i h
 |unOp l t x=>exact Qa i h
 |convert q t x=>exact LG j i h
 |fieldAddr t x q=>exact IM j i h
 |field t x q=>exact OT j i h
 |indexAddr t x y=>exact IN j i h
 |load t x=>exact P8 j i s h
 |extract x r=>exact LH i h
 |slice t x v u r=>cases r with
  |none=>exact OU j i h
  |some y=>exact h.elim
 |build t r=>exact OS j i h
 |call p=>
  obtain⟨r,u,w⟩:=p;cases r with
  |builtin v=>exact LF j i h
  |value q=>exact h.elim
  |invoke v q=>exact h.elim
 |_=>exact h.elim
end
end Go.Vc
end
section
namespace Go.Vc
variable{m m':I}{b o e n q:Nat}{l:List Ce}
def ai(m:I)(b o:Nat):List Ce->I
 |[]=>m
 |c::r=>ai (qY m b o c.v) b (o+1) r
def fH(m:I)(b o n:Nat):Prop:=∀j,j<n->(af m b (o+j)).isSome=true/\vw m b (o+j)=false
def fN(m:I)(b o:Nat)(l:List Ce):Prop:=∀(i:Nat)(c:Ce),l[i]? =some c->af m b (o+i)=some c.v
def ni(a:List Ce)(n:Nat):List Ce:=(List.replicate n a).flatten
def bG(l:List Ce):Array Value:=(l.map Ce.v).toArray
def Qp(m:I)(b o:Nat)(v:Value):(qY m b o v).size=m.size:=by simp[qY]
def KH(m:I)(b o:Nat)(v:Value){j:Nat}(h:j≠b):(qY m b o v)[j]? =m[j]? :=by
 simp only[qY,lz];rw[ae (λe=>h e.symm)]
def av:∀(l:List Ce)(m:I)(b o:Nat),(ai m b o l).size=m.size
 |[],_,_,_=>rfl
 |c::r,m,b,o=>by simp only[ai];rw[av r,Qp]
def bd:∀(l:List Ce)(m:I)(b o:Nat){j:Nat},j≠b->(ai m b o l)[j]? =m[j]?
 |[],_,_,_,_,_=>rfl
 |c::r,m,b,o,j,h=>by simp only[ai];rw[bd r _ _ _ h,KH m b o _ h]
def nF{v:Value}(h:af m b o=some v):b<m.size:=by
 rcases be b m.size with a|a
 ·exact a
 ·simp[af,Ie a]at h
def aN(h:m'[b]? =m[b]?)(o:Nat):af m' b o=af m b o:=by simp only[af,h]
def cF(m:I)(b:Nat)(e:Nat)(l:List Ce):Prop:=m[b]? =some (.cells (bG l) e)
def Ti(l:List Ce)(i:Nat):(bG l)[i]? =(l[i]?).map Ce.v:=by simp[bG]
def cF.cp(h:cF m b e l)(o:Nat):af m b o=(l[o]?).map Ce.v:=by
 have a:m[b]? =some (.cells (bG l) e (0,0)):=h;simp only[af,a,Ti]
def cF.iP(h:cF m b e l):fN m b 0 l:=λi c a=>by rw[h.cp,cC,a];rfl
def cF.lt(h:cF m b e l):b<m.size:=(Array.getElem?_eq_some_iff.1 h).1
def cF.vw{m:I}{b e:Nat}{l:List Ce}(h:cF m b e l)(o:Nat):vw m b o=false:=by
 have a:m[b]? =some (.cells (bG l) e (0,0)):=h;simp[Vc.vw,a]
def cF.fH(h:cF m b e l)(c:o+n<=l.length):fH m b o n:=λj a=>by
 refine⟨?_,h.vw _⟩;rw[h.cp];simp;omega
def cF.push(m:I)(l:List Ce)(e:Nat):cF (m.push (.cells (bG l) e)) m.size e l:=by simp[cF]
def cF.congr(a:cF m b e l)(h:m'[b]? =m[b]?):cF m' b e l:=by
 unfold cF at*;rw[h];exact a
def cF.qY{m:I}{b e:Nat}{l:List Ce}(h:cF m b e l)(o:Nat)(c:Ce):cF (qY m b o c.v) b e (l.set o c):=by
 have d:m[b]? =some (.cells (bG l) e (0,0)):=h;have f:=h.lt;simp only[cF,Vc.qY,lz,PF,d,nR];congr 2;apply Bb;intro i;simp only[bG,Array.getElem?_setIfInBounds,lA,cQ,jt,C0,dR];by_cases e:o=i
 ·subst e;by_cases a:o<l.length
  ·simp[a]
  ·simp[a]
 ·simp[e]
def iX(l:List Ce)(o:Nat):List Ce->List Ce
 |[]=>l
 |c::r=>iX (l.set o c) (o+1) r
def kH:∀(r l:List Ce)(o:Nat),(iX l o r).length=l.length
 |[],_,_=>rfl
 |c::r,l,o=>by simp only[iX];rw[kH r];simp
def vQ:∀(r l:List Ce)(o i:Nat),(iX l o r)[i]? =if o<=i/\i<o+r.length/\i<l.length then r[i -o]? else l[i]?
 |[],l,o,i=>by simp[iX];intro h;omega
 |c::r,l,o,i=>by
  simp only[iX];rw[vQ r,jt];simp only[dZ,aY];by_cases b:o=i
  ·subst b;by_cases a:o<l.length
   ·simp[a];try omega
   ·simp[a];try omega
  ·by_cases a:o<=i/\i<o+(r.length+1)/\i<l.length
   ·rw[ao a,ao V,show i -o=(i -(o+1))+1 by omega,gR]
   ·rw[ae a,ae V];simp[b]
def cF.ai{m:I}{b e:Nat}:∀{r l:List Ce}{m:I}{o:Nat},cF m b e l->cF (ai m b o r) b e (iX l o r)
 |[],_,_,_,h=>h
 |c::r,l,m,o,h=>by
  simp only[Vc.ai,iX];exact cF.ai (m:=m) (h.qY o c)
def uP(t:Nat):List Nat->Bool
 |[]=>false
 |u::r=>Nat.beq u t||uP t r
def G6{t:Nat}:∀{M:List Nat},uP t M=true->t∈M
 |[],h=>by simp[uP]at h
 |u::r,h=>by
  simp only[uP,bT]at h;rcases h with h|h
  ·rw[bt h];exact ba
  ·exact aj _ (G6 h)
def Lt(n:Nat):Fr->List Nat->List Nat
 |[],_=>[]
 |(q,x)::r,a=>bif Nat.ble n q&&!uP q a then
  match x with
  | .box b _ _=>b::Lt n r (q::a)
  | .zj b _ _=>b::Lt n r (q::a)
  |_=>Lt n r (q::a)
  else Lt n r a
def eE(l:List Nat)(m m':I):Prop:=∀b∈l,m'[b]? =m[b]?
def zS(l:List Nat)(m m':I)(k:Prop):Prop:=
 match l with
 |[]=>k
 |_=>eE l m m'/\k
def mq{l:List Nat}{k:Prop}(h:zS l m m' k):eE l m m'/\k:=by
 unfold zS at h;split at h
 ·exact⟨(λb a=>by cases a),h⟩
 ·exact h
def Gm{n:Nat}{q b e:Nat}{l:List Ce}(c:n<=q):∀{j:Fr}{a:List Nat},q∉a->lC j q b e l->b∈Lt n j a
 |[],a,_,h=>by rcases h with h|h<;>simp[gS]at h
 |(u,x)::r,a,g,h=>by
  simp only[Lt];cases f:Nat.beq u q
  ·have k:u≠q:=λe=>by subst e;simp at f
   have d:lC r q b e l:=by
    unfold lC at h⊢;simpa only[gS,f,mC]using h
   have i:q∉u::a:=by
    simp only[aU,tH];exact⟨λe=>k e.symm,g⟩
   cases(Nat.ble n u&&!uP u a)
   ·exact Gm c g d
   ·simp only[jw];split
    ·exact aj _ (Gm c i d)
    ·exact aj _ (Gm c i d)
    ·exact Gm c i d
  ·have:=bt f;subst this;have i:uP u a=false:=by
    cases k:uP u a
    ·rfl
    ·exact absurd (G6 k) g
   have d:Nat.ble n u=true:=WO c;simp only[i,d,Lm,Bool.and_self,jw];unfold lC at h;simp only[gS,f,jw]at h;rcases h with h|h<;>rw[h]<;>exact ba
def Bx.fP{c:Fr}(h:Bx n c m){x:SV}(i:∀b e l,x≠.box b e l/\x≠.zj b e l):Bx n ((q,x)::c) m:=by
 have d:∀{u b e l},lC ((q,x)::c) u b e l->lC c u b e l:=by
  intro u b e l a;unfold lC at a⊢;simp only[gS]at a;cases g:Nat.beq q u
  ·rw[g]at a;exact a
  ·rw[g]at a;rcases a with a|a
   ·exact absurd a (i b e l).1
   ·exact absurd a (i b e l).2
 exact⟨λq b e l f=>h.F q b e l (d f),λq t b e l j k s r o p=>h.Nn q t b e l j k s r (d o) (d p),λq b e l f=>h.key q b e l (d f)⟩
def SV.XC(x:SV)(b e:Nat)(l:List Ce):x.nb≠.box b e l/\x.nb≠.zj b e l:=by
 cases x<;>exact⟨by simp[SV.nb],by simp[SV.nb]⟩
def Bx.put{a:Fr}(h:Bx n a m)(d:Option Nat)(x:SV):Bx n (tK a d x) m:=by
 cases d with
 |none=>exact h
 |some d=>exact h.fP (SV.XC x)
def Bx.dm{a:Fr}(h:Bx n a m)(d:eE (Lt n a []) m m'):Bx n a m':=
 ⟨λq b e l c=>by rw[d b (Gm (h.key q b e l c) D c)];exact h.F q b e l c,h.Nn,h.key⟩
def Bx.push{a:Fr}(h:Bx n a m)(o:Obj):Bx n a (m.push o):=
 ⟨λq b e l d=>by
  have c:=h.F q b e l d;have f:=(Array.getElem?_eq_some_iff.1 c).1;rw[mH,ae V];exact c,h.Nn,h.key⟩
def Bx.new{d:Fr}(h:Bx n d m)(x:n<=q)(t:Nat)(l:List Ce):Bx n ((q,.box m.size t l)::d) (m.push (.cells (bG l) t)):=by
 have w:=h.push (.cells (bG l) t);have p:∀{u b e l},lC d u b e l->b<m.size:=λa=>(Array.getElem?_eq_some_iff.1 (h.F _ _ _ _ a)).1;have g:∀{u b e c},lC ((q,.box m.size t l)::d) u b e c->(u=q/\b=m.size/\e=t/\c=l)\/(u≠q/\lC d u b e c):=by
  intro u b e c a;unfold lC at a⊢;simp only[gS]at a;cases f:Nat.beq q u
  ·rw[f]at a;exact Or.inr ⟨λe=>by subst e;simp at f,a⟩
  ·rw[f]at a;have:=bt f;subst this;rcases a with a|a
   ·simp at a;exact Or.inl ⟨rfl,a.1.symm,a.2.1.symm,a.2.2.symm⟩
   ·simp at a
 refine⟨λu b e c a=>?_,λu B b e z r s A o v k=>?_,λu b e c a=>?_⟩
 ·rcases g a with⟨rfl,rfl,rfl,rfl⟩|⟨_,a⟩
  ·simp[bG]
  ·exact w.F u b e c a
 ·rcases g v with⟨rfl,rfl,rfl,rfl⟩|⟨f,j⟩
  ·rcases g k with⟨rfl,rfl,rfl,rfl⟩|⟨y,i⟩
   ·exact absurd rfl o
   ·have:=p i;omega
  ·rcases g k with⟨rfl,rfl,rfl,rfl⟩|⟨y,i⟩
   ·have:=p j;omega
   ·exact h.Nn u B b e z r s A o j i
 ·rcases g a with⟨rfl,rfl,rfl,rfl⟩|⟨_,a⟩
  ·exact x
  ·exact h.key u b e c a
def Bx.pT{j:Fr}(h:Bx n j m){f:List Ce}(G:gS j q=.box b e f)(o:Nat)(l:List Ce):Bx n ((q,.box b e (iX f o l))::j) (ai m b o l):=by
 have k:lC j q b e f:=Or.inl G;have F:cF m b e f:=h.F q b e f k;have p:∀{u c d g},lC ((q,.box b e (iX f o l))::j) u c d g->(u=q/\c=b/\d=e/\g=iX f o l)\/(u≠q/\lC j u c d g):=by
  intro u c d g a;unfold lC at a⊢;simp only[gS]at a;cases i:Nat.beq q u
  ·rw[i]at a;exact Or.inr ⟨λe=>by subst e;simp at i,a⟩
  ·rw[i]at a;have:=bt i;subst this;rcases a with a|a
   ·simp at a;exact Or.inl ⟨rfl,a.1.symm,a.2.1.symm,a.2.2.symm⟩
   ·simp at a
 refine⟨λu c d g a=>?_,λu s t w C v x D A E z=>?_,λu c d g a=>?_⟩
 ·rcases p a with⟨rfl,rfl,rfl,rfl⟩|⟨i,a⟩
  ·exact cF.ai (m:=m) F
  ·rw[bd l m b o (h.Nn u q c d g b e f i a k)];exact h.F u c d g a
 ·rcases p E with⟨rfl,rfl,rfl,rfl⟩|⟨i,y⟩
  ·rcases p z with⟨rfl,rfl,rfl,rfl⟩|⟨B,r⟩
   ·exact absurd rfl A
   ·exactλe=>h.Nn s u v x D _ _ _ B r k e.symm
  ·rcases p z with⟨rfl,rfl,rfl,rfl⟩|⟨B,r⟩
   ·exact h.Nn u s t w C _ _ _ i y k
   ·exact h.Nn u s t w C v x D A y r
 ·rcases p a with⟨rfl,rfl,rfl,rfl⟩|⟨_,a⟩
  ·exact h.key u c d f k
  ·exact h.key u c d g a
def EU(a:Fr):List Ce->Option Fr
 |[]=>some a
 | .bp q _ _::r=>match gS a q with
  | .zj _ _ _=>none
  |_=>EU ((q,.fP)::a) r
 |_::r=>EU a r
def AV.TU:AV->List Ce
 | .c x=>[x]
 | .agg l=>l
def SV.TU:SV->List Ce
 | .c x=>[x]
 | .agg l=>l
 | .Wr l=>l.flatMap AV.TU
 |_=>[]
def SA(a:Fr)(l:List SV):Option Fr:=EU a (l.flatMap SV.TU)
def p7{n:Nat}{f:Act}{m:I}:∀{l:List Ce}{a c:Fr},EU a l=some c->jU n a f->Bx n a m->jU n c f/\Bx n c m
 |[],a,c,h,e,d=>by simp[EU]at h;subst h;exact⟨e,d⟩
 |g::r,a,c,h,e,d=>by
  cases g with
  |bp q b o=>
   simp only[EU]at h;split at h
   ·simp at h
   ·exact p7 h (e.fP q) (d.fP D)
  |_=>exact p7 (l:=r) (by simpa[EU]using h) e d
end Go.Vc
end
section
namespace Go.Vc
variable{P:Program}{T:TT}
def NE(m:I)(k:I->Prop):Prop:=k m
def jE(m:I)(f:Nat)(b:List Ce)(e:Nat)(s x:O)(k:O->I->Prop):Prop:=
 ∃a:List Ce,a.length=x.len*b.length/\fN m x.F x.off a/\
  (s.len+x.len<=s.cap->fH m s.F (s.off+s.len*b.length) a.length/\
   k (match s with| .nil=>.nil| .mk d o l c=>.mk d o (l+x.len) c| .zn d o g=>.zn d o g) (ai m s.F (s.off+s.len*b.length) a))/\
  (s.cap<s.len+x.len->(s.len+x.len)*e<=140737488355328/\∃old:List Ce,old.length=s.len*b.length/\fN m s.F s.off old/\
   ∀c,s.len+x.len<=c->k (.mk m.size 0 (s.len+x.len) c) (m.push (.cells (bG (old++a++ni b (c -(s.len+x.len)))) f)))
def Wb(m:I)(c:Nat)(s x:O)(k:SV->I->Prop):Prop:=
 ∃a:List Ce,a.length=Nat.min x.len s.len*c/\fN m x.F x.off a/\fH m s.F s.off a.length/\
  NE (ai m s.F s.off a) λb=>k (.c (.i (Nat.min x.len s.len:Nat))) b
def Tx:List Sh->(List Ce->Prop)->Prop
 |[],k=>k []
 |s::r,k=>∃x:s.ty,Tx r λl=>k (s.mk x::l)
def Ro(T:TT):List Nat->(List AV->Prop)->Prop
 |[],k=>k []
 |t::r,k=>match fA T t with
  |some ⟨.struct _,b,_⟩=>Tx b λl=>Ro T r λa=>k (.agg l::a)
  |some ⟨.cell,[s],_⟩=>∃x:s.ty,Ro T r λa=>k (.c (s.mk x)::a)
  |some ⟨.slice _,[_],_⟩=>∃x:O,Ro T r λa=>k (.c (.s x)::a)
  |_=>False
def Pd(T:TT)(t:Nat)(v:Value)(k:SV->Prop):Prop:=
 match fA T t with
 |some ⟨.tuple [],_,_⟩=>k .fP
 |some ⟨.tuple a,_,_⟩=>Ro T a λl=>v=.tuple (l.map AV.v).toArray/\k (.Wr l)
 |some ⟨.struct _,a,_⟩=>Tx a λl=>v=.agg (l.map Ce.v).toArray/\k (.agg l)
 |some ⟨.cell,[s],_⟩=>∃x:s.ty,v=(s.mk x).v/\k (.c (s.mk x))
 |some ⟨.slice _,[_],_⟩=>∃x:O,v=x.v/\k (.c (.s x))
 |_=>False
def Si(P:Program)(T:TT)(G:List Nat)(n:Nat)(a:Fr)(m:I)(e:Nat)(h:Operand)(b:List Operand)(k:Fr->SV->I->Prop):Prop:=
 match SA a (b.map (ev a))with
 |none=>False
 |some d=>match ev a h with
  | .c (.fn (.func g) first f)=>bif G.elem g&&b.all (λx=>(ev a x).jx)then
   aO P g (first.toList++(b.map λx=>(ev a x).v)++f.toList) m λv c=>zS (Lt n d []) m c (Pd T e v λx=>k d x c)
   else False
  | .c (.fv q)=>bif b.all (λx=>(ev a x).jx)then
   ∃g,q.1=.func g/\G.elem g=true/\aO P g (q.2.1.toList++(b.map λx=>(ev a x).v)++q.2.2.toList) m λv c=>zS (Lt n d []) m c (Pd T e v λx=>k d x c)
   else False
  |_=>False
def CP(m:I)(b:Nat)(l:List (Int×Int)):Prop:=
 ∃a c,m[b]? =some (.map a c)/\a.toList.map (λe=>(e.key,e.val))=l.map λp=>(Value.int .i64 p.1,Value.int .i64 p.2)
def uQ(l:List (Int×Int))(k:Int):Int:=
 match l with
 |[]=>0
 |(j,v)::r=>if k=j then v else uQ r k
def IU(l:List (Int×Int))(k v:Int):List (Int×Int):=
 match l with
 |[]=>[(k,v)]
 |(j,u)::r=>if k=j then(j,v)::r else(j,u)::IU r k v
def wQ(T:TT)(d:Fr)(b:Nat):List Ce->List (Nat×Operand)->(List Ce->Prop)->Prop
 |a,[],k=>k a
 |a,(i,x)::r,k=>
  match(ev d x).cells with
  |some c=>bif Nat.beq c.length b&&Nat.ble (i*b+c.length) a.length then wQ T d b (lX a (i*b) c) r k else False
  |none=>False
def Ru(n:Nat)(b:Fr)(d:Option Nat)(m:I)(t:Nat)(l:List Ce)(k:Fr->SV->I->Prop):Prop:=
 match d with
 |some a=>match gS b (n+a)with
  | .zj _ _ _=>False
  |_=>NE (m.push (.cells (bG l) t)) λc=>k ((n+a,.box m.size t l)::b) (.c (.bp (n+a) m.size 0)) c
 |none=>NE (m.push (.cells (bG l) t)) λc=>k b (.c (.p m.size 0)) c
def NW(n:Nat)(c:Fr)(m:I)(x:SV)(l:List Ce)(k:Fr->SV->I->Prop):Prop:=
 match x with
 | .c (.p b o)=>fH m b o l.length/\NE (ai m b o l) λa=>zS (Lt n c []) m a (k c .un a)
 | .c (.bp q b o)=>match gS c q with
  | .box d f e=>bif Nat.ble (o+l.length) e.length then LA d b (NE (ai m b o l) λa=>k ((q,.box d f (iX e o l))::c) .un a)else False
  | .zj _ _ _=>False
  |_=>fH m b o l.length/\NE (ai m b o l) λa=>zS (Lt n c []) m a (k c .un a)
 |_=>False
def wr(P:Program)(T:TT)(G:List Nat)(n:Nat)(a:Fr)(m:I)(h:Option Nat)(o:Nat)(k:Fr->SV->I->Prop):Op->Prop
 | .alloc t=>match fA T t with
  |some f=>bif f.ui then False else Ru n a h m t (f.sh.map Sh.zero) k
  |none=>False
 | .box t x=>match(ev a x).cells with
  |some l=>match EU a l with
   |some d=>Ru n d h m t l k
   |none=>False
  |none=>False
 | .buildSlice t g i=>match fA T t with
  |some ⟨.slice e,_,_⟩=>match fA T e with
   |some c=>bif c.ui||!(Nat.ble (g*c.sh.length) 16777216)then False else
    wQ T a c.sh.length (ni (c.sh.map Sh.zero) g) i.toList λl=>match EU a l with
     |some d=>NE (m.push (.cells (bG l) e)) λb=>k d (.c (.s (.mk m.size 0 g g))) b
     |none=>False
   |none=>False
  |_=>False
 | .store t x y=>match(ev a y).cells,fA T t with
  |some l,some f=>bif f.ui||!(Nat.beq l.length f.sh.length)then False else match EU a l with
   |some d=>NW n d m (ev a x) l k
   |none=>False
  |_,_=>False
 | .makeSlice t x y=>match fA T t,ev a x,ev a y with
  |some ⟨.slice e,_,_⟩,.c (.i l),.c (.i f)=>match fA T e with
   |some c=>bif c.ui then False else 0<=l/\l<=f/\(c.bytes:Int)*f<=281474976710656/\f<=9223372036854775807/\
    NE (m.push (.cells (bG (ni (c.sh.map Sh.zero) f.toNat)) e)) λb=>k a (.c (.s (.mk m.size 0 l.toNat f.toNat))) b
   |none=>False
  |_,_,_=>False
 | .makeFunc g first f=>bif first.toList.all (λx=>(ev a x).jx)&&f.toList.all (λx=>(ev a x).jx)then
  match SA a (first.toList.map (ev a)++f.toList.map (ev a))with
  |some d=>k d (.c (.fn g (first.toList.map λx=>(ev a x).v).toArray (f.toList.map λx=>(ev a x).v).toArray)) m
  |none=>False
  else False
 | .makeMap _ none=>NE (m.push (.map #[] 0)) λb=>k a (.c (.mp m.size)) b
 | .lookup t x y false=>match fA T t,ev a x,ev a y with
  |some ⟨.map f g,_,_⟩,.c (.mp d),.c (.i n)=>match fA T f,fA T g with
   |some ⟨.cell,[.I],_⟩,some ⟨.cell,[.I],_⟩=>∃l,CP m d l/\k a (.c (.i (uQ l n))) m
   |_,_=>False
  |_,_,_=>False
 | .mapUpdate t x y z=>match fA T t,ev a x,ev a y,ev a z with
  |some ⟨.map f _,_,_⟩,.c (.mp d),.c (.i g),.c (.i v)=>match fA T f with
   |some ⟨.cell,[.I],_⟩=>∃l,CP m d l/\∀b,CP b d (IU l g v)->b.size=m.size->(∀j,j≠d->b[j]? =m[j]?)->zS (Lt n a []) m b (k a .un b)
   |_=>False
  |_,_,_,_=>False
 | .call ⟨.value f,d,_⟩=>Si P T G n a m o f d.toList k
 | .call ⟨.builtin .append,d,f⟩=>match d.toList,f.toList with
  |[x,y],[t,u]=>match fA T t,fA T u,ev a x,ev a y with
   |some ⟨.slice e,_,_⟩,some ⟨.slice _,_,_⟩,.c (.s s),.c (.s z)=>match fA T e with
    |some c=>bif c.ui||Nat.beq c.bytes 0 then False else jE m e (c.sh.map Sh.zero) c.bytes s z λr b=>zS (Lt n a []) m b (k a (.c (.s r)) b)
    |none=>False
   |_,_,_,_=>False
  |_,_=>False
 | .call ⟨.builtin .copy,d,f⟩=>match d.toList,f.toList with
  |[x,y],t::_=>match fA T t,ev a x,ev a y with
   |some ⟨.slice e,_,_⟩,.c (.s s),.c (.s z)=>match fA T e with
    |some c=>bif c.ui then False else Wb m c.sh.length s z λx b=>zS (Lt n a []) m b (k a x b)
    |none=>False
   |_,_,_=>False
  |_,_=>False
 |_=>False
def GJ(P:Program)(g:Nat):Bool:=
 match P.funcs[g]? with
 |some a=>!(a.name== "runtime.NumGoroutine")&&a.body.isSome
 |none=>false
def TH(P:Program)(G:List Nat):Prop:=G.all (GJ P)=true
def Pz(a:List Ce):∀(n i:Nat),i<n*a.length->(ni a n)[i]? =a[i%a.length]?
 |0,i,h=>by simp at h
 |n+1,i,h=>by
  have c:0<a.length:=by
   rcases jT a.length with e|e
   ·rw[e]at h;simp at h
   ·exact e
  have e:ni a (n+1)=a++ni a n:=by simp[ni,qD]
  rw[e,List.getElem?_append];split
  ·rename_i b;rw[Nat.mod_eq_of_lt b]
  ·rename_i b;rw[Pz a n (i -a.length) (by rw[gA,Nat.one_mul]at h;omega)];congr 1;rw[Nat.mod_eq_sub_mod (by omega:i>=a.length)]
def rq(a:List Ce)(n:Nat):(ni a n).length=n*a.length:=by
 simp[ni]
def Ic(a:List Ce)(z:Array Value)(d:z.toList=a.map Ce.v)(n:Nat):
 (Array.range (n*a.length)).map (λi=>z[i%z.size]!)=bG (ni a n):=by
 apply Bb
 intro i
 have j:z.size=a.length:=by rw[<-YT,d];simp
 by_cases b:i<n*a.length
 ·have f:=Pz a n i b
  have h:0<a.length:=by
   rcases jT a.length with e|e
   ·rw[e]at b;simp at b
   ·exact e
  have g:i%a.length<a.length:=Nat.mod_lt _ h
  have c:(bG (ni a n))[i]? =((ni a n)[i]?).map Ce.v:=by simp[bG]
  rw[c,f,<-cQ,<-d]
  simp[b,j,g]
 ·have c:(bG (ni a n))[i]? =none:=by simp[bG,rq];omega
  rw[c]
  simp[b]
end Go.Vc
end
section
namespace Go.Vc
variable{c:SV}{l:List Ce}{t:TypeId}
variable{d:Program}{T:TT}{G:List Nat}
def Ce.Uj(c:Ce):c.v.oneCell'=true:=by
 cases c with
 |s y=>cases y<;>rfl
 |_=>rfl
def kM:∀(l:List Ce)(w:World)(b o:Nat),(w.setCells b o (l.map Ce.v)).heap=ai w.heap b o l
 |[],_,_,_=>rfl
 |c::r,w,b,o=>by
  simp only[cG,World.setCells,ai];rw[kM r,NK]
def qM:∀(l:List Value)(w:World)(a o:Nat),od w (w.setCells a o l)
 |[],w,_,_=>od.aB w
 |c::r,w,a,o=>by
  simp only[World.setCells];exact od.trans (b:=w.setCell ⟨a,o,none⟩ c) ⟨rfl,rfl,rfl⟩ (qM r _ a (o+1))
def DE(l:List Ce)(b o:Nat)(w:World)(h:fH w.heap b o l.length):
 (storeCells ⟨b,o,none⟩ (l.map Ce.v)).run d w=.ok () (w.setCells b o (l.map Ce.v)):=by
 have:=run_storeCells_cells (P:=d) b o (l.map Ce.v) 0 w
  (λj a=>by have:=(h j (by simpa using a)).1;rw[zl];simpa using this)
  (λj a=>by have:=(h j (by simpa using a)).2;rw[P5];simpa using this)
  (λv a=>by obtain⟨c,_,rfl⟩:=List.mem_map.1 a;exact c.Uj)
 simpa using this
def Pf(l:List Ce)(b o:Nat)(a:World)(h:fN a.heap b o l):(loadCells ⟨b,o,none⟩ l.length).run d a=.ok (bG l) a:=by
 have:=run_loadCells_list (P:=d) (w:=a) ⟨b,o,none⟩ (l.map Ce.v) (λj v c=>by
  rw[vt,zl];rw[cQ]at c;obtain⟨e,f,rfl⟩:=Option.map_eq_some_iff.1 c;exact h j e f)
 simpa[bG]using this
section
variable{n:Nat}{b:Fr}{a:Act}{m:I}{k:Fr->SV->I->Prop}{e:Option Tmp}{f:TypeId}{i:String}{g:Array Edge}{h:Option (Nat×Bool)}
def EG(d:Program)(n:Nat)(a:Act)(m:I)(o:Oper)(k:Fr->SV->I->Prop):Prop:=
 ∀(w:World),w.heap=m->∀(f:Act->World->Prop)(Q:Exit->Act->World->Prop),
  (∀e c v b,k e c b.heap->jU n e a->Bx n e b.heap->c.Is v->od w b->f (a.put o.dst v) b)->o.wp d a w f Q
def jF{o:Oper}{e:Fr}{v:Value}{w b:World}(h:jU n e a)(g:Bx n e b.heap)(p:c.Is v)(m:od w b)(i:k e c b.heap)(l:(execOp a.eval o).run d w=.ok (.value v) b)
 {f:Act->World->Prop}{Q:Exit->Act->World->Prop}(j:∀e c v b,k e c b.heap->jU n e a->Bx n e b.heap->c.Is v->od w b->f (a.put o.dst v) b):o.wp d a w f Q:=by
 unfold Oper.wp
 rw[l]
 exact j e c v b i h g p m
def MD{i:Option Nat}{t:Nat}(g:jU n b a)(f:Bx n b m)(h:Ru n b i m t l k):
 ∃d c,jU n d a/\Bx n d (m.push (.cells (bG l) t))/\c.Is (.pointer (some ⟨m.size,0,none⟩))/\k d c (m.push (.cells (bG l) t)):=by
 unfold Ru at h
 split at h
 ·split at h
  ·exact h.elim
  ·rename_i e _ j
   exact⟨(n+e,.box m.size t l)::b,.c (.bp (n+e) m.size 0),g.cons _ (λ_=>trivial),f.new (Nat.le_add_right _ _) t l,rfl,h⟩
 ·exact⟨b,.c (.p m.size 0),g,f.push _,rfl,h⟩
def Pq(s:jU n b a)(g:Bx n b m)(h:NW n b m c l k):
 ∃p d o,jU n p a/\Bx n p (ai m d o l)/\(∀v,c.Is v->v=.pointer (some ⟨d,o,none⟩))/\fH m d o l.length/\k p .un (ai m d o l):=by
 unfold NW at h
 split at h
 ·obtain⟨q,r⟩:=mq h.2
  exact⟨_,_,_,s,g.dm q,λv e=>e,h.1,r⟩
 ·split at h
  ·rename_i w d o _ i j f u
   cases t:Nat.ble (o+l.length) f.length
   ·rw[t]at h;exact h.elim
   ·rw[t]at h
    obtain⟨rfl,h⟩:=h
    have x:cF m i j f:=g.F w i j f (Or.inl u)
    exact⟨(w,.box i j (iX f o l))::b,_,_,s.cons _ (λ_=>trivial),g.pT u o l,λv e=>e,x.fH (lB t),h⟩
  ·exact h.elim
  ·obtain⟨q,r⟩:=mq h.2
   exact⟨_,_,_,s,g.dm q,λv e=>e,h.1,r⟩
 ·exact h.elim
def PU(y:ua d T)(s:jU n b a)(q:Bx n b m)(j:wr d T G n b m e f k (.alloc t)):EG d n a m ⟨e,.alloc t,f,i,g,h⟩ k:=by
 intro l D L Q B
 subst D;simp only[wr]at j;split at j
 ·rename_i p C;cases o:p.ui
  ·rw[o]at j;obtain⟨I,F,H,K⟩:=vP y C o;have z:I.cells=bG (p.sh.map Sh.zero):=by apply Array.toList_inj.1;simp[F,bG]
   obtain⟨J,c,u,r,E,A⟩:=MD s q j;refine jF (w:=l) (c:=c) (v:=.pointer (some ⟨l.heap.size,0,none⟩)) (b:={l with heap:=l.heap.push (.cells (bG (p.sh.map Sh.zero)) t)}) u r E ⟨rfl,rfl,rfl⟩ A ?_ B;simp[execOp,Instr.alloc,H,newVar,newRow,z]
  ·rw[o]at j;exact j.elim
 ·exact j.elim
def So(p:jU n b a)(q:Bx n b m){c:Operand}(j:wr d T G n b m e f k (.box t c)):EG d n a m ⟨e,.box t c,f,i,g,h⟩ k:=by
 intro o F L Q E
 subst F;simp only[wr]at j;split at j
 ·rename_i l D;split at j
  ·rename_i K A;obtain⟨y,s⟩:=p7 A p q;obtain⟨B,z⟩:=pv D;obtain⟨J,I,u,r,H,C⟩:=MD y s j;refine jF (w:=o) (c:=I) (v:=.pointer (some ⟨o.heap.size,0,none⟩)) (b:={o with heap:=o.heap.push (.cells (bG l) t)}) u r H ⟨rfl,rfl,rfl⟩ C ?_ E;simp[execOp,Instr.box,newVar,newRow,p.eq rfl B,z,bG]
  ·exact j.elim
 ·exact j.elim
def Ly(q:jU n b a)(y:Bx n b m){o:Fn}{first l:Array Operand}(j:wr d T G n b m e f k (.makeFunc o first l)):EG d n a m ⟨e,.makeFunc o first l,f,i,g,h⟩ k:=by
 intro r D F Q C
 subst D;simp only[wr]at j;cases p:(first.toList.all (λc=>(ev b c).jx)&&l.toList.all (λc=>(ev b c).jx))
 ·rw[p]at j;exact j.elim
 ·rw[p]at j;simp only[bM]at p;obtain⟨u,x⟩:=p;have s:(first.toList.map λc=>(ev b c).v).toArray=first.map a.eval:=by
   apply Array.toList_inj.1;simp[Bi q u]
  have t:(l.toList.map λc=>(ev b c).v).toArray=l.map a.eval:=by
   apply Array.toList_inj.1;simp[Bi q x]
  simp only[jw]at j;split at j
  ·rename_i E B;obtain⟨A,z⟩:=p7 B q y;refine jF (w:=r) (b:=r) A z (v:=.func o (first.map a.eval) (l.map a.eval)) ?_ (od.aB r) j ?_ C
   ·show Value.func o (first.map a.eval) (l.map a.eval)=Value.func o _ _;rw[s,t]
   ·simp[execOp,Instr.makeFunc]
  ·exact j.elim
def IA(p:jU n b a)(e:Nat):
 ∀(q:List (Nat×Operand))(d:List Ce)(k:List Ce->Prop),wQ T b e d q k->
  ∃l,k l/\Instr.fill (λi=>some (i*e,e)) (d.map Ce.v).toArray (q.map λf=>(f.1,a.eval f.2))=some (l.map Ce.v).toArray
 |[],d,k,h=>⟨d,h,rfl⟩
 |(i,c)::z,d,k,h=>by
  simp only[wQ]at h;split at h
  ·rename_i f x;cases g:(Nat.beq f.length e&&Nat.ble (i*e+f.length) d.length)
   ·rw[g]at h;exact h.elim
   ·rw[g]at h;simp only[bM]at g;obtain⟨m,o⟩:=g;have m:=bt m;have o:=lB o;obtain⟨l,u,w⟩:=IA p e z (lX d (i*e) f) k h;refine⟨l,u,?_⟩;obtain⟨v,t⟩:=pv x;have y:a.eval c=(ev b c).v:=p.eq rfl v;simp only[cG,Instr.fill,y,t,C0,dR,m];rw[ae bJ,<-w];congr 1;apply Bb;intro j;have r:=MA (f.map Ce.v) 0 (i*e) (d.map Ce.v).toArray j;rw[<-Z0,YU];have s:=Bm d (i*e) f j o;rw[show((List.map Ce.v (lX d (i*e) f)).toArray)[j]? =((lX d (i*e) f)[j]?).map Ce.v by simp,s];rw[r];simp;split<;>split<;>first|rfl|(exfalso;omega)|(congr 1;omega)
  ·exact h.elim
def IJ(B:ua d T)(E:jU n b a)(O:Bx n b m){j:Nat}{z:Array (Nat×Operand)}(o:wr d T G n b m e f k (.buildSlice t j z)):EG d n a m ⟨e,.buildSlice t j z,f,i,g,h⟩ k:=by
 intro q W ae aa R
 subst W;simp only[wr]at o;split at o
 ·rename_i M sh ab U;split at o
  ·rename_i p I;cases r:(p.ui||!(Nat.ble (j*p.sh.length) 16777216))
   ·rw[r]at o;simp only[bz,Z1]at r;have ac:=lB r.2;have J:=(jY (B.xY U)).1;obtain⟨L,X,Y,ad⟩:=vP B I r.1;have H:=λq=>j9 B I r.1 q;obtain⟨l,y,s⟩:=IA E _ _ _ _ o;cases C:EU b l with
    |none=>rw[C]at y;exact y.elim
    |some u=>
    rw[C]at y;obtain⟨Q,P⟩:=p7 C E O;refine jF (w:=q) (c:=.c (.s (.mk q.heap.size 0 j j))) (v:=.slice (some ⟨q.heap.size,0,none⟩) j j) (b:={q with heap:=q.heap.push (.cells (bG l) M)}) Q (P.push _) rfl ⟨rfl,rfl,rfl⟩ y ?_ R;have F:(z.map λu=>(u.1,a.eval u.2)).toList=z.toList.map λu=>(u.1,a.eval u.2):=D;have Z:L.cells.toList=(p.sh.map Sh.zero).map Ce.v:=by simp[X]
    have K:(p.sh.map Sh.zero).length=p.sh.length:=D;have jg:=Ic (p.sh.map Sh.zero) L.cells Z j;rw[K]at jg;by_cases A:j*p.sh.length=0
    ·have S:ni (p.sh.map Sh.zero) j=[]:=by
      apply List.length_eq_zero_iff.1;rw[rq,K,A]
     rw[S]at s;simp only[execOp,Instr.buildSlice,Sem.run_bind,run_underlying J,Result.andThen_ok,H,A];simp only[F];have N:(Array.map (λc=>(default:Value)) (Array.range 0))=#[]:=D;simp at s⊢;rw[N,s];simp[newRow,bG]
    ·simp only[execOp,Instr.buildSlice,Sem.run_bind,run_underlying J,Result.andThen_ok,H,A,rB];have:¬(j*p.sh.length>2^24):=V;simp only[this,rB,Y,Sem.run_bind,Sem.run_pure,Result.andThen_ok,F];rw[jg];simp only[bG]at s⊢;simp[s,newRow]
   ·rw[r]at o;exact o.elim
  ·exact o.elim
 ·exact o.elim
def PV(C:ua d T)(q:jU n b a)(v:Bx n b m){c y:Operand}(j:wr d T G n b m e f k (.store t c y)):EG d n a m ⟨e,.store t c y,f,i,g,h⟩ k:=by
 intro w R Y W K
 subst R;simp only[wr]at j;split at j
 ·rename_i l s I Q;cases o:(s.ui||!(Nat.beq l.length s.sh.length))
  ·rw[o]at j;simp only[mC]at j;simp only[bz,Z1]at o;split at j
   ·rename_i X E;obtain⟨B,z⟩:=p7 E q v;obtain⟨u,p,r,A,x,S,L,F⟩:=Pq B z j;have J:=bt o.2;obtain⟨H,D⟩:=pv I;have O:=λw=>j9 C Q o.1 w;unfold Oper.wp;have M:(execOp a.eval ⟨e,.store t c y,f,i,g,h⟩).run d w=.ok .skip (w.setCells p r (l.map Ce.v)):=by
     have N:=DE (d:=d) l p r w L;have U:a.eval c=.pointer (some ⟨p,r,none⟩):=S _ (q.ev c);have V:(a.eval y).cells=(l.map Ce.v).toArray:=by rw[q.eq rfl H,D]
     simp only[execOp,Instr.storeAt,U,Instr.sureAddr,storeVar,Sem.run_bind,Sem.run_pure,Result.andThen_ok,O,V,C0,dR,J];simp[N]
    rw[M];exact K u .un undef _ (by rw[kM];exact F) A (by rw[kM];exact x) rfl (qM _ _ _ _)
   ·exact j.elim
  ·rw[o]at j;exact j.elim
 ·exact j.elim
end
end Go.Vc
end
section
namespace Go.Vc
variable{b y f:Operand}{t:TypeId}{e:Array TypeId}
variable{c:Program}{T:TT}{G:List Nat}
section
variable{n:Nat}{g:Fr}{a:Act}{m:I}{k:Fr->SV->I->Prop}{i:Option Tmp}{h:TypeId}{o:String}{j:Array Edge}{l:Option (Nat×Bool)}
def Oa{b:Int}(e: -9223372036854775808<=b)(f:b<=9223372036854775807):IntKind.i64.wrap b=b:=by
 have a:((2:Int)^IntKind.i64.bits)=18446744073709551616:=bh;have c:((2:Int)^(IntKind.i64.bits -1))=9223372036854775808:=bh;have d:IntKind.i64.signed=true:=rfl;simp only[IntKind.wrap,a,c,d,MW,au];split<;>omega
def aQ{b:Int}(a: -9223372036854775808<=b)(c:b<=9223372036854775807):cW b=b:=Oa a c
def J4(s:ua c T)(u:jU n g a)(H:Bx n g m)(e:wr c T G n g m i h k (.makeSlice t b y)):EG c n a m ⟨i,.makeSlice t b y,h,o,j,l⟩ k:=by
 intro q W ai ae K
 subst W;simp only[wr]at e;split at e
 ·rename_i E sh af p d R Z hy;split at e
  ·rename_i f z;cases r:f.ui
   ·rw[r]at e;obtain⟨h0,h1,h2,h3,J⟩:=e;have U:=(jY (s.xY R)).1;obtain⟨C,hz,ac,ah⟩:=vP s z r;obtain⟨ti,I,ag,S,_⟩:=Fy s z r;have Q:=λq=>j9 s z r q;refine jF (w:=q) (c:=.c (.s (.mk q.heap.size 0 p.toNat d.toNat))) (v:=.slice (some ⟨q.heap.size,0,none⟩) p.toNat d.toNat) (b:={q with heap:=q.heap.push (.cells (bG (ni (f.sh.map Sh.zero) d.toNat)) E)}) u (H.push _) rfl ⟨rfl,rfl,rfl⟩ J ?_ K;have ad:C.cells.toList=(f.sh.map Sh.zero).map Ce.v:=by simp[hz]
    have B:(f.sh.map Sh.zero).length=f.sh.length:=D;have jg:=Ic (f.sh.map Sh.zero) C.cells ad d.toNat;rw[B]at jg;have aa:a.eval b=.int .i64 p:=u.eq Z rfl;have ab:a.eval y=.int .i64 d:=u.eq hy rfl;have Y:IntKind.i64.wrap p=p:=Oa V V;have X:IntKind.i64.wrap d=d:=Oa V V;have L:¬d<0:=V;have M:¬((f.bytes:Int)*d>2^48):=by
     have:(2:Int)^48=281474976710656:=bh;omega
    have N:¬p<0:=V;have O:¬p>d:=V;simp only[execOp,Instr.makeSlice,Sem.run_bind,run_underlying U,Result.andThen_ok,asInt,asIntOf,aa,ab,Sem.run_pure,S,Y,X,I];simp only[L,M,N,O,decide_false,UD,iT,rB];simp only[Sem.run_bind,Sem.run_pure,Result.andThen_ok,run_askRoom,Q];by_cases A:d.toNat*f.sh.length=0
    ·have P:ni (f.sh.map Sh.zero) d.toNat=[]:=by
      apply List.length_eq_zero_iff.1;rw[rq,B,A]
     rw[P];have F:(Array.map (λb=>(default:Value)) (Array.range 0))=#[]:=D;simp[A,newRow,bG];rw[F]
    ·simp only[A,rB,Sem.run_bind,ac,Result.andThen_ok,Sem.run_pure];rw[jg];simp[newRow]
   ·rw[r]at e;exact e.elim
  ·exact e.elim
 ·exact e.elim
def J7:∀{c:List Sh}{k:List Ce->Prop},Tx c k->∃l,k l
 |[],_,h=>⟨_,h⟩
 |_::_,_,⟨b,h⟩=>let⟨_,a⟩:=J7 h;⟨_,a⟩
def EV:∀{e:List Nat}{k:List AV->Prop},Ro T e k->∃l,k l
 |[],_,h=>⟨_,h⟩
 |t::e,k,h=>by
  simp only[Ro]at h;split at h
  ·obtain⟨l,c⟩:=J7 h;obtain⟨d,a⟩:=EV c;exact⟨_,a⟩
  ·obtain⟨b,c⟩:=h;obtain⟨d,a⟩:=EV c;exact⟨_,a⟩
  ·obtain⟨b,c⟩:=h;obtain⟨d,a⟩:=EV c;exact⟨_,a⟩
  ·exact h.elim
def Rz{t:Nat}{v:Value}{k:SV->Prop}(h:Pd T t v k):∃b:SV,b.Is v/\k b:=by
 unfold Pd at h;split at h
 ·exact⟨.fP,trivial,h⟩
 ·obtain⟨l,c,a⟩:=EV h;exact⟨.Wr l,c,a⟩
 ·obtain⟨l,c,a⟩:=J7 h;exact⟨.agg l,c,a⟩
 ·rename_i s _ _;obtain⟨b,c,a⟩:=h;exact⟨.c (s.mk b),c,a⟩
 ·obtain⟨b,c,a⟩:=h;exact⟨.c (.s b),c,a⟩
 ·exact h.elim
def J3(z:TH c G)(A:jU n g a){q:Fr}(B:jU n q a)(y:Bx n q m){d:Array Operand}{p:Nat}{first s:Array Value}(E:a.eval f=.func (.func p) first s)
 (H:G.elem p=true)(J:d.toList.all (λb=>(ev g b).jx)=true)
 (x:aO c p (first.toList++(d.toList.map λb=>(ev g b).v)++s.toList) m λv r=>zS (Lt n q []) m r (Pd T h v λb=>k q b r)):
 EG c n a m ⟨i,.call ⟨.value f,d,e⟩,h,o,j,l⟩ k:=by
 intro w O V R K
 subst O
 have r:GJ c p=true:=List.all_eq_true.1 z p (by simpa using H)
 have C:d.map a.eval=(d.toList.map λb=>(ev g b).v).toArray:=by
  apply Array.toList_inj.1;simp[<-Bi A J]
 unfold GJ at r
 split at r
 ·rename_i u F
  simp only[bM,iv]at r
  have D:u.body.isNone=false:=by cases U:u.body<;>simp_all
  have L:(execOp a.eval ⟨i,.call ⟨.value f,d,e⟩,h,o,j,l⟩).run c w=
   .ok (.enter p (first.toList++(d.toList.map λb=>(ev g b).v)++s.toList).toArray) w:=by
   simp only[execOp,resolve,E,C,Deferred.ofValue,Sem.run_bind,Sem.run_pure,Result.andThen_ok,invoke,callFunc,run_program,F,r.1,D,iT,rB]
   simp
  unfold Oper.wp
  rw[L]
  show Calls c p _ w _
  refine(x w rfl).mono ?_
  rintro S Q ⟨v,rfl,M,t⟩
  obtain⟨N,t⟩:=mq t
  obtain⟨b,P,I⟩:=Rz t
  exact K q b v Q I B (y.dm N) P M
 ·simp at r
def Rm(v:TH c G)(q:jU n g a)(y:Bx n g m){r:Array Operand}(d:wr c T G n g m i h k (.call ⟨.value f,r,e⟩)):EG c n a m ⟨i,.call ⟨.value f,r,e⟩,h,o,j,l⟩ k:=by
 simp only[wr,Si]at d;split at d
 ·exact d.elim
 rename_i D z;obtain⟨w,u⟩:=p7 z q y;split at d
 ·rename_i s first x t
  cases p:(G.elem s&&r.toList.all (λb=>(ev g b).jx))
  ·rw[p]at d;exact d.elim
  ·rw[p]at d;simp only[bM]at p;exact J3 v q w u (q.eq t rfl) p.1 p.2 d
 ·rename_i x t;cases p:(r.toList.all (λb=>(ev g b).jx))
  ·rw[p]at d;exact d.elim
  ·rw[p]at d;obtain⟨s,A,B,d⟩:=d;have C:a.eval f=.func (.func s) x.2.1 x.2.2:=by
    rw[<-A];exact q.eq t rfl
   exact J3 v q w u C B p d
 ·exact d.elim
def sj(a:c.underlying t=some (.int .i64))(e:Bool)(b:Int)(w:World):(Instr.checkKey e 10000 t (.int .i64 b)).run c w=.ok () w:=by
 have:Instr.checkKey e 10000 t (.int .i64 b)=Instr.checkKey e (9999+1) t (.int .i64 b):=rfl;rw[this];generalize 9999=d;simp[Instr.checkKey,run_underlying a]
def zo(b:Int):∀(a:List MapEntry)(l:List (Int×Int))(i:Nat),a.map (λe=>(e.key,e.val))=l.map (λp=>(Value.int .i64 p.1,Value.int .i64 p.2))->
 (Instr.findNow (.int .i64) (.int .i64 b) a i=some none/\uQ l b=0/\(∀v,IU l b v=l++[(b,v)]))\/
 ∃j u,Instr.findNow (.int .i64) (.int .i64 b) a i=some (some (i+j,.int .i64 u))/\uQ l b=u/\j<a.length/\l[j]? =some (b,u)/\∀v,IU l b v=l.set j (b,v)
 |[],[],i,_=>Or.inl ⟨rfl,rfl,λv=>rfl⟩
 |[],_::_,i,h=>by simp at h
 |_::_,[],i,h=>by simp at h
 |e::a,(j,u)::l,i,h=>by
  simp only[cG,List.cons.injEq,MZ]at h;obtain⟨⟨r,s⟩,h⟩:=h;have k:Instr.sameNow (.int .i64) (.int .i64 b) e.key=some (b==j):=by rw[r];simp[Instr.sameNow]
  by_cases c:b=j
  ·subst c;refine Or.inr ⟨0,u,?_,?_,D,D,?_⟩
   ·simp[Instr.findNow,k,s]
   ·simp[uQ]
   ·intro v;simp[IU]
  ·have m:(b==j)=false:=by simpa using c
   rcases zo b a l (i+1) h with⟨d,f,g⟩|⟨q,t,d,f,g,o,p⟩
   ·refine Or.inl ⟨?_,?_,?_⟩
    ·simp[Instr.findNow,k,m,d]
    ·simp[uQ,c,f]
    ·intro v;simp[IU,c,g]
   ·refine Or.inr ⟨q+1,t,?_,?_,by simpa using g,by simpa using o,?_⟩
    ·have n:i+1+q=i+(q+1):=V;simp[Instr.findNow,k,m,d,n]
    ·simp[uQ,c,f]
    ·intro v;simp[IU,c,p]
def No(f:jU n g a)(e:Bx n g m){r:Option Operand}(d:wr c T G n g m i h k (.makeMap t r)):EG c n a m ⟨i,.makeMap t r,h,o,j,l⟩ k:=by
 intro b q s Q p
 subst q;cases r with
 |some r=>exact d.elim
 |none=>
  refine jF (w:=b) (c:=.c (.mp b.heap.size)) (v:=.map (some b.heap.size)) (b:={b with heap:=b.heap.push (.map #[] 0)}) f (e.push _) rfl ⟨rfl,rfl,rfl⟩ d ?_ p;simp[execOp,Instr.makeMap]
def OF(u:ua c T)(s:jU n g a)(M:Bx n g m){A:Bool}(d:wr c T G n g m i h k (.lookup t b y A)):EG c n a m ⟨i,.lookup t b y A,h,o,j,l⟩ k:=by
 intro e X ag ad U
 subst X;cases A with
 |true=>exact d.elim
 |false=>
  simp only[wr]at d;split at d
  ·rename_i kt et sh ae C p W Y Z;split at d
   ·rename_i b1 b2 S Q;obtain⟨z,⟨D,K,P,O⟩,R⟩:=d;have H:=(Bu (u.xY W)).1;obtain⟨⟨L,f,F⟩,_⟩:=nQ (u.xY S);have N:L=.int .i64:=by
     unfold zL at F;split at F<;>simp_all
    subst N;obtain⟨B,hz,ac,ab⟩:=vP u Q rfl;have aa:B=.int .i64 0:=by
     have:B.cells.toList=[Value.int .i64 0]:=hz;have V:=ab rfl;cases B<;>first|(simp[Value.cells]at this;done)|(simp[Value.cells]at this;rw[this.1,this.2])|exact absurd rfl (V _)
    have I:a.eval b=.map (some C):=s.eq Y rfl;have J:a.eval y=.int .i64 p:=s.eq Z rfl;have E:(getObj C).run c e=.ok (.map D K) e:=by simp[getObj,Sem.run,P]
    refine jF (w:=e) (c:=.c (.i (uQ z p))) (v:=.int .i64 (uQ z p)) (b:=e) s M rfl (od.aB e) R ?_ U;rcases zo p D.toList z 0 O with⟨q,r,_⟩|⟨af,ah,q,r,_⟩
    ·simp[execOp,Instr.lookup,run_underlying H,I,J,E,sj f,Instr.findKey,run_underlying f,q,ac,aa,r]
    ·simp[execOp,Instr.lookup,run_underlying H,I,J,E,sj f,Instr.findKey,run_underlying f,q,r]
   ·exact d.elim
  ·exact d.elim
def J5(N:ua c T)(s:jU n g a)(M:Bx n g m){z:Operand}(r:wr c T G n g m i h k (.mapUpdate t b y z)):EG c n a m ⟨i,.mapUpdate t b y z,h,o,j,l⟩ k:=by
 intro w hw ak ai S
 subst hw;simp only[wr]at r;split at r
 ·rename_i kt et sh aj e d v ht hx hy hz;split at r
  ·rename_i b1 ag;obtain⟨aa,⟨p,q,H,A⟩,R⟩:=r;have W:=(Bu (N.xY ht)).1;obtain⟨⟨ab,x,U⟩,_⟩:=nQ (N.xY ag);have ac:ab=.int .i64:=by
    unfold zL at U;split at U<;>simp_all
   subst ac;have X:a.eval b=.map (some e):=s.eq hx rfl;have Y:a.eval y=.int .i64 d:=s.eq hy rfl;have Z:a.eval z=.int .i64 v:=s.eq hz rfl;have P:(getObj e).run c w=.ok (.map p q) w:=by simp[getObj,Sem.run,H]
   have V:∀K,(setObj e K).run c w=.ok () {w with heap:=w.heap.setIfInBounds e K}:=λK=>by simp[setObj,Sem.run,H]
   have O:e<w.heap.size:=(Array.getElem?_eq_some_iff.1 H).1;unfold Oper.wp;rcases zo d p.toList aa 0 A with⟨E,h2,F⟩|⟨f,al,E,h2,F,L,h5⟩
   ·have J:(execOp a.eval ⟨i,.mapUpdate t b y z,h,o,j,l⟩).run c w=.ok .skip {w with heap:=w.heap.setIfInBounds e (.map (p.push {key:=.int .i64 d,val:=.int .i64 v,born:=q}) (q+1))}:=by
     simp[execOp,Instr.mapUpdate,run_underlying W,X,Y,Z,P,sj x,Instr.findKey,run_underlying x,E,V]
    rw[J];have u:=mq (R {w with heap:=w.heap.setIfInBounds e (.map (p.push {key:=.int .i64 d,val:=.int .i64 v,born:=q}) (q+1))}.heap ?_ D ?_)
    ·exact S g .un undef _ u.2 s (M.dm u.1) rfl ⟨rfl,rfl,rfl⟩
    ·refine⟨_,_,by simp[O];exact⟨rfl,rfl⟩,?_⟩;rw[F];simp[A]
    ·intro f I;simp[jJ (kd I)]
   ·have af:(p[f]?).map (·.key)=some (.int .i64 d):=by
     have:=ry (λB=>(B[f]?).map (·.1)) A;simpa[L]using this
    have ah:(Instr.keyThatStays (.int .i64 d) (.int .i64 d)).run c w=.ok (.int .i64 d) w:=by
     simp[Instr.keyThatStays,Instr.sameBits]
    have J:(execOp a.eval ⟨i,.mapUpdate t b y z,h,o,j,l⟩).run c w=.ok .skip {w with heap:=w.heap.setIfInBounds e (.map (p.modify f λC=>{C with key:=.int .i64 d,val:=.int .i64 v}) q)}:=by
     simp only[execOp,Instr.mapUpdate,run_underlying W,X,Y,Z,P,sj x,Instr.findKey,run_underlying x,E,Sem.run_bind,Result.andThen_ok,Sem.run_pure,cC,af,vh,ah,V]
    rw[J];have u:=mq (R {w with heap:=w.heap.setIfInBounds e (.map (p.modify f λC=>{C with key:=.int .i64 d,val:=.int .i64 v}) q)}.heap ?_ D ?_)
    ·exact S g .un undef _ u.2 s (M.dm u.1) rfl ⟨rfl,rfl,rfl⟩
    ·refine⟨_,_,by simp[O];exact⟨rfl,rfl⟩,?_⟩;rw[h5];apply iy;intro B;have C:=ry (λ(q':List (Value×Value))=>q'[B]?) A;simp only[cQ]at C;simp only[cQ,jt,WM,lz]at C⊢;by_cases Q:f=B
     ·subst Q;have ae:f<aa.length:=(List.getElem?_eq_some_iff.1 L).1;have ad:f<p.size:=by simpa using F
      simp[ae,ad]
     ·simp only[Q,rB];exact C
    ·intro f I;simp[jJ (kd I)]
  ·exact r.elim
 ·exact r.elim
def tg(l:List Ce)(z:O)(a f:Nat)(d:l.length=a*f)(w:World)(h:fN w.heap z.F z.off l)(e:a<=z.len):
 (Builtin.firstCells f a z.v).run c w=.ok (bG l) w:=by
 cases z with
 |nil=>
  have b:a=0:=by simp at e;omega
  have:l=[]:=List.length_eq_zero_iff.1 (by rw[d,b];simp)
  subst this
  simp[Builtin.firstCells,O.v,bG]
 |zn g i j=>
  have b:a=0:=by simp at e;omega
  have:l=[]:=List.length_eq_zero_iff.1 (by rw[d,b];simp)
  subst this
  simp[Builtin.firstCells,O.v,bG,b,loadCells,loadCellsFrom]
 |mk b o i g=>
  simp only[Builtin.firstCells,O.v,<-d]
  exact Pf l b o w h
def Ob(a:List Ce)(z:Array Value)(b:z.toList=a.map Ce.v)(n:Nat):Builtin.zeroCells z n=bG (ni a n):=by
 have c:z.size=a.length:=by rw[<-YT,b];simp
 rw[<-Ic a z b n,Builtin.zeroCells,c]
def Pv(l r:List Ce):bG (l++r)=bG l++bG r:=by simp[bG]
def OE(I:ua c T)(E:jU n g a)(M:Bx n g m){aa:Array Operand}(q:wr c T G n g m i h k (.call ⟨.builtin .append,aa,e⟩)):EG c n a m ⟨i,.call ⟨.builtin .append,aa,e⟩,h,o,j,l⟩ k:=by
 intro d hw aN aG Q
 subst hw;simp only[wr]at q;split at q
 ·rename_i b y t aF an aB;split at q
  ·rename_i B sh aH e2 aO aI s z ht aC hx hy;split at q
   ·rename_i f af;cases u:(f.ui||Nat.beq f.bytes 0)
    ·rw[u]at q;simp only[bz]at u;obtain⟨A,R,av,ai,aj⟩:=q;have e1:aa=#[b,y]:=Array.toList_inj.1 (by simpa using an);have am:e=#[t,aF]:=Array.toList_inj.1 (by simpa using aB);subst e1;subst am;have W:=(jY (I.xY ht)).1;have X:=(jY (I.xY aC)).1;obtain⟨zv,hz,al,aM⟩:=vP I af u.1;obtain⟨ti,hb,aL,ag,_⟩:=Fy I af u.1;have U:=λd=>j9 I af u.1 d;have Y:a.eval b=s.v:=E.eq hx rfl;have Z:a.eval y=z.v:=E.eq hy rfl;have H:(Builtin.lenOf z.v).run c d=.ok z.len d:=by cases z<;>simp[Builtin.lenOf,O.v,O.len]
     have ak:(f.sh.map Sh.zero).length=f.sh.length:=D;rw[ak]at R;simp only[ak]at ai aj;have N:∀r:World,r.heap=d.heap->(Builtin.firstCells f.sh.length z.len z.v).run c r=.ok (bG A) r:=λr ah=>
      tg A z z.len f.sh.length R r (by rw[ah];exact av) (ad _)
     have aA:=s.Ws;by_cases F:s.len+z.len<=s.cap
     ·obtain⟨S,p⟩:=ai F;cases s with
      |nil=>
       simp only[O.NC,O.TS]at F S p;have K:z.len=0:=V;have:A=[]:=List.length_eq_zero_iff.1 (by rw[R,K];simp);subst this;obtain⟨ac,p⟩:=mq p;refine jF (w:=d) (c:=.c (.s .nil)) (v:=.slice none 0 0) (b:=d) E M rfl (od.aB d) p ?_ Q;have J:a.eval b=.slice none 0 0:=Y;have C:=N d rfl;simp only[execOp,resolve,Sem.run_bind,Sem.run_pure,Result.andThen_ok,invoke,builtin,Builtin.append_,mV,cG,fq,J,Z];rw[K]at H C;simp[run_underlying W,run_underlying X,U,H,C]
      |zn L o0 sp=>
       simp only[O.QX,O.TR]at F S p;have K:z.len=0:=V;have:A=[]:=List.length_eq_zero_iff.1 (by rw[R,K];simp);subst this;obtain⟨ac,p⟩:=mq p;refine jF (w:=d) (c:=.c (.s (.zn L o0 sp))) (v:=.slice (some ⟨L,o0,some sp⟩) 0 0) (b:=d) E M rfl (od.aB d) p ?_ Q;have J:a.eval b=.slice (some ⟨L,o0,some sp⟩) 0 0:=Y;have C:=N d rfl;simp only[execOp,resolve,Sem.run_bind,Sem.run_pure,Result.andThen_ok,invoke,builtin,Builtin.append_,mV,cG,fq,J,Z];rw[K]at H C;simp[run_underlying W,run_underlying X,U,H,C,bG,storeCells]
      |mk C L K ab=>
       simp only[O.iE,O.Nm,O.jm,O.ta]at F S p;obtain⟨ac,p⟩:=mq p;refine jF (w:=d) (c:=.c (.s (.mk C L (K+z.len) ab))) (v:=.slice (some ⟨C,L,none⟩) (K+z.len) ab) (b:=d.setCells C (L+K*f.sh.length) (A.map Ce.v)) E (by rw[kM];exact M.dm ac) rfl (qM _ _ _ _) (by rw[kM];exact p) ?_ Q;have ao:=DE (d:=c) A C (L+K*f.sh.length) d S;have J:a.eval b=.slice (some ⟨C,L,none⟩) K ab:=Y;simp only[execOp,resolve,Sem.run_bind,Sem.run_pure,Result.andThen_ok,invoke,builtin,Builtin.append_,mV,cG,fq,J,Z];simp[run_underlying W,run_underlying X,U,H,F,N d rfl,vt,bG,ao]
     ·obtain⟨ao,old,ax,az,p⟩:=aj V;have aJ:=growslice_fits (need:=s.len+z.len) (old:=s.cap) (bytes:=f.bytes) V ao;have S:f.bytes≠0:=λB=>by rw[B]at u;simp at u
      have aK:¬(((s.len+z.len:Nat):Int)>IntKind.i64.max/\f.bytes=0):=λhh=>S hh.2;have ay:∀r:World,r.heap=d.heap->(Builtin.firstCells f.sh.length s.len s.v).run c r=.ok (bG old) r:=λr ah=>
       tg old s s.len f.sh.length ax r (by rw[ah];exact az) (ad _)
      let K:Question:=.appendCap (s.len+z.len) s.cap B;let C:=K.cut (d.tape d.drawn K);let L:World:={d with drawn:=d.drawn+1};have ar:s.len+z.len<=C:=Nat.le_add_right _ _;refine jF (w:=d) (c:=.c (.s (.mk d.heap.size 0 (s.len+z.len) C))) (v:=.slice (some ⟨d.heap.size,0,none⟩) (s.len+z.len) C)
       (b:={L with heap:=d.heap.push (.cells (bG (old++A++ni (f.sh.map Sh.zero) (C -(s.len+z.len)))) B)}) E (M.push _) rfl ⟨rfl,rfl,rfl⟩ (mq (p C ar)).2 ?_ Q
      have aE:zv.cells.toList=(f.sh.map Sh.zero).map Ce.v:=by simp[hz]
      have ac:=Ob (f.sh.map Sh.zero) zv.cells aE (C -(s.len+z.len));have ap:K.forced=false:=rfl;have au:¬(Builtin.nextslicecap (s.len+z.len) s.cap*f.bytes>2^48):=by
       have:(2:Nat)^48=281474976710656:=bh;omega
      simp only[execOp,resolve,Sem.run_bind,Sem.run_pure,Result.andThen_ok,invoke,builtin,Builtin.append_,mV,cG,fq,Y,Z];have J:=ay L rfl;have ab:=N L rfl;rw[aA]at J⊢;simp only[lA,sa,gR,Sem.run_bind,run_underlying W,run_underlying X,Result.andThen_ok,U,Sem.run_pure,H,iT,rB,F,ag,hb,false_or];simp only[S,and_false,rB,au,Sem.run_bind,run_choose,ap,iT,Result.andThen_ok,ag,run_askRoom,J,Lm,PF,ab,al,ac,newRow,run_newObj,Sem.run_pure];simp[Pv];rw[hb,ae V,ae (show¬(Question.appendCap (s.len+z.len) s.cap B).forced=true by simp[Question.forced])];have aw:(Builtin.firstCells f.sh.length s.len (Value.slice s.bY s.len s.cap)).run c d.drew=.ok (bG old) d.drew:=J;have aq:(Builtin.firstCells f.sh.length z.len z.v).run c d.drew=.ok (bG A) d.drew:=ab;simp only[ag,Result.andThen_ok,aw,aq,al];have aD:Builtin.zeroCells zv.cells ((Question.appendCap (s.len+z.len) s.cap B).cut (d.tape d.drawn (Question.appendCap (s.len+z.len) s.cap B)) -(s.len+z.len))=bG (ni (f.sh.map Sh.zero) (C -(s.len+z.len))):=ac;rw[aD];rfl
    ·rw[u]at q;exact q.elim
   ·exact q.elim
  ·exact q.elim
 ·exact q.elim
end
end Go.Vc
end
section
namespace Go.Vc
variable{b:Program}{T:TT}{G:List Nat}
section
variable{n:Nat}{c:Fr}{a:Act}{m:I}{k:Fr->SV->I->Prop}{d:Option Tmp}{e:TypeId}{h:String}{f:Array Edge}{g:Option (Nat×Bool)}
def Rn(N:ua b T)(t:jU n c a)(V:Bx n c m){r:Array Operand}{L:Array TypeId}(i:wr b T G n c m d e k (.call ⟨.builtin .copy,r,L⟩)):EG b n a m ⟨d,.call ⟨.builtin .copy,r,L⟩,e,h,f,g⟩ k:=by
 intro j hw ai af X
 subst hw;simp only[wr]at i;split at i
 ·rename_i q S ae aj W ac;split at i
  ·rename_i ah sh ag s z ht hx hy;split at i
   ·rename_i K ab;cases u:K.ui
    ·rw[u]at i;obtain⟨o,C,Y,Z,y⟩:=i;obtain⟨aa,y⟩:=mq y;have U:r=#[q,S]:=Array.toList_inj.1 (by simpa using W);subst U;have F:L[0]? =some ae:=by rw[<-WM,ac];rfl
     have H:=(jY (N.xY ht)).1;have E:=λj=>j9 N ab u j;have I:a.eval q=s.v:=t.eq hx rfl;have J:a.eval S=z.v:=t.eq hy rfl;have A:(Builtin.lenOf z.v).run b j=.ok z.len j:=by cases z<;>simp[Builtin.lenOf,O.v,O.len]
     have l:(Builtin.firstCells K.sh.length (Nat.min z.len s.len) z.v).run b j=.ok (bG o) j:=
      tg o z _ K.sh.length C j Y (Nat.min_le_left _ _)
     refine jF (w:=j) (c:=.c (.i (Nat.min z.len s.len:Nat))) (v:=.int .i64 (Nat.min z.len s.len:Nat)) (b:=j.setCells s.F s.off (o.map Ce.v)) t (by rw[kM];exact V.dm aa) rfl (qM _ _ _ _) (by rw[kM];exact y) ?_ X;cases s with
     |nil=>
      have B:Nat.min z.len O.nil.len=0:=D;have:o=[]:=List.length_eq_zero_iff.1 (by rw[C,B];simp);subst this;have p:a.eval q=.slice none 0 0:=I;simp only[O.NC]at l⊢;simp only[execOp,resolve,Sem.run_bind,Sem.run_pure,Result.andThen_ok,invoke,builtin,Builtin.copy_,mV,cG,fq,p,J,F];simp only[lA,sa,gR,Sem.run_bind,run_underlying H,Result.andThen_ok,A,E,l,Sem.run_pure];rfl
     |zn M Q R=>
      have B:Nat.min z.len (O.zn M Q R).len=0:=D;have:o=[]:=List.length_eq_zero_iff.1 (by rw[C,B];simp);subst this;have p:a.eval q=.slice (some ⟨M,Q,some R⟩) 0 0:=I;simp only[O.QX]at l⊢;simp only[execOp,resolve,Sem.run_bind,Sem.run_pure,Result.andThen_ok,invoke,builtin,Builtin.copy_,mV,cG,fq,p,J,F];simp only[lA,sa,gR,Sem.run_bind,run_underlying H,Result.andThen_ok,A,E,l,Sem.run_pure,bG];rfl
     |mk B M ad Q=>
      have R:=DE (d:=b) o B M j Z;have p:a.eval q=.slice (some ⟨B,M,none⟩) ad Q:=I;simp only[O.iE]at l⊢;simp only[execOp,resolve,Sem.run_bind,Sem.run_pure,Result.andThen_ok,invoke,builtin,Builtin.copy_,mV,cG,fq,p,J,F];simp only[lA,sa,gR,Sem.run_bind,run_underlying H,Result.andThen_ok,A,E,l,Sem.run_pure,bG,R];rfl
    ·rw[u]at i;exact i.elim
   ·exact i.elim
  ·exact i.elim
 ·exact i.elim
def Px(o:ua b T)(u:TH b G)(l:jU n c a)(j:Bx n c m)(p:Oper)(i:wr b T G n c m p.dst p.type k p.op):EG b n a m p k:=by
 obtain⟨d,v,e,h,f,g⟩:=p;cases v with
 |alloc t=>exact PU o l j i
 |box t x=>exact So l j i
 |buildSlice t q r=>exact IJ o l j i
 |store t x y=>exact PV o l j i
 |makeSlice t x y=>exact J4 o l j i
 |makeFunc r first q=>exact Ly l j i
 |makeMap t w=>exact No l j i
 |lookup t x y q=>exact OF o l j i
 |mapUpdate t x y z=>exact J5 o l j i
 |call r=>
  obtain⟨s,t,x⟩:=r;cases s with
  |builtin q=>
   cases q with
   |append=>exact OE o l j i
   |copy=>exact Rn o l j i
   |_=>exact i.elim
  |value q=>exact Rm u l j i
  |invoke w q=>exact i.elim
 |_=>exact i.elim
end
end Go.Vc
end
section
namespace Go.Vc
variable{b:Array Bool}{j:Nat}{L:List (Nat×(World->Prop))}{a:Act}{w:World}
section
variable{P:Program}{c:Array Oper}{Q:Exit->Act->World->Prop}{d:Region.Mode}{e:Nat->Nat->Bool}
def vf(P:Program)(d:Region.Mode)(c:Array Oper)(Q:Exit->Act->World->Prop)(e:Nat->Nat->Bool)(L:List (Nat×(World->Prop))):Nat->Array Bool->Act->World->Prop
 |0,b,a,w=>Region.ready d c b=[]/\Q .normal a w
 |h+1,b,a,w=>
  (Region.ready d c b=[]->Q .normal a w)/\
  ∀i∈Region.ready d c b,wpOp P c Q i (λg f=>(∀x∈L,e i x.1=false->x.2 w->x.2 f)/\vf P d c Q e L h (b.setIfInBounds i true) g f) a w
def Lj{L:List (Nat×(World->Prop))}:∀(f:Nat)(b:Array Bool)(a:Act)(w:World),vf P d c Q e L f b a w->wpAny P d c Q f b a w
 |0,_,_,_,h=>h
 |f+1,_,_,_,h=>⟨h.1,λk j=>wpOp_mono (λg l i=>Lj f _ g l i.2) (h.2 k j)⟩
def CZ{L g:List (Nat×(World->Prop))}(j:∀x∈g,x∈L):∀(f:Nat)(b:Array Bool)(a:Act)(w:World),vf P d c Q e L f b a w->vf P d c Q e g f b a w
 |0,_,_,_,h=>h
 |f+1,_,_,_,h=>⟨h.1,λn l=>wpOp_mono (λk o i=>⟨λx m=>i.1 x (j x m),CZ j f _ k o i.2⟩) (h.2 n l)⟩
def Gv(e:Nat->Nat->Bool)(b:Array Bool):Prop:=∀i,b.getD i false=true->∀r,e i r=true->b.getD r false=true
def TC(d:Region.Mode)(c:Array Oper)(e:Nat->Nat->Bool):Prop:=
 ∀(i r:Nat)(o:Oper),c[i]? =some o->e i r=true->∃a∈o.after,Region.binds d a=true/\(a.on=r\/e a.on r=true)
def wS(k:TC d c e)(l:Gv e b)(n:j∈Region.ready d c b){r:Nat}(p:e j r=true):b.getD r false=true:=by
 obtain⟨_,q,o,g⟩:=mem_ready.1 n;obtain⟨f,m,i,h⟩:=k j r q o p;have a:=g f m i;rcases h with rfl|h
 ·exact a
 ·exact l _ a r h
def Gv.set(k:TC d c e)(a:Gv e b)(l:j∈Region.ready d c b):Gv e (b.setIfInBounds j true):=by
 intro i f r h;by_cases g:j=i
 ·subst g;exact getD_set_true (wS k a l h)
 ·rw[getD_set_ne false g]at f;exact getD_set_true (a i f r h)
def Gs{i:Nat}{l:Oper}{F:Value}{S:World->Prop}(I:TC d c e)(C:c[i]? =some l)(O:∀(j:Nat)(R:Oper) q p,c[j]? =some R->R.op≠.select q p)
 (V:∀f a w,Q (.panic f) (a.put l.dst F) w->Q (.panic f) a w):
 ∀(r:Nat)(b:Array Bool)(a:Act)(w:World),Gv e b->
  (∀j m,c[j]? =some m->j≠i->b.getD j true=false->(∀f∈m.after,Region.binds d f=true->f.on≠i)->l.apart c m=true)->
  i∈Region.ready d c b->YieldsIf P c S l F a->S w->
  vf P d c Q e ((i,S)::L) r (b.setIfInBounds i true) (a.put l.dst F) w->vf P d c Q e L (r+1) b a w:=by
 intro r
 induction r with
 |zero=>
  intro b a w _ _ k y x H
  refine⟨λh=>(by rw[h]at k;cases k),λj n=>?_⟩
  by_cases g:j=i
  ·subst g;exact y.wpOp C x ⟨λz _ _ h=>h,H⟩
  ·have:=ready_mono n g
   rw[H.1]at this
   cases this
 |succ r ih=>
  intro b a w J K k y x H
  refine⟨λh=>(by rw[h]at k;cases k),λj n=>?_⟩
  by_cases g:j=i
  ·subst g;exact y.wpOp C x ⟨λz _ _ h=>h,CZ (λz E=>aj _ E) _ _ _ _ H⟩
  ·have u:=H.2 j (ready_mono n g)
   obtain⟨N,m,D,W⟩:=mem_ready.1 n
   have s:b.getD i false=false:=by
    have G:=(mem_ready.1 k).1;rcases be i b.size with A|A
    ·simp[A]at G⊢;exact G
    ·simp[Ie A]
   have ad:∀f∈m.after,Region.binds d f=true->f.on≠i:=λf Y B Z=>by
    have u:=W f Y B;rw[Z,s]at u;cases u
   have X:e j i=false:=by
    cases B:e j i
    ·rfl
    ·have:=wS I J n B;rw[s]at this;cases this
   have U:=wpOp_putIf D (K j m D g N ad) (λq p=>O i l q p C) (λq p=>O j m q p D) V y u
   have aa:∀o t,c[o]? =some t->o≠i->(b.setIfInBounds j true).getD o true=false->
    (∀f∈t.after,Region.binds d f=true->f.on≠i)->l.apart c t=true:=λo t hk ab s ac=>by
    refine K o t hk ab ?_ ac
    by_cases M:j=o
    ·subst M;exact N
    ·rw[getD_set_ne true M]at s;exact s
   refine wpOp_mono (λT w' v=>⟨λz E=>v.2.1 z (aj _ E),
    ih (b.setIfInBounds j true) T w' (J.set I n) aa (ready_mono k (kd g)) v.1 (v.2.1 (i,S) ba X x) ?_⟩) U
   rw[Array.setIfInBounds_comm _ _ g]
   exact v.2.2
def Qz{f:Nat}(k:Region.ready d c b≠[])
 (j:∀i∈Region.ready d c b,wpOp P c Q i (λh g=>(∀x∈L,e i x.1=false->x.2 w->x.2 g)/\vf P d c Q e L f (b.setIfInBounds i true) h g) a w):
 vf P d c Q e L (f+1) b a w:=⟨λg=>absurd g k,j⟩
def Pw(f:Region.ready d c b=[])(h:Q .normal a w):
 ∀g,vf P d c Q e L g b a w
 |0=>⟨f,h⟩
 |_+1=>⟨λ_=>h,by rw[f];simp⟩
end
end Go.Vc
end
