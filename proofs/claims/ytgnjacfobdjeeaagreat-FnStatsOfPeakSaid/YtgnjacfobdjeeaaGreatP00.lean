/- Part of a proof, joined by a program. -/
import Derived.KernelRfl
import Derived.Laws.Append
import Derived.Laws.Cells
import Derived.Laws.Entries
import Derived.Laws.IdiomCopy
import Derived.Orders
import Derived.OrdersHeld
import Derived.Still
import Derived.Tactics
set_option linter.unusedVariables false
set_option linter.unusedSimpArgs false
set_option linter.defProp false
set_option linter.constructorNameAsVariable false
set_option maxHeartbeats 8000000
set_option maxRecDepth 100000
namespace Go.Vc
def ad:=@Nat.le_refl
def ae:=@if_neg
def ai:=@List.mem_cons_of_mem
def ak:=@beq_eq_false_iff_ne
def an:=@if_pos
def au:=@decide_eq_true_eq
def aw:=@List.getElem?_append_left
def aE:=@beq_iff_eq
def aF:=@List.getElem?_append_right
def aO:=@Nat.lt_of_lt_of_le
def aU:=@List.mem_cons
def aX:=@List.mem_cons_self
def aZ:=@List.length_cons
def a8:=@List.length_append
def bo:=@Nat.eq_of_beq_eq_true
def bq:=@Bool.or_eq_false_iff
def bA:=@Nat.lt_or_ge
def bJ:=@List.mem_append_left
def bK:=@Bool.and_eq_true
def bT:=@Bool.or_eq_true
def bU:=@decide_eq_false_iff_not
def bX:=@Nat.le_trans
def cA:=@List.cons_append
def cC:=@Int.le_refl
def cE:=@List.map_cons
def cO:=@Nat.zero_add
def cT:=@List.take_append_drop
def cU:=@List.getElem?_map
def de:=@Classical.byContradiction
def di:=@List.getElem?_eq_none
def dp:=@Nat.mul_le_mul_right
def dt:=@Classical.em
def dD:=@List.append_nil
def dE:=@List.mem_or_eq_of_mem_set
def dL:=@List.length_map
def dN:=@List.nil_append
def dP:=@List.getElem?_take_of_lt
def dQ:=@Nat.add_assoc
def dU:=@Classical.choose_spec
def eA:=@List.getElem?_set_self
def eG:=@List.length_nil
def eM:=@List.getD_eq_getElem?_getD
def eP:=@List.getLast?_eq_some_getLast
def eU:=@List.dropLast_concat_getLast
def eW:=@List.append_assoc
def eX:=@List.map_nil
def eY:=@Nat.zero_le
def fj:=@List.set_cons_zero
def fw:=@List.mem_append_right
def fx:=@List.map_append
def fE:=@List.take_length
def fK:=@List.getElem?_set_ne
def fL:=@List.mem_of_getElem?
def fO:=@List.set_cons_succ
def gq:=@Nat.add_mul
def gE:=@List.getElem?_cons_succ
def gU:=@List.length_take
def gZ:=@bne_eq_false_iff_eq
def ib:=@Bool.not_eq_true'
def iT:=@List.ext_getElem?
def iU:=@List.flatten_cons
def iV:=@List.getElem?_set
def iW:=@Option.map_eq_some_iff
def iX:=@cond_true
def jc:=@Nat.min_eq_left
def jg:=@Array.getElem?_setIfInBounds_ne
def jx:=@Bool.false_eq_true
def jy:=@List.not_mem_nil
def jF:=@Nat.add_zero
def jL:=@List.mem_of_mem_take
def jO:=@List.length_set
def km:=@Ne.symm
def kW:=@List.getElem?_take
def kX:=@Nat.eq_zero_or_pos
def kY:=@Array.getElem?_modify
def kZ:=@List.getElem?_toArray
def k8:=@Nat.le_of_ble_eq_true
def lQ:=@List.findIdx_lt_length_of_exists
def lR:=@List.flatMap_cons
def me:=@cond_false
def ms:=@Array.getElem?_push
def mu:=@List.length_reverse
def mO:=@List.map_toArray
def mP:=@gt_iff_lt
def mV:=@List.take_append_of_le_length
def mW:=@Nat.mul_one
def nk:=@List.mem_singleton
def nl:=@List.take_of_length_le
def nm:=@Nat.lt_of_le_of_lt
def nG:=@Option.map_some
def nZ:=@List.sizeOf_lt_of_mem
def oD:=@Nat.le_succ_of_le
def pA:=@Int.tdiv_eq_ediv_of_nonneg
def pB:=@congrArg
def pC:=@if_false
def pE:=@Nat.succ_mul
def pX:=@List.length_take_le
def pY:=@List.replicate_succ
def qN:=@List.set_eq_of_length_le
def rj:=@List.getElem?_drop
def rE:=@List.getElem?_cons_zero
def tf:=@Int.le_trans
def tg:=@Int.toNat_natCast
def th:=@List.map_set
def tj:=@Nat.le_of_eq
def tm:=@decide_eq_true
def tn:=@not_or
def uL:=@Nat.le_of_not_lt
def uN:=@Option.getD_some
def uO:=@bne_iff_ne
def vY:=@List.mem_of_mem_drop
def xf:=@Bool.eq_iff_iff
def xF:=@List.flatten_append
def yA:=@Array.getD_eq_getD_getElem?
def AB:=@Array.ext_getElem?
def AE:=@or_false
def Ci:=@List.drop_eq_getElem_cons
def CF:=@List.size_toArray
def CG:=@Option.some.injEq
def Fw:=@Nat.add_sub_cancel_left
def Fx:=@ge_iff_le
def Hg:=@Array.getElem?_eq_none
def HI:=@Nat.not_lt_zero
def HJ:=@decide_eq_false
def Ky:=@Bool.not_false
def Kz:=@List.set_append_left
def KA:=@List.take_take
def KB:=@Nat.mul_le_mul
def KE:=@if_true
def Lc:=@List.replicate_zero
def Ld:=@Nat.testBit_two_pow
def LX:=@Bool.not_true
def LY:=@Bool.true_and
def LZ:=@List.all_cons
def Ma:=@List.map_take
def Mb:=@Prod.mk.injEq
def Nu:=@List.set_eq_take_append_cons_drop
def OV:=@List.any_nil
def OW:=@List.reverse_cons
def OX:=@Nat.le_of_lt
def OY:=@Nat.sub_self
def OZ:=@Nat.zero_mul
def PR:=@List.prefix_refl
def Q1:=@List.range_succ
def Q2:=@Option.some.inj
def Q5:=@Iff.rfl
def Q6:=@dif_pos
def Sv:=@List.mapM_cons
def Sw:=@Nat.eq_of_mul_eq_mul_right
def Sx:=@Nat.testBit_or
def SE:=@Array.mapM_eq_mapM_toList
def SF:=@List.exists_mem_of_ne_nil
def TE:=@Array.getElem?_replicate
def TF:=@Bool.false_or
def TG:=@Bool.or_false
def TH:=@List.eq_of_mem_replicate
def VF:=@List.drop_of_length_le
def VG:=@List.map_map
def VH:=@List.mem_map
def VI:=@List.set_set
def VJ:=@Nat.sub_zero
def VV:=@Array.getElem?_toList
def VW:=@List.set_append_right
def VX:=@Nat.ble_eq_true_of_le
def XG:=@Array.length_toList
def XH:=@Array.toList_zipIdx
def XI:=@List.take_succ_cons
def YT:=@Array.foldl_toList
def YU:=@Bool.not_eq_false'
def ZD:=@Function.comp_def
def ZE:=@of_decide_eq_true
def ZU:=@List.countP_cons
def ZV:=@List.flatMap_def
def ZW:=@List.getElem_mem
def ZX:=@List.length_drop
def ZY:=@List.take_append
def ZZ:=@Nat.le_add_right
def Z0:=@exists_eq_or_imp
def Z1:=@forall_eq
def Z2:=@forall_eq_or_imp
def Z5:=@List.findIdx_eq
def Z6:=@List.mem_append
def Z7:=@Nat.testBit_and
theorem dit{p A B:Prop}{i:Decidable p}(f:p->A)(g:¬p->B):(decide p=true->A)/\(decide p=false->B):=⟨λh=>f (ZE h),λh=>g (of_decide_eq_false h)⟩
theorem V{p:Prop}(h:p:=by omega):p:=h
theorem aJ{p:Prop}(h:p:=by simp):p:=h
theorem bh{p:Prop}(h:p:=by decide):p:=h
theorem bR{p:Prop}(h:p:=by simp;omega):p:=h
end Go.Vc
section
namespace Go.Vc
variable{n:Nat}{a:Act}
abbrev J:=Array Obj
def af(m:J)(b o:Nat):Option Value:=
 match m[b]? with
 |some (.cells c _ _)=>c[o]?
 |_=>none
def uY(m:J)(b o:Nat):Bool:=
 match m[b]? with
 |some (.cells _ _ (c,a))=>c<=o&&o<a
 |_=>false
def qE(m:J)(b o:Nat)(v:Value):J:=
 m.modify b λ
  | .cells c e f=>.cells (c.setIfInBounds o v) e f
  |x=>x
def yO(w:World)(b o:Nat):w.cell? ⟨b,o,none⟩=af w.heap b o:=by
 simp only[World.cell?,af];cases h:w.heap[b]? with
 |none=>rfl
 |some x=>cases x<;>simp
def Pk(w:World)(b o:Nat):w.frozen? ⟨b,o,none⟩=uY w.heap b o:=by
 simp only[World.frozen?,uY];cases h:w.heap[b]? with
 |none=>rfl
 |some x=>cases x<;>simp
def MO(w:World)(b o:Nat)(v:Value):(w.setCell ⟨b,o,none⟩ v).heap=qE w.heap b o v:=by
 simp only[World.setCell,qE];congr 1
structure oL(w w':World):Prop where
 os:w'.os=w.os
 tape:w'.tape=w.tape
 output:w'.output=w.output
def oL.az(w:World):oL w w:=⟨rfl,rfl,rfl⟩
def oL.trans{a b c:World}(h:oL a b)(k:oL b c):oL a c:=⟨k.os.trans h.os,k.tape.trans h.tape,k.output.trans h.output⟩
def aL(P:Program)(f:FuncId)(b:List Value)(m:J)(K:Value->J->Prop):Prop:=
 ∀w:World,w.heap=m->Calls P f b.toArray w λe a=>∃v,e=.returned v/\oL w a/\K v a.heap
def aL.mono{P:Program}{f:FuncId}{b:List Value}{m:J}{K a:Value->J->Prop}(h:aL P f b m K)
 (e:∀v c,K v c->a v c):aL P f b m a:=
 λw i=>(h w i).mono λ_ _⟨v,d,g,c⟩=>⟨v,d,g,e _ _ c⟩
inductive O where
 |nil
 |mk (b o len cap:Nat)
 |A2 (b o sp:Nat)
def O.v:O->Value
 | .nil=>.slice none 0 0
 | .mk b o l c=>.slice (some ⟨b,o,none⟩) l c
 | .A2 b o a=>.slice (some ⟨b,o,some a⟩) 0 0
def O.len:O->Nat
 | .nil=>0
 | .mk _ _ l _=>l
 | .A2 _ _ _=>0
def O.cap:O->Nat
 | .nil=>0
 | .mk _ _ _ c=>c
 | .A2 _ _ _=>0
def O.E:O->Nat
 | .nil=>0
 | .mk b _ _ _=>b
 | .A2 b _ _=>b
def O.off:O->Nat
 | .nil=>0
 | .mk _ o _ _=>o
 | .A2 _ o _=>o
@[simp] theorem O.Qh (b o sp:Nat):(O.A2 b o sp).len=0:=rfl
@[simp] theorem O.SZ (b o sp:Nat):(O.A2 b o sp).cap=0:=rfl
@[simp] theorem O.ME:O.nil.len=0:=rfl
@[simp] theorem O.S0:O.nil.cap=0:=rfl
@[simp] theorem O.Xx:O.nil.E=0:=rfl
@[simp] theorem O.XB:O.nil.off=0:=rfl
@[simp] theorem O.jt (b o l c:Nat):(O.mk b o l c).len=l:=rfl
@[simp] theorem O.Mk (b o l c:Nat):(O.mk b o l c).cap=c:=rfl
@[simp] theorem O.jH (b o l c:Nat):(O.mk b o l c).E=b:=rfl
@[simp] theorem O.ze (b o l c:Nat):(O.mk b o l c).off=o:=rfl
def O.Lv:O->Bool
 | .nil=>true
 | .mk _ _ _ _=>false
 | .A2 _ _ _=>false
@[simp] theorem O.VQ:O.nil.Lv=true:=rfl
@[simp] theorem O.VP (b o sp:Nat):(O.A2 b o sp).Lv=false:=rfl
@[simp] theorem O.Wy (b o l c:Nat):(O.mk b o l c).Lv=false:=rfl
def O.ct:O->Option Addr
 | .nil=>none
 | .mk b o _ _=>some ⟨b,o,none⟩
 | .A2 b o a=>some ⟨b,o,some a⟩
def O.VE(s:O):s.v=.slice s.ct s.len s.cap:=by cases s<;>rfl
inductive Ce where
 |i (n:Int)
 |u (k:IntKind) (n:Int)
 |t (x:Bool)
 |s (x:O)
 |p (b o:Nat)
 |pn
 |fn (f:Fn) (first captured:Array Value)
 |fv (q:Fn×Array Value×Array Value)
 |nf
 |Zx (x:ByteArray)
 |mp (b:Nat)
 |mn
 |bp (k b o:Nat)
def Ce.v:Ce->Value
 | .i n=>.int .i64 n
 | .u k n=>.int k n
 | .t x=>.bool x
 | .s x=>x.v
 | .p b o=>.pointer (some ⟨b,o,none⟩)
 | .pn=>.pointer none
 | .fn f a c=>.func f a c
 | .fv q=>.func q.1 q.2.1 q.2.2
 | .nf=>.nilFunc
 | .Zx x=>.string x
 | .mp b=>.map (some b)
 | .mn=>.map none
 | .bp _ b o=>.pointer (some ⟨b,o,none⟩)
inductive AV where
 |c (x:Ce)
 |agg (l:List Ce)
def AV.v:AV->Value
 | .c x=>x.v
 | .agg l=>.agg (l.map Ce.v).toArray
inductive SV where
 |c (x:Ce)
 |tt
 |ff
 |agg (l:List Ce)
 |VD (l:List AV)
 |un
 |fI
 |box (b e:Nat) (l:List Ce)
 |yL (b e:Nat) (l:List Ce)
def SV.v:SV->Value
 | .c x=>x.v
 | .tt=>.bool true
 | .ff=>.bool false
 | .agg l=>.agg (l.map Ce.v).toArray
 | .VD l=>.tuple (l.map AV.v).toArray
 | .un=>undef
 | .fI=>undef
 | .box _ _ _=>undef
 | .yL _ _ _=>undef
def SV.Is:SV->Value->Prop
 | .fI,_=>True
 | .box _ _ _,_=>True
 | .yL _ _ _,_=>True
 |s,v=>v=s.v
def AV.sv:AV->SV
 | .c x=>.c x
 | .agg l=>.agg l
def AV.YQ(x:AV):x.sv.v=x.v:=by cases x<;>rfl
abbrev Fr:=List (Nat×SV)
def gJ:Fr->Nat->SV
 |[],_=>.fI
 |(u,x)::r,t=>bif Nat.beq u t then x else gJ r t
def SV.nb:SV->SV
 | .box _ _ _=>.fI
 | .yL _ _ _=>.fI
 |x=>x
def tr(a:Fr)(d:Option Nat)(x:SV):Fr:=
 match d with
 |some d=>(d,x.nb)::a
 |none=>a
def SV.RY{x:SV}{v:Value}(h:x.Is v):x.nb.Is v:=by
 cases x<;>first|exact h|trivial
def Ce.jZ(x:Ce):x.v.cells=#[x.v]:=by
 cases x with
 |s y=>cases y<;>rfl
 |_=>rfl
def jQ:Value->Option Ce
 | .int .i64 n=>some (.i n)
 | .int k n=>some (.u k n)
 | .bool x=>some (.t x)
 | .slice none 0 0=>some (.s .nil)
 | .pointer none=>some .pn
 | .nilFunc=>some .nf
 | .string x=>some (.Zx x)
 |_=>none
def Lr{x:Value}{c:Ce}(h:jQ x=some c):c.v=x:=by
 unfold jQ at h;split at h<;>simp at h<;>subst h<;>rfl
def oR:List Value->Option (List Ce)
 |[]=>some []
 |v::b=>match jQ v,oR b with
  |some c,some a=>some (c::a)
  |_,_=>none
def Jj:∀{b:List Value}{a:List Ce},oR b=some a->a.map Ce.v=b
 |[],_,h=>by simp[oR]at h;subst h;rfl
 |v::b,a,h=>by
  simp only[oR]at h;split at h
  ·rename_i e f c d;simp at h;subst h;simp[Lr c,Jj d]
  ·simp at h
def Eg:Value->SV
 | .bool true=>.tt
 | .bool false=>.ff
 | .agg a=>match oR a.toList with
  |some l=>.agg l
  |none=>.fI
 | .tuple a=>bif a.toList.isEmpty then .un else .fI
 |v=>match jQ v with
  |some c=>.c c
  |none=>.fI
def Pa(x:Value):(Eg x).Is x:=by
 unfold Eg;split
 ·rfl
 ·rfl
 ·rename_i a;split
  ·rename_i l b;show Value.agg a=.agg (l.map Ce.v).toArray;rw[Jj b]
  ·trivial
 ·rename_i a;cases h:a.toList.isEmpty
  ·trivial
  ·show Value.tuple a=undef;have:a=#[]:=by simpa using h
   rw[this];rfl
 ·split
  ·rename_i c a;exact(Lr a).symm
  ·trivial
def ev(a:Fr):Operand->SV
 | .tmp t=>(gJ a t).nb
 | .const v=>Eg v
 | .global g=>.c (.p g 0)
 | .func f=>.c (.fn (.func f) #[] #[])
structure jz(n:Nat)(fr:Fr)(a:Act):Prop where
 size:a.tmps.size=n
 defers:a.defers=[]
 D:∀t,(gJ fr t).Is (a.tmps.getD t undef)
def jz.ev{b:Fr}(h:jz n b a)(x:Operand):(ev b x).Is (a.eval x):=by
 cases x with
 |tmp t=>exact SV.RY (h.D t)
 |const v=>exact Pa v
 |global g=>rfl
 |func f=>rfl
def jz.put{n:Nat}{b:Fr}{a:Act}(h:jz n b a){d:Option Nat}{x:SV}{v:Value}(g:x.Is v)(hd:∀t,d=some t->t<n):
 jz n (tr b d x) (a.put d v):=by
 cases d with
 |none=>exact h
 |some d=>
  refine⟨by simpa[Act.put]using h.size,h.defers,λt=>?_⟩
  have f:d<a.tmps.size:=by rw[h.size];exact hd d rfl
  simp only[tr,gJ,Act.put]
  by_cases e:d=t
  ·subst e
   simp only[Nat.beq_refl,iX]
   simpa[f]using SV.RY g
  ·have:Nat.beq d t=false:=by
    cases c:Nat.beq d t
    ·rfl
    ·exact absurd (bo c) e
   simp only[this,me]
   have:=h.D t
   simpa[jg e]using this
def jz.cons{b:Fr}(h:jz n b a)(t:Nat){x:SV}(c:∀v,x.Is v):jz n ((t,x)::b) a:=by
 refine⟨h.size,h.defers,λu=>?_⟩;simp only[gJ];cases d:Nat.beq t u
 ·exact h.D u
 ·exact c _
def jz.fI{b:Fr}(h:jz n b a)(t:Nat):jz n ((t,.fI)::b) a:=by
 refine⟨h.size,h.defers,λu=>?_⟩;simp only[gJ];cases c:Nat.beq t u
 ·exact h.D u
 ·trivial
end Go.Vc
end
section
namespace Go.Vc
variable{P:Program}{t b e:Nat}
inductive Sh where
 |I
 |U (k:IntKind)
 |T
 |S
 |P
 |F
 |M
 deriving DecidableEq
abbrev Sh.ty:Sh->Type
 | .I=>Int
 | .U _=>Int
 | .T=>Bool
 | .S=>O
 | .P=>Nat×Nat
 | .F=>Fn×Array Value×Array Value
 | .M=>Nat
abbrev Sh.mk:(s:Sh)->s.ty->Ce
 | .I,n=>.i n
 | .U k,n=>.u k n
 | .T,x=>.t x
 | .S,x=>.s x
 | .P,q=>.p q.1 q.2
 | .F,v=>.fv v
 | .M,b=>.mp b
def Sh.zero:Sh->Ce
 | .I=>.i 0
 | .U k=>.u k 0
 | .T=>.t false
 | .S=>.s .nil
 | .P=>.pn
 | .F=>.nf
 | .M=>.mn
inductive TK where
 |cell
 |slice (elem:Nat)
 |struct (offs:List (Nat×Nat))
 |tuple (ts:List Nat)
 |map (key elem:Nat)
structure TI where
 FW:TK
 sh:List Sh
 bytes:Nat
abbrev TT:=List (Nat×TI)
def fu:TT->Nat->Option TI
 |[],_=>none
 |(u,x)::r,t=>bif Nat.beq u t then some x else fu r t
def MQ:Sh->Value->Bool
 | .I,.int .i64 0=>true
 | .U k,.int a 0=>decide (k=a)
 | .T,.bool false=>true
 | .S,.slice none 0 0=>true
 | .P,.pointer none=>true
 | .F,.nilFunc=>true
 | .M,.map none=>true
 |_,_=>false
def MR{s:Sh}{v:Value}(h:MQ s v=true):v=s.zero.v:=by
 unfold MQ at h;split at h<;>first|rfl|(simp at h;subst h;rfl)|simp at h
def DS:List Value->List Sh->Bool
 |[],[]=>true
 |v::b,s::a=>MQ s v&&DS b a
 |_,_=>false
def AA:∀{b:List Value}{a:List Sh},DS b a=true->b=a.map λs=>s.zero.v
 |[],[],_=>rfl
 |v::b,s::a,h=>by
  simp only[DS,bK]at h;simp[MR h.1,AA h.2]
 |[],_::_,h=>by simp[DS]at h
 |_::_,[],h=>by simp[DS]at h
def LC:List Field->List (Nat×Nat)->Bool
 |[],[]=>true
 |f::a,(o,t)::r=>Nat.beq f.offset o&&Nat.beq f.type t&&LC a r
 |_,_=>false
def JM:∀{a:List Field}{b:List (Nat×Nat)},LC a b=true->a.map (λf=>(f.offset,f.type))=b
 |[],[],_=>rfl
 |f::a,(o,t)::r,h=>by
  simp only[LC,bK]at h;simp[bo h.1.1,bo h.1.2,JM h.2]
 |[],_::_,h=>by simp[LC]at h
 |_::_,[],h=>by simp[LC]at h
def zg:TypeDesc->List Sh->Bool
 | .bool,[.T]=>true
 | .int .i64,[.I]=>true
 | .int k,[.U k']=>decide (k=k')
 | .pointer _,[.P]=>true
 | .func ..,[.F]=>true
 |_,_=>false
def AJ(i:TypeInfo)(a:TI)(b:Bool):Bool:=
 Nat.beq i.size a.sh.length&&Nat.beq i.bytes a.bytes&&
 (match i.zero with
  |some (.agg c)=>b&&DS c.toList a.sh
  |some z=>!b&&DS [z] a.sh
  |none=>false)
def WO(t:Nat):Nat:=t+1000000
def Tc(P:Program)(t:Nat):Bool:=
 match P.underlying t with
 |some (.struct a)=>a.toList.all (λf=>f.name != "_")&&!P.stoodInHeld t&&!P.eqGuardType P.depth t
 |_=>false
def xE(P:Program)(t:Nat)(a:TI):Bool:=
 match a.FW with
 | .tuple _=>if t<1000000 then true else Tc P (t -1000000)
 | .slice e=>match P.info? t,P.underlying t with
  |some i,some (.slice b)=>Nat.beq e b&&AJ i a false
  |_,_=>false
 | .struct d=>match P.info? t,P.underlying t with
  |some i,some (.struct c)=>LC c.toList d&&AJ i a true
  |_,_=>false
 | .map k e=>match P.info? t,P.underlying t with
  |some i,some (.map c b)=>Nat.beq k c&&Nat.beq e b&&AJ i a false
  |_,_=>false
 | .cell=>match P.info? t,P.underlying t with
  |some i,some d=>zg d a.sh&&AJ i a false
  |_,_=>false
def tp(P:Program)(T:TT):Prop:=T.all (λx=>xE P x.1 x.2)=true
def OK:∀{T:TT}{t:Nat}{b:TI},fu T t=some b->(t,b)∈T
 |[],_,_,h=>by simp[fu]at h
 |(u,x)::r,t,b,h=>by
  simp only[fu]at h;cases a:Nat.beq u t
  ·rw[a]at h;exact ai _ (OK h)
  ·rw[a]at h;have:=bo a;simp at h;subst h;subst this;exact aX
def tp.xE{T:TT}(h:tp P T){a:TI}(b:fu T t=some a):xE P t a=true:=
 List.all_eq_true.1 h _ (OK b)
def tp.ZM{T:TT}(h:tp P T){l:List Nat}{c:List Sh}(a:fu T (WO t)=some ⟨.tuple l,c,b⟩):Tc P t=true:=by
 have:=h.xE a;simp only[Go.Vc.xE]at this;rw[ae (by unfold WO;omega),show WO t -1000000=t by unfold WO;omega]at this;exact this
structure IZ(P:Program)(t:Nat)(ti:TI)(agg:Bool):Prop where
 ZO:∃i,P.info? t=some i/\i.size=ti.sh.length/\i.bytes=ti.bytes/\
  ∃z,i.zero=some z/\z.cells.toList=(ti.sh.map λs=>s.zero.v)/\(agg=false->∀cs,z≠.agg cs)
def rQ{g:TI}{i:TypeInfo}{c:Bool}(j:P.info? t=some i)(h:AJ i g c=true):IZ P t g c:=by
 simp only[AJ,bK]at h;refine⟨i,j,bo h.1.1,bo h.1.2,?_⟩;have a:=h.2;split at a
 ·rename_i d b;simp only[bK]at a;exact⟨_,b,by simpa[Value.cells]using AA a.2,λf=>by rw[f]at a;simp at a⟩
 ·rename_i z f b;simp only[bK]at a;refine⟨_,b,?_,λ_ d e=>f d (by rw[e])⟩;have:=AA a.2;rw[<-this];cases z<;>first|rfl|exact(f _ rfl).elim
 ·simp at a
def jD{a:List Sh}(h:xE P t ⟨.slice e,a,b⟩=true):P.underlying t=some (.slice e)/\IZ P t ⟨.slice e,a,b⟩ false:=by
 simp only[xE]at h;split at h
 ·rename_i i f c d;simp only[bK]at h;have:=bo h.1;subst this;exact⟨d,rQ c h.2⟩
 ·simp at h
def AW{k:Nat}{a:List Sh}(h:xE P t ⟨.map k e,a,b⟩=true):P.underlying t=some (.map k e)/\IZ P t ⟨.map k e,a,b⟩ false:=by
 simp only[xE]at h;split at h
 ·rename_i j l i f g;simp only[bK]at h;have c:=bo h.1.1;have d:=bo h.1.2;subst c;subst d;exact⟨g,rQ f h.2⟩
 ·simp at h
def mL{c:List (Nat×Nat)}{d:List Sh}(h:xE P t ⟨.struct c,d,b⟩=true):
 (∃a,P.underlying t=some (.struct a)/\a.toList.map (λf=>(f.offset,f.type))=c)/\IZ P t ⟨.struct c,d,b⟩ true:=by
 simp only[xE]at h
 split at h
 ·rename_i i a e f
  simp only[bK]at h
  exact⟨⟨a,f,JM h.1⟩,rQ e h.2⟩
 ·simp at h
def nF{a:List Sh}(h:xE P t ⟨.cell,a,b⟩=true):
 (∃d,P.underlying t=some d/\zg d a=true)/\IZ P t ⟨.cell,a,b⟩ false:=by
 simp only[xE]at h
 split at h
 ·rename_i i d c e
  simp only[bK]at h
  exact⟨⟨d,e,h.1⟩,rQ c h.2⟩
 ·simp at h
def TI.agg(a:TI):Bool:=match a.FW with| .struct _=>true|_=>false
def TI.tP(a:TI):Bool:=match a.FW with| .tuple _=>true|_=>false
def jJ{T:TT}(f:tp P T){d:TI}(g:fu T t=some d)(j:d.tP=false)(w:World):
 (sizeOf t).run P w=.ok d.sh.length w:=by
 have h:=f.xE g
 obtain⟨FW,k,b⟩:=d
 have:∃i,P.info? t=some i/\i.size=k.length:=by
  cases FW with
  |cell=>obtain⟨_,⟨i,a,c,_⟩⟩:=nF h;exact⟨i,a,c⟩
  |slice e=>obtain⟨_,⟨i,a,c,_⟩⟩:=jD h;exact⟨i,a,c⟩
  |map l e=>obtain⟨_,⟨i,a,c,_⟩⟩:=AW h;exact⟨i,a,c⟩
  |struct o=>obtain⟨_,⟨i,a,c,_⟩⟩:=mL h;exact⟨i,a,c⟩
  |tuple l=>simp[TI.tP]at j
 obtain⟨i,a,c⟩:=this
 simp[sizeOf,typeInfo,a,c]
def EH{T:TT}(g:tp P T){f:TI}(j:fu T t=some f)(k:f.tP=false):
 ∃i,i.bytes=f.bytes/\i.size=f.sh.length/\(∀w,(typeInfo t).run P w=.ok i w)/\P.info? t=some i:=by
 have h:=g.xE j
 obtain⟨FW,l,b⟩:=f
 have:∃i,P.info? t=some i/\i.size=l.length/\i.bytes=b:=by
  cases FW with
  |cell=>obtain⟨_,⟨i,a,c,d,_⟩⟩:=nF h;exact⟨i,a,c,d⟩
  |slice e=>obtain⟨_,⟨i,a,c,d,_⟩⟩:=jD h;exact⟨i,a,c,d⟩
  |map m e=>obtain⟨_,⟨i,a,c,d,_⟩⟩:=AW h;exact⟨i,a,c,d⟩
  |struct o=>obtain⟨_,⟨i,a,c,d,_⟩⟩:=mL h;exact⟨i,a,c,d⟩
  |tuple m=>simp[TI.tP]at k
 obtain⟨i,a,c,d⟩:=this
 exact⟨i,d,c,λw=>by simp[typeInfo,a],a⟩
def vv{T:TT}(m:tp P T){k:TI}(n:fu T t=some k)(o:k.tP=false):
 ∃z,z.cells.toList=k.sh.map (λs=>s.zero.v)/\(∀w,(zeroValue t).run P w=.ok z w)/\(k.agg=false->∀a,z≠.agg a):=by
 have h:=m.xE n
 obtain⟨FW,l,b⟩:=k
 have:∃i,P.info? t=some i/\∃z,i.zero=some z/\z.cells.toList=(l.map λs=>s.zero.v)/\((TI.mk FW l b).agg=false->∀a,z≠.agg a):=by
  cases FW with
  |cell=>obtain⟨_,⟨i,a,g,j,z,c,d,f⟩⟩:=nF h;exact⟨i,a,z,c,d,λ_=>f rfl⟩
  |slice e=>obtain⟨_,⟨i,a,g,j,z,c,d,f⟩⟩:=jD h;exact⟨i,a,z,c,d,λ_=>f rfl⟩
  |map p e=>obtain⟨_,⟨i,a,g,j,z,c,d,f⟩⟩:=AW h;exact⟨i,a,z,c,d,λ_=>f rfl⟩
  |struct p=>obtain⟨_,⟨i,a,g,j,z,c,d,f⟩⟩:=mL h;exact⟨i,a,z,c,d,λh=>by simp[TI.agg]at h⟩
  |tuple d=>simp[TI.tP]at o
 obtain⟨i,a,z,g,j,c⟩:=this
 exact⟨z,j,λw=>by simp[zeroValue,typeInfo,a,g],c⟩
def Gl{T:TT}(d:tp P T){a:TI}(f:fu T t=some a)(g:a.tP=false)(w:World):
 (isAgg t).run P w=.ok a.agg w:=by
 have h:=d.xE f
 obtain⟨FW,j,b⟩:=a
 cases FW with
 |cell=>
  obtain⟨⟨i,hd,c⟩,_⟩:=nF h
  unfold zg at c
  split at c<;>first|(simp at c;done)|simp[isAgg,run_underlying hd,TI.agg]
 |slice e=>obtain⟨hd,_⟩:=jD h;simp[isAgg,run_underlying hd,TI.agg]
 |map k e=>obtain⟨hd,_⟩:=AW h;simp[isAgg,run_underlying hd,TI.agg]
 |struct o=>obtain⟨⟨c,hd,_⟩,_⟩:=mL h;simp[isAgg,run_underlying hd,TI.agg]
 |tuple c=>simp[TI.tP]at g
end Go.Vc
end
section
namespace Go.Vc
def kK:SV->Option Bool
 | .tt=>some true
 | .ff=>some false
 | .c (.t x)=>some x
 |_=>none
def SV.iZ:SV->Bool
 | .fI=>false
 | .box _ _ _=>false
 | .yL _ _ _=>false
 |_=>true
def cR(n:Int):Int:=IntKind.i64.wrap n
def Gb{α:Type}:List α->Nat->Option α
 |[],_=>none
 |x::_,0=>some x
 |_::r,n+1=>Gb r n
def oY{α:Type}:∀(l:List α)(n:Nat),Gb l n=l[n]?
 |[],_=>by simp[Gb]
 |x::_,0=>by simp[Gb]
 |_::r,n+1=>by simp[Gb,oY r n]
def Uh(m:J)(b o:Nat):Nat->List Sh->(List Ce->Prop)->Prop
 |_,[],k=>k []
 |j,s::r,k=>∃x:s.ty,af m b (o+j)=some (s.mk x).v/\Uh m b o (j+1) r λl=>k (s.mk x::l)
def TC(a b:Int):Int:=cR ((a%18446744073709551616).toNat^^^(b%18446744073709551616).toNat:Nat)
def qS(c:BinOp)(a b:Int)(k:SV->Prop):Prop:=
 match c with
 | .add=>k (.c (.i (cR (a+b))))
 | .sub=>k (.c (.i (cR (a -b))))
 | .mul=>k (.c (.i (cR (a*b))))
 | .quo=>b≠0/\k (.c (.i (cR (a.tdiv b))))
 | .rem=>b≠0/\k (.c (.i (a.tmod b)))
 | .xor=>k (.c (.i (TC a b)))
 | .eql=>k (.c (.t (a==b)))
 | .neq=>k (.c (.t (a !=b)))
 | .lss=>k (.c (.t (decide (a<b))))
 | .leq=>k (.c (.t (decide (a<=b))))
 | .gtr=>k (.c (.t (decide (a>b))))
 | .geq=>k (.c (.t (decide (a>=b))))
 |_=>False
def SX(c:BinOp)(a b:Bool)(k:SV->Prop):Prop:=
 match c with
 | .eql=>k (.c (.t (a==b)))
 | .neq=>k (.c (.t (!(a==b))))
 |_=>False
def Tp(a:BinOp)(s:O)(k:SV->Prop):Prop:=
 match a with
 | .eql=>k (.c (.t s.Lv))
 | .neq=>k (.c (.t (!s.Lv)))
 |_=>False
def XE(a:UnOp)(x:SV)(k:SV->Prop):Prop:=
 match a,x with
 | .not,.tt=>k .ff
 | .not,.ff=>k .tt
 | .not,.c (.t b)=>k (.c (.t (!b)))
 | .neg,.c (.i n)=>k (.c (.i (cR (0 -n))))
 |_,_=>False
def O.cut(x:O)(a d e:Nat):O:=
 match x with
 | .nil=>.nil
 | .mk b o _ c=>.mk b (if c=a then o else o+a*e) (d -a) (c -a)
 | .A2 b o c=>.A2 b o c
def SV.cells:SV->Option (List Ce)
 | .c x=>some [x]
 | .tt=>some [.t true]
 | .ff=>some [.t false]
 | .agg l=>some l
 |_=>none
def lH(l:List Ce)(b:Nat)(a:List Ce):List Ce:=
 match b,l with
 |0,l=>match a,l with
  |[],l=>l
  |n::a,_::l=>n::lH l 0 a
  |_::_,[]=>[]
 |b+1,x::l=>x::lH l b a
 |_+1,[]=>[]
termination_by structural l
def Ee(T:TT)(c:Fr)(e:List (Nat×Nat)):List Ce->List (Nat×Operand)->(List Ce->Prop)->Prop
 |a,[],k=>k a
 |a,(i,x)::r,k=>
  match Gb e i,(ev c x).cells with
  |some (d,t),some b=>
   match fu T t with
   |some f=>bif !f.tP&&Nat.beq b.length f.sh.length&&Nat.ble (d+b.length) a.length then Ee T c e (lH a d b) r k else False
   |none=>False
  |_,_=>False
def uw(T:TT):List (Nat×Nat)->Bool
 |[]=>true
 |(_,t)::r=>(match fu T t with|some a=>!a.tP|none=>false)&&uw T r
def KR(a:Fr)(x:Option Operand)(d:Int)(k:Int->Prop):Prop:=
 match x with
 |none=>k d
 |some x=>match ev a x with
  | .c (.i n)=>k n
  |_=>False
def Vr(T:TT)(t:Nat)(s:O)(n:Int)(k:SV->Prop):Prop:=
 match fu T t with
 |some ⟨.slice e,_,_⟩=>match fu T e with
  |some a=>bif a.tP then False else 0<=n/\n<(s.len:Int)/\k (.c (.p s.E (s.off+n.toNat*a.sh.length)))
  |none=>False
 |_=>False
def Og(T:TT)(m:J)(t b o:Nat)(k:SV->Prop):Prop:=
 match fu T t with
 |some ⟨.struct _,a,_⟩=>Uh m b o 0 a λl=>k (.agg l)
 |some ⟨.cell,[s],_⟩=>∃x:s.ty,af m b o=some (s.mk x).v/\k (.c (s.mk x))
 |some ⟨.slice _,[_],_⟩=>∃x:O,af m b o=some x.v/\k (.c (.s x))
 |_=>False
def PH(T:TT)(a:Fr)(t:Nat)(s:O)(d c:Option Operand)(k:SV->Prop):Prop:=
 match fu T t with
 |some ⟨.slice e,_,_⟩=>match fu T e with
  |some b=>bif b.tP then False else
   KR a d 0 λl=>KR a c (s.len:Int) λh=>0<=l/\l<=h/\h<=(s.cap:Int)/\k (.c (.s (s.cut l.toNat h.toNat b.sh.length)))
  |none=>False
 |_=>False
def Mt(T:TT)(t f:Nat)(l:List Ce)(k:SV->Prop):Prop:=
 match fu T t with
 |some ⟨.struct c,_,_⟩=>match Gb c f with
  |some (b,u)=>match fu T u with
   |some a=>bif a.tP then False else bif a.agg then k (.agg ((l.drop b).take a.sh.length))else(match Gb l b with|some x=>k (.c x)|none=>False)
   |none=>False
  |none=>False
 |_=>False
def Ej(T:TT)(t f o:Nat)(mk:Nat->SV)(k:SV->Prop):Prop:=
 match fu T t with
 |some ⟨.struct c,_,_⟩=>match Gb c f with
  |some (b,u)=>match fu T u with
   |some a=>bif a.tP||Nat.beq a.sh.length 0 then False else k (mk (o+b))
   |none=>False
  |none=>False
 |_=>False
def qP(a b:Nat)(k:Prop):Prop:=a=b/\k
def aC(b:Nat)(k:Prop):qP b b k=k:=by simp[qP]
def Fp:List Ce->Nat->Nat->Option (List Ce)
 |_,_,0=>some []
 |l,o,n+1=>match Gb l o,Fp l (o+1) n with
  |some c,some r=>some (c::r)
  |_,_=>none
def Lp(T:TT)(t:Nat)(a:List Ce)(o:Nat)(k:SV->Prop):Prop:=
 match fu T t with
 |some ⟨.struct _,b,_⟩=>match Fp a o b.length with
  |some l=>k (.agg l)
  |none=>False
 |some ⟨.cell,[_],_⟩=>match Gb a o with
  |some c=>k (.c c)
  |none=>False
 |some ⟨.slice _,[_],_⟩=>match Gb a o with
  |some c=>k (.c c)
  |none=>False
 |some ⟨.map _ _,[_],_⟩=>match Gb a o with
  |some c=>k (.c c)
  |none=>False
 |_=>False
def Rq(T:TT)(c:Fr)(d:Builtin)(e:List Nat)(f:List Operand)(k:SV->Prop):Prop:=
 match d,e,f with
 | .len,[t],[x]=>match fu T t,ev c x with
  |some ⟨.slice _,_,_⟩,.c (.s s)=>k (.c (.i (s.len:Int)))
  |_,_=>False
 | .max,_,[x,y]=>match ev c x,ev c y with
  | .c (.i a),.c (.i b)=>k (.c (.i (if b>a then b else a)))
  |_,_=>False
 | .min,_,[x,y]=>match ev c x,ev c y with
  | .c (.i a),.c (.i b)=>k (.c (.i (if b<a then b else a)))
  |_,_=>False
 |_,_,_=>False
def VN(T:TT):Nat->List (Nat×Nat)->List Ce->List Ce->Option Bool
 |_,[],[],[]=>some true
 |i,(o,u)::c,.i a::l,.i b::r=>bif Nat.beq o i then match fu T u,VN T (i+1) c l r with
  |some ⟨.cell,[.I],_⟩,some z=>some (a==b&&z)
  |_,_=>none else none
 |_,_,_,_=>none
def Y9(T:TT)(t:Nat)(l r:List Ce)(k:SV->Prop):Prop:=
 match fu T (WO t),fu T t with
 |some ⟨.tuple _,_,_⟩,some ⟨.struct a,_,_⟩=>match VN T 0 a l r with
  |some z=>k (.c (.t z))
  |none=>False
 |_,_=>False
def rd(T:TT)(a:Fr)(m:J)(k:SV->Prop):Op->Prop
 | .move x| .assign x=>k (ev a x)
 | .pick d c b=>match ev a d with
  | .tt=>k (ev a c)
  | .ff=>k (ev a b)
  | .c (.t x)=>match kK (ev a c),kK (ev a b)with
   |some y,some z=>k (.c (.t (bif x then y else z)))
   |_,_=>False
  |_=>False
 | .nilCheck x=>match ev a x with
  | .c (.p b o)=>k (.c (.p b o))
  | .c (.bp q b o)=>k (.c (.bp q b o))
  | .c (.fn (.func f) c d)=>k (.c (.fn (.func f) c d))
  | .c (.fv q)=>∃g,q.1=.func g/\k (.c (.fv q))
  |_=>False
 | .binOp d t x y _=>match ev a x,ev a y with
  | .c (.i c),.c (.i b)=>qS d c b k
  | .c (.s s),.c (.s .nil)=>match fu T t with
   |some ⟨.slice _,_,_⟩=>Tp d s k
   |_=>False
  | .agg l,.agg r=>match d with
   | .eql=>Y9 T t l r k
   |_=>False
  |e,g=>match fu T t,kK e,kK g with
   |some ⟨.cell,[.T],_⟩,some c,some b=>SX d c b k
   |_,_,_=>False
 | .unOp d _ x=>XE d (ev a x) k
 | .convert s t x=>match fu T s,fu T t,ev a x with
  |some ⟨.cell,[_],_⟩,some ⟨.cell,[.I],_⟩,.c (.u _ n)=>k (.c (.i (cR n)))
  |_,_,_=>False
 | .fieldAddr t x f=>match ev a x with
  | .c (.p b o)=>Ej T t f o (λo=>.c (.p b o)) k
  | .c (.bp q b o)=>Ej T t f o (λo=>.c (.bp q b o)) k
  |_=>False
 | .field t x f=>match ev a x with
  | .agg l=>Mt T t f l k
  |_=>False
 | .indexAddr t x i=>match ev a x,ev a i with
  | .c (.s s),.c (.i n)=>Vr T t s n k
  |_,_=>False
 | .load t x=>match ev a x with
  | .c (.p b o)=>Og T m t b o k
  | .c (.bp q b o)=>match gJ a q with
   | .box c _ d=>qP c b (Lp T t d o k)
   | .yL c _ d=>qP c b (Lp T t d o k)
   |_=>Og T m t b o k
  |_=>False
 | .extract x i=>match ev a x with
  | .VD l=>match Gb l i with
   |some y=>k y.sv
   |none=>False
  |_=>False
 | .slice t x c b none=>match ev a x with
  | .c (.s s)=>PH T a t s c b k
  |_=>False
 | .build t c=>match fu T t with
  |some ⟨.struct b,d,_⟩=>bif uw T b then Ee T a b (d.map Sh.zero) c.toList λl=>k (.agg l)else False
  |_=>False
 | .call ⟨.builtin c,b,d⟩=>Rq T a c d.toList b.toList k
 |_=>False
def lg(a:Fr)(q b e:Nat)(l:List Ce):Prop:=gJ a q=.box b e l\/gJ a q=.yL b e l
structure Bx(n:Nat)(fr:Fr)(m:J):Prop where
 E:∀q b e l,lg fr q b e l->m[b]? =some (.cells (l.map Ce.v).toArray e)
 Ml:∀q q' b e l b' e' l',q≠q'->lg fr q b e l->lg fr q' b' e' l'->b≠b'
 key:∀q b e l,lg fr q b e l->n<=q
def Q4(T:TT)(c:Fr):Op->List (Nat×Nat)
 | .load t x=>match ev c x,fu T t with
  | .c (.p b o),some a=>(List.range a.sh.length).map λj=>(b,o+j)
  | .c (.bp _ b o),some a=>(List.range a.sh.length).map λj=>(b,o+j)
  |_,_=>[]
 |_=>[]
end Go.Vc
end
section
namespace Go.Vc
variable{s:SV}{b:Bool}
def SV.Is.eq{v:Value}(h:s.Is v)(a:s.iZ=true):v=s.v:=by
 cases s<;>first|exact h|simp[SV.iZ]at a
def nv(s:SV):s.Is s.v:=by cases s<;>first|rfl|trivial
def jz.eq{n:Nat}{b:Fr}{a:Act}(h:jz n b a){x:Operand}{s:SV}(c:Vc.ev b x=s)(d:s.iZ=true):a.eval x=s.v:=by
 have:=h.ev x;rw[c]at this;exact this.eq d
def wc(h:kK s=some b):s.iZ=true/\s.v=.bool b:=by
 unfold kK at h;split at h<;>simp_all [SV.iZ,SV.v,Ce.v]
def jz.XA{n:Nat}{c:Fr}{a:Act}(h:jz n c a){x:Operand}(d:kK (Vc.ev c x)=some b):a.eval x=.bool b:=by
 rw[h.eq rfl (wc d).1,(wc d).2]
def uW(b o n:Nat):(⟨b,o,none⟩:Addr).add n=⟨b,o+n,none⟩:=by
 unfold Addr.add;split
 ·rename_i h;subst h;rfl
 ·rfl
def AN:∀(l:List Ce)(a:Nat)(b:List Ce)(i:Nat),a+b.length<=l.length->
 (lH l a b)[i]? =if a<=i/\i<a+b.length then b[i -a]? else l[i]?
 |[],0,[],i,_=>by simp[lH]
 |[],0,_::_,_,h=>by simp at h
 |[],_+1,_,_,h=>by simp at h
 |x::l,0,[],i,_=>by simp[lH]
 |x::l,0,n::b,i,h=>by
  simp only[lH];cases i with
  |zero=>simp
  |succ i=>
   have:=AN l 0 b i (by simp at h;omega);simp only[gE,this];simp
 |x::l,a+1,b,i,h=>by
  simp only[lH];cases i with
  |zero=>simp
  |succ i=>
   have:=AN l a b i (by simp at h;omega);simp only[gE,this];have e:(i+1 -(a+1))=i -a:=V;simp only[e];congr 1;simp;omega
def Lu(c:List Value):∀(k a:Nat)(b:Array Value)(i:Nat),
 ((c.zipIdx k).foldl (λ(d:Array Value)(p:Value×Nat)=>d.setIfInBounds (a+p.2) p.1) b)[i]? =
  if a+k<=i/\i<a+k+c.length/\i<b.size then c[i -(a+k)]? else b[i]? :=by
 induction c with
 |nil=>intro k a b i;simp;intro h;omega
 |cons v c g=>
  intro k a b i
  simp only[List.zipIdx_cons,List.foldl_cons,g,Array.size_setIfInBounds,aZ]
  by_cases d:i=a+k
  ·subst d
   by_cases e:a+k<b.size
   ·simp[e];try omega
   ·simp[e];try omega
  ·have:¬(a+k=i):=λf=>d f.symm
   rw[jg this]
   by_cases e:a+k<=i/\i<a+k+(c.length+1)/\i<b.size
   ·rw[an e,an V]
    have:i -(a+k)=(i -(a+(k+1)))+1:=V
    rw[this,gE]
   ·rw[ae e,ae V]
def oQ{l:List Ce}(h:s.cells=some l):s.iZ=true/\s.v.cells=(l.map Ce.v).toArray:=by
 cases s with
 |c x=>simp[SV.cells]at h;subst h;exact⟨rfl,by simp[SV.v,Ce.jZ]⟩
 |tt=>simp[SV.cells]at h;subst h;exact⟨rfl,rfl⟩
 |ff=>simp[SV.cells]at h;subst h;exact⟨rfl,rfl⟩
 |agg a=>simp[SV.cells]at h;subst h;exact⟨rfl,rfl⟩
 |VD _=>simp[SV.cells]at h
 |un=>simp[SV.cells]at h
 |fI=>simp[SV.cells]at h
 |box _ _ _=>simp[SV.cells]at h
 |yL _ _ _=>simp[SV.cells]at h
end Go.Vc
end
section
namespace Go.Vc
variable{x y:Operand}{c:TypeId}{h b f o:Nat}{g:List Ce}
variable{e:Program}{T:TT}
def og(e:Program)(T:TT)(b:Fr)(m:J)(a:Act)(o:Oper)(k:SV->Prop):Prop:=
 ∃x v,k x/\x.Is v/\∀w:World,(∀q∈Q4 T b o.op,af w.heap q.1 q.2=af m q.1 q.2)->(execOp a.eval o).run e w=.ok (.value v) w
section
variable{n:Nat}{i:Fr}{a:Act}{j:J}{k:SV->Prop}{q:Option Tmp}{v:TypeId}{u:String}{p:Array Edge}{r:Option (Nat×Bool)}
def RN(b:jz n i a)(h:k (ev i x)):og e T i j a ⟨q,.move x,v,u,p,r⟩ k:=
 ⟨_,_,h,b.ev x,λw _=>by simp[execOp]⟩
def QJ(b:jz n i a)(h:k (ev i x)):og e T i j a ⟨q,.assign x,v,u,p,r⟩ k:=
 ⟨_,_,h,b.ev x,λw _=>by simp[execOp]⟩
def Po(c:jz n i a){f:Operand}(h:rd T i j k (.pick f x y)):og e T i j a ⟨q,.pick f x y,v,u,p,r⟩ k:=by
 simp only[rd]at h;split at h
 ·rename_i d;exact⟨_,_,h,c.ev x,λw _=>by simp[execOp,c.eq d rfl,SV.v,asBool]⟩
 ·rename_i d;exact⟨_,_,h,c.ev y,λw _=>by simp[execOp,c.eq d rfl,SV.v,asBool]⟩
 ·rename_i b d;split at h
  ·rename_i m o g l;refine⟨_,_,h,nv _,λw _=>?_⟩;simp[execOp,c.eq d rfl,SV.v,Ce.v,asBool,c.XA g,c.XA l];try (cases b<;>rfl)
  ·exact h.elim
 ·exact h.elim
def Jv(d:jz n i a)(h:rd T i j k (.nilCheck x)):og e T i j a ⟨q,.nilCheck x,v,u,p,r⟩ k:=by
 simp only[rd]at h;split at h
 ·rename_i b o c;exact⟨_,_,h,nv _,λw _=>by simp[execOp,d.eq c rfl,SV.v,Ce.v]⟩
 ·rename_i m b o c;exact⟨_,_,h,nv _,λw _=>by simp[execOp,d.eq c rfl,SV.v,Ce.v]⟩
 ·rename_i f g l c;exact⟨_,_,h,nv _,λw _=>by simp[execOp,d.eq c rfl,SV.v,Ce.v]⟩
 ·rename_i m c;obtain⟨s,g,l⟩:=h;exact⟨_,_,l,nv _,λw _=>by simp[execOp,d.eq c rfl,SV.v,Ce.v,g]⟩
 ·exact h.elim
def SY{a:BinOp}{x y:Int}(h:qS a x y k):∃s v,k s/\s.Is v/\∀w:World,(binOp a c (.int .i64 x) (.int .i64 y)).run e w=.ok v w:=by
 cases a<;>simp only[qS]at h
 case quo=>exact⟨_,_,h.2,nv _,λw=>by simp[binOp,Op.intDiv,h.1,SV.v,Ce.v,cR]⟩
 case rem=>exact⟨_,_,h.2,nv _,λw=>by simp[binOp,Op.intDiv,h.1,SV.v,Ce.v]⟩
 case xor=>exact⟨_,_,h,nv _,λw=>by simp[binOp,Op.intBits,SV.v,Ce.v,cR,TC,IntKind.bits];rfl⟩
 all_goals exact⟨_,_,h,nv _,λw=>by simp[binOp,Op.intArith,Op.intCmp,SV.v,Ce.v,cR]⟩
def NS(a:BinOp)(c:TypeId)(d f:Operand)(b:IntKind)(x:Int)(y:Value)(w:World):(eqGuard a c d f (.int b x) y).run e w=.ok () w:=by
 cases a<;>simp[eqGuard]
def Mq(a:BinOp)(c:TypeId)(b d:Operand)(x:Bool)(y:Value)(w:World):(eqGuard a c b d (.bool x) y).run e w=.ok () w:=by
 cases a<;>simp[eqGuard]
def Pf(hd:e.underlying c=some .bool)(x y:Bool)(w:World):(Op.equal c (.bool x) (.bool y)).run e w=.ok (x==y) w:=by
 have:Op.equal c (.bool x) (.bool y)=Op.equalIn (9999+1) c (.bool x) (.bool y):=rfl;rw[this];generalize 9999=h;simp[Op.equalIn,run_underlying hd]
def HN{a:TypeId}(hd:e.underlying c=some (.slice a))(s:O)(w:World):(Op.equal c s.v (.slice none 0 0)).run e w=.ok s.Lv w:=by
 have:Op.equal c s.v (.slice none 0 0)=Op.equalIn (9999+1) c s.v (.slice none 0 0):=rfl;rw[this];generalize 9999=h;cases s<;>simp[Op.equalIn,run_underlying hd,O.v]
def NU(hd:e.underlying c=some (.int .i64))(x y:Int)(w:World):(Op.equalIn (h+1) c (.int .i64 x) (.int .i64 y)).run e w=.ok (x==y) w:=by
 simp[Op.equalIn,run_underlying hd]
def Oo(d:tp e T){u:Nat}(f:fu T u=some ⟨.cell,[.I],b⟩){a:Array Value}{c:Nat}{v:Value}(h:a[c]? =some v)(w:World):(part u a c).run e w=.ok v w:=by
 simp[part,Gl d f rfl,TI.agg,h]
def RJ(n:tp e T){X Y:Array Value}(A:World):∀(j:List Field)(i:Nat)(l:List (Nat×Nat))(g r:List Ce)(z:Bool),j.map (λf=>(f.offset,f.type))=l->(∀f∈j,f.name≠ "_")->
 (∀k d,g[k]? =some d->X[i+k]? =some d.v)->(∀k d,r[k]? =some d->Y[i+k]? =some d.v)->VN T i l g r=some z->
 (forIn (m:=Sem) j ((none,()):Option Bool×PUnit) λf _=>do
  if f.name≠ "_" then
   if !(<-Op.equalIn (h+1) f.type (<-part f.type X f.offset) (<-part f.type Y f.offset))then pure (.done (some false,()))else pure (.yield (none,()))
  else pure (.yield (none,()))).run e A=.ok (if z=true then(none,())else(some false,())) A:=by
 intro j
 induction j with
 |nil=>
  intro i l g r z u v p q c
  subst u
  cases g<;>cases r<;>simp[VN]at c
  subst c
  simp
 |cons f j K=>
  intro i l g r z u v p q c
  subst u
  simp only[cE]at c
  unfold VN at c
  split at c
  ·simp at*
  ·rename_i i _ _ _ _ o N l a g b r C
   obtain⟨⟨rfl,rfl⟩,rfl⟩:=by simpa using C
   cases s:Nat.beq f.offset i
   ·rw[s]at c;simp at c
   ·rw[s]at c;simp only[iX]at c
    have x:=bo s
    split at c
    ·rename_i M L w J
     simp only[CG]at c
     obtain⟨⟨B,D,y⟩,_⟩:=nF (n.xE w)
     have F:B=.int .i64:=by unfold zg at y;split at y<;>simp_all
     subst F
     have H:X[f.offset]? =some (.int .i64 a):=by have:=p 0 (.i a) rfl;rw[x];exact this
     have I:Y[f.offset]? =some (.int .i64 b):=by have:=q 0 (.i b) rfl;rw[x];exact this
     have G:=K (i+1) _ g r L rfl (λt E=>v t (ai _ E)) (λk d t=>by have:=p (k+1) d (by simpa using t);rw[<-this];congr 1;omega) (λk d t=>by have:=q (k+1) d (by simpa using t);rw[<-this];congr 1;omega) J
     rw[List.forIn_cons,Sem.run_bind,an (v f aX)]
     simp only[Sem.run_bind,Oo n w H,Oo n w I,Result.andThen_ok,NU D]
     cases t:(a==b)
     ·rw[t]at c;subst c;simp
     ·rw[t]at c;simp only[LY]at c;subst c
      simp only[LX,jx,pC,Sem.run_pure,Result.andThen_ok]
      exact G
    ·simp at c
  ·simp at c
def Mr(j:tp e T){a:Array Field}(p:e.underlying c=some (.struct a))(o:e.stoodInHeld c=false)(n:∀f∈a.toList,f.name≠ "_"){r:List Ce}{z:Bool}
 (l:VN T 0 (a.toList.map λf=>(f.offset,f.type)) g r=some z)(w:World):(Op.equal c (.agg (g.map Ce.v).toArray) (.agg (r.map Ce.v).toArray)).run e w=.ok z w:=by
 have:Op.equal c (.agg (g.map Ce.v).toArray) (.agg (r.map Ce.v).toArray)=Op.equalIn (9998+1+1) c (.agg (g.map Ce.v).toArray) (.agg (r.map Ce.v).toArray):=rfl
 rw[this]
 generalize 9998=h
 rw[Op.equalIn]
 simp only[Sem.run_bind,run_underlying p,Result.andThen_ok]
 have m:=RJ j (h:=h) (X:=(g.map Ce.v).toArray) (Y:=(r.map Ce.v).toArray) w a.toList 0 _ g r z rfl n (λk i b=>by simp[b]) (λk i b=>by simp[b]) l
 have b:(program:Sem Program).run e w=.ok e w:=rfl
 rw[b,Result.andThen_ok,ae (by simp[o]),Sem.run_bind,<-Array.forIn_toList,m]
 cases z<;>rfl
def QD(h:Tc e c=true):∃a,e.underlying c=some (.struct a)/\(∀f∈a.toList,f.name≠ "_")/\e.stoodInHeld c=false/\e.eqGuardType e.depth c=false:=by
 unfold Tc at h;split at h
 ·rename_i a b;simp only[bK,List.all_eq_true,uO,ib]at h;exact⟨a,b,h.1.1,h.1.2,h.2⟩
 ·cases h
def NR(h:e.eqGuardType e.depth c=false)(f g:Operand)(a b:Array Value)(w:World):(eqGuard .eql c f g (.agg a) (.agg b)).run e w=.ok () w:=by
 have d:(program:Sem Program).run e w=.ok e w:=rfl;simp only[eqGuard,Sem.run_bind];simp[d,h]
def KH(a:BinOp)(c:TypeId)(b d:Operand)(s:O)(y:Value)(w:World):(eqGuard a c b d s.v y).run e w=.ok () w:=by
 cases s<;>cases a<;>simp[eqGuard,O.v]
def NZ(m:tp e T)(d:jz n i a){z:BinOp}{D:TypeId}(b:rd T i j k (.binOp z c x y D)):og e T i j a ⟨q,.binOp z c x y D,v,u,p,r⟩ k:=by
 simp only[rd]at b;split at b
 ·rename_i L M f l;obtain⟨s,E,A,w,C⟩:=SY (e:=e) (c:=c) b;refine⟨s,E,A,w,λB _=>?_⟩;simp only[execOp,d.eq f rfl,d.eq l rfl,SV.v,Ce.v,Sem.run_bind];simp[NS,C]
 ·rename_i s f l;split at b
  ·rename_i I J H A;have w:=(jD (m.xE A)).1;have F:a.eval x=s.v:=d.eq f rfl;have G:a.eval y=.slice none 0 0:=d.eq l rfl;cases z<;>simp only[Tp]at b
   all_goals
    first
    |exact b.elim
    |exact⟨_,_,b,nv _,λB _=>by
     have C:∀o:BinOp,o=.eql\/o=.neq->binOp o c s.v (.slice none 0 0)=(if o=.eql then(do pure (.bool (<-Op.equal c s.v (.slice none 0 0))))else(do pure (.bool (!(<-Op.equal c s.v (.slice none 0 0)))))):=by
      intro o E;rcases E with rfl|rfl<;>cases s<;>rfl
     simp only[execOp,F,G,Sem.run_bind,KH,Result.andThen_ok];rw[C _ aJ];simp[HN w,SV.v,Ce.v]⟩
  ·exact b.elim
 ·rename_i g N f l;split at b
  ·unfold Y9 at b;split at b
   ·rename_i G A;split at b
    ·rename_i R C;obtain⟨O,w,J,K,H⟩:=QD (m.ZM G);obtain⟨⟨Q,s,I⟩,_⟩:=mL (m.xE A);rw[w]at s;obtain rfl:=(TypeDesc.struct.inj (Q2 s));rw[<-I]at C;refine⟨_,_,b,nv _,λB _=>?_⟩;have E:a.eval x=.agg (g.map Ce.v).toArray:=d.eq f rfl;have F:a.eval y=.agg (N.map Ce.v).toArray:=d.eq l rfl;simp only[execOp,E,F,Sem.run_bind,NR H,Result.andThen_ok,binOp,Mr m w K J C];rfl
    ·exact b.elim
   ·exact b.elim
  ·exact b.elim
 ·split at b
  ·rename_i L M w f l;obtain⟨⟨h,hd,A⟩,_⟩:=nF (m.xE w);have s:h=.bool:=by
    cases h<;>simp_all [zg]
   subst s;cases z<;>simp only[SX]at b
   all_goals
    first
    |exact b.elim
    |exact⟨_,_,b,nv _,λB _=>by
     simp only[execOp,d.XA f,d.XA l,Sem.run_bind,Mq,Result.andThen,binOp,Pf hd];rfl⟩
  ·exact b.elim
def KL(d:tp e T)(l:jz n i a){s:TypeId}(b:rd T i j k (.convert s c x)):og e T i j a ⟨q,.convert s c x,v,u,p,r⟩ k:=by
 simp only[rd]at b;split at b
 ·rename_i B b1 b2 z A t w y;obtain⟨⟨h,hd,_⟩,_⟩:=nF (d.xE t);obtain⟨⟨g,m,f⟩,_⟩:=nF (d.xE w);have o:g=.int .i64:=by unfold zg at f;split at f<;>simp_all
  subst o;exact⟨_,_,b,nv _,λC _=>by
   simp only[execOp,l.eq y rfl,SV.v,Ce.v,Sem.run_bind];simp[convert,run_underlying hd,run_underlying m,Conv.intToInt,cR]⟩
 ·exact b.elim
def Pp(b:jz n i a){f:UnOp}(h:rd T i j k (.unOp f c x)):og e T i j a ⟨q,.unOp f c x,v,u,p,r⟩ k:=by
 simp only[rd]at h;generalize d:ev i x=sx at h;unfold XE at h;split at h
 ·exact⟨_,_,h,nv _,λw _=>by simp[execOp,b.eq d rfl,SV.v,Op.unary]⟩
 ·exact⟨_,_,h,nv _,λw _=>by simp[execOp,b.eq d rfl,SV.v,Op.unary]⟩
 ·exact⟨_,_,h,nv _,λw _=>by simp[execOp,b.eq d rfl,SV.v,Ce.v,Op.unary]⟩
 ·exact⟨_,_,h,nv _,λw _=>by simp[execOp,b.eq d rfl,SV.v,Ce.v,Op.unary,Op.intArith,cR]⟩
 ·exact h.elim
def Cm(l:tp e T)(L:jz n i a){mk:Nat->SV}(E:∀o,(mk o).v=.pointer (some ⟨b,o,none⟩))(J:a.eval x=.pointer (some ⟨b,o,none⟩))(h:Ej T c f o mk k):
 og e T i j a ⟨q,.fieldAddr c x f,v,u,p,r⟩ k:=by
 unfold Ej at h
 split at h
 ·rename_i N O K H
  split at h
  ·rename_i M P s
   split at h
   ·rename_i g I
    cases d:(g.tP||Nat.beq g.sh.length 0)
    ·rw[d]at h
     simp only[bq]at d
     obtain⟨⟨z,C,D⟩,_⟩:=mL (l.xE H)
     rw[oY,<-D,cU]at s
     obtain⟨y,A,m⟩:=Option.map_eq_some_iff.1 s
     simp only[Mb]at m
     obtain⟨rfl,rfl⟩:=m
     have G:=λw=>jJ l I d.1 w
     have F:g.sh.length≠0:=λt=>by rw[t]at d;simp at d
     refine⟨_,_,h,nv _,λw _=>?_⟩
     have B:z[f]? =some y:=by simpa using A
     rw[E]
     simp[execOp,Instr.fieldAt,J,run_underlying C,B,Instr.sureAddr,fieldPlace,G,F,uW]
    ·rw[d]at h;exact h.elim
   ·exact h.elim
  ·exact h.elim
 ·exact h.elim
def HO(l:tp e T)(d:jz n i a)(h:rd T i j k (.fieldAddr c x f)):og e T i j a ⟨q,.fieldAddr c x f,v,u,p,r⟩ k:=by
 simp only[rd]at h;split at h
 ·rename_i b o g;exact Cm l d (λo=>rfl) (d.eq g rfl) h
 ·rename_i m b o g;exact Cm l d (λo=>rfl) (d.eq g rfl) h
 ·exact h.elim
def Oa(l:tp e T)(m:jz n i a)(h:rd T i j k (.field c x f)):og e T i j a ⟨q,.field c x f,v,u,p,r⟩ k:=by
 simp only[rd]at h;split at h
 ·rename_i g C;unfold Mt at h;split at h
  ·rename_i N O L K;split at h
   ·rename_i M P A;split at h
    ·rename_i E B;cases b:E.tP
     ·rw[b]at h;obtain⟨⟨G,z,I⟩,_⟩:=mL (l.xE K);rw[oY,<-I,cU]at A;obtain⟨F,H,s⟩:=Option.map_eq_some_iff.1 A;simp only[Mb]at s;obtain⟨rfl,rfl⟩:=s;have J:=λw=>jJ l B b w;have o:=λw=>Gl l B b w;have t:G[f]? =some F:=by simpa using H
      cases d:E.agg
      ·simp only[d,me]at h;split at h
       ·rename_i y D;refine⟨_,_,h,nv _,λw _=>?_⟩;rw[oY]at D;simp[execOp,Instr.field,m.eq C rfl,SV.v,run_underlying z,t,asAgg,part,o,d,D]
       ·exact h.elim
      ·simp only[d,me,iX]at h;refine⟨_,_,h,nv _,λw _=>?_⟩;simp[execOp,Instr.field,m.eq C rfl,SV.v,run_underlying z,t,asAgg,part,o,d,J,List.map_drop,Ma]
     ·rw[b]at h;exact h.elim
    ·exact h.elim
   ·exact h.elim
  ·exact h.elim
 ·exact h.elim
def HP(l:tp e T)(g:jz n i a)(h:rd T i j k (.indexAddr c x y)):og e T i j a ⟨q,.indexAddr c x y,v,u,p,r⟩ k:=by
 simp only[rd]at h;split at h
 ·rename_i E J C D;unfold Vr at h;split at h
  ·rename_i I L G A;split at h
   ·rename_i F t;cases f:F.tP
    ·rw[f]at h;obtain⟨m,d,s⟩:=h;have B:=(jD (l.xE A)).1;have z:=λw=>jJ l t f w;cases E with
     |nil=>simp[O.len]at d;omega
     |A2 _ _ _=>simp[O.len]at d;omega
     |mk b o K H=>
      refine⟨_,_,s,nv _,λw _=>?_⟩;simp only[O.len]at d;simp[execOp,Instr.indexAt,g.eq C rfl,g.eq D rfl,SV.v,Ce.v,O.v,asIntOf,run_underlying B,m,d,z,uW,O.E,O.off]
    ·rw[f]at h;exact h.elim
   ·exact h.elim
  ·exact h.elim
 ·exact h.elim
def Oe:∀(d:List Sh)(b o a:Nat)(k:List Ce->Prop),Uh j b o a d k->∃g,k g/\g.length=d.length/\∀i,i<d.length->af j b (o+a+i)=(g[i]?).map Ce.v
 |[],_,_,_,_,h=>⟨[],h,rfl,λi c=>by simp at c⟩
 |s::r,b,o,a,k,h=>by
  obtain⟨x,n,h⟩:=h;obtain⟨g,l,m,f⟩:=Oe r b o (a+1) _ h;refine⟨s.mk x::g,l,by simp[m],λi c=>?_⟩;cases i with
  |zero=>simpa using n
  |succ i=>
   have:=f i (by simpa using c);have e:o+(a+1)+i=o+a+(i+1):=V;rw[e]at this;simpa using this
def mC(B:tp e T)(S:jz n i a)(I:a.eval x=.pointer (some ⟨b,o,none⟩)){f:TI}(H:fu T c=some f)(G:f.tP=false)
 (K:∀d,d<f.sh.length->(b,o+d)∈Q4 T i (.load c x))(E:g.length=f.sh.length)(L:∀z,z<f.sh.length->af j b (o+z)=(g[z]?).map Ce.v)
 {s:SV}(U:s.iZ=true)(O:(f.agg=true/\s.v=.agg (g.map Ce.v).toArray)\/(f.agg=false/\∃m,g=[m]/\s.v=m.v))(N:k s):
 og e T i j a ⟨q,.load c x,v,u,p,r⟩ k:=by
 refine⟨s,s.v,N,nv _,λl R=>?_⟩
 have Q:=jJ B H G l
 have C:=Gl B H G l
 have D:∀d,d<f.sh.length->af l.heap b (o+d)=(g[d]?).map Ce.v:=λd h=>by rw[R (b,o+d) (K d h),L d h]
 rcases O with⟨t,y⟩|⟨t,m,y,J⟩
 ·have F:=run_loadCells_list (P:=e) (w:=l) ⟨b,o,none⟩ (g.map Ce.v) (λd V h=>by
   rw[uW,yO];have M:d<f.sh.length:=by
    rcases bA d f.sh.length with A|A
    ·exact A
    ·rw[di bR]at h;simp at h
   rw[D d M,<-cU,h])
  simp only[dL]at F
  simp only[execOp,Instr.loadAt,I,Instr.sureAddr,loadVar,Sem.run_bind,Sem.run_pure,C,t,Result.andThen_ok,Q,KE]
  simp[<-E,F,y]
 ·subst y
  have A:=D 0 (by rw[<-E];simp)
  simp at A
  simp only[execOp,Instr.loadAt,I,Instr.sureAddr,loadVar,Sem.run_bind,Sem.run_pure,C,t,Result.andThen_ok]
  simp[yO,A,J]
def Hm(C:tp e T)(B:jz n i a)(D:a.eval x=.pointer (some ⟨b,o,none⟩))
 (A:∀d f,fu T c=some d->f<d.sh.length->(b,o+f)∈Q4 T i (.load c x))(h:Og T j c b o k):og e T i j a ⟨q,.load c x,v,u,p,r⟩ k:=by
 unfold Og at h
 split at h
 ·rename_i H I F d
  obtain⟨g,w,G,E⟩:=Oe _ _ _ _ _ h
  exact mC C B D d rfl (λf t=>A _ f d t) G (λz m=>by simpa using E z m) (s:=.agg g) rfl (Or.inl ⟨rfl,rfl⟩) w
 ·rename_i G F d
  obtain⟨y,E,w⟩:=h
  exact mC C B D d rfl (λf t=>A _ f d t) (g:=[G.mk y]) rfl (λz m=>by
   have:z=0:=by simpa using m
   subst this;exact E) (s:=.c (G.mk y)) rfl (Or.inr ⟨rfl,_,rfl,rfl⟩) w
 ·rename_i G H F d
  obtain⟨y,E,w⟩:=h
  exact mC C B D d rfl (λf t=>A _ f d t) (g:=[.s y]) rfl (λz m=>by
   have:z=0:=by simpa using m
   subst this;exact E) (s:=.c (.s y)) rfl (Or.inr ⟨rfl,_,rfl,rfl⟩) w
 ·exact h.elim
def Ko:∀{a:List Ce}{b o:Nat}{g:List Ce},Fp a o b=some g->g.length=b/\∀i,i<b->a[o+i]? =g[i]?
 |a,0,o,g,h=>by simp[Fp]at h;subst h;simp
 |a,b+1,o,g,h=>by
  simp only[Fp]at h;split at h
  ·rename_i j r c f;simp at h;subst h;obtain⟨d,e⟩:=Ko f;refine⟨by simp[d],λi k=>?_⟩;cases i with
   |zero=>rw[oY]at c;simpa using c
   |succ i=>
    have:=e i V;rw[show o+(i+1)=o+1+i by omega];simpa using this
  ·simp at h
def Hl(C:tp e T)(B:jz n i a){H:Nat}{G:List Ce}(E:a.eval x=.pointer (some ⟨b,o,none⟩))
 (A:∀d m,fu T c=some d->m<d.sh.length->(b,o+m)∈Q4 T i (.load c x))(I:j[b]? =some (.cells (G.map Ce.v).toArray H))(h:Lp T c G o k):
 og e T i j a ⟨q,.load c x,v,u,p,r⟩ k:=by
 have D:∀f,af j b f=(G[f]?).map Ce.v:=λf=>by simp[af,I]
 unfold Lp at h
 split at h
 ·rename_i K L F d
  split at h
  ·rename_i g J
   obtain⟨t,w⟩:=Ko J
   exact mC C B E d rfl (λm z=>A _ m d z) t (λf y=>by rw[D,w f y]) (s:=.agg g) rfl (Or.inl ⟨rfl,rfl⟩) h
  ·exact h.elim
 ·rename_i J F d
  split at h
  ·rename_i t w
   rw[oY]at w
   exact mC C B E d rfl (λm z=>A _ m d z) (g:=[t]) rfl (λf y=>by
    have:f=0:=by simpa using y
    subst this;rw[D];simp[w]) (s:=.c t) rfl (Or.inr ⟨rfl,_,rfl,rfl⟩) h
  ·exact h.elim
 ·rename_i H J F d
  split at h
  ·rename_i t w
   rw[oY]at w
   exact mC C B E d rfl (λm z=>A _ m d z) (g:=[t]) rfl (λf y=>by
    have:f=0:=by simpa using y
    subst this;rw[D];simp[w]) (s:=.c t) rfl (Or.inr ⟨rfl,_,rfl,rfl⟩) h
  ·exact h.elim
 ·rename_i L K J F d
  split at h
  ·rename_i t w
   rw[oY]at w
   exact mC C B E d rfl (λm z=>A _ m d z) (g:=[t]) rfl (λf y=>by
    have:f=0:=by simpa using y
    subst this;rw[D];simp[w]) (s:=.c t) rfl (Or.inr ⟨rfl,_,rfl,rfl⟩) h
  ·exact h.elim
 ·exact h.elim
def Pn(l:tp e T)(d:jz n i a)(B:Bx n i j)(h:rd T i j k (.load c x)):og e T i j a ⟨q,.load c x,v,u,p,r⟩ k:=by
 simp only[rd]at h;split at h
 ·rename_i b o f;exact Hm l d (d.eq f rfl) (λm g A z=>by simp only[Q4,f,A];exact List.mem_map.2 ⟨g,List.mem_range.2 z,rfl⟩) h
 ·rename_i C b o f;have w:∀m g,fu T c=some m->g<m.sh.length->(b,o+g)∈Q4 T i (.load c x):=λm g A z=>by simp only[Q4,f,A];exact List.mem_map.2 ⟨g,List.mem_range.2 z,rfl⟩
  split at h
  ·rename_i D t s y;obtain⟨rfl,h⟩:=h;exact Hl l d (d.eq f rfl) w (B.E C _ t s (Or.inl y)) h
  ·rename_i D t s y;obtain⟨rfl,h⟩:=h;exact Hl l d (d.eq f rfl) w (B.E C _ t s (Or.inr y)) h
  ·exact Hm l d (d.eq f rfl) w h
 ·exact h.elim
end
end Go.Vc
end
section
namespace Go.Vc
variable{x:Operand}{t:TypeId}
variable{P:Program}{T:TT}
section
variable{n:Nat}{b:Fr}{a:Act}{m:J}{k:SV->Prop}{d:Option Tmp}{g:TypeId}{f:String}{c:Array Edge}{e:Option (Nat×Bool)}
def KM(l:jz n b a){j:Nat}(h:rd T b m k (.extract x j)):og P T b m a ⟨d,.extract x j,g,f,c,e⟩ k:=by
 simp only[rd]at h;split at h
 ·rename_i p o;split at h
  ·rename_i y i;refine⟨_,_,h,nv _,λw _=>?_⟩;rw[oY]at i;rw[AV.YQ];have:a.eval x=.tuple (p.map AV.v).toArray:=l.eq o rfl;simp[execOp,Instr.extract,this,i]
  ·exact h.elim
 ·exact h.elim
def LD(c:jz n b a){x:Option Operand}{d:Int}{k:Int->Prop}(h:KR b x d k):
 (x=none/\k d)\/∃y i,x=some y/\a.eval y=.int .i64 i/\k i:=by
 unfold KR at h
 split at h
 ·exact Or.inl ⟨rfl,h⟩
 ·rename_i y
  split at h
  ·rename_i i e
   exact Or.inr ⟨y,i,rfl,c.eq e rfl,h⟩
  ·exact h.elim
def pe(k:IntKind)(i:Int)(y:Nat)(c:BoundsCode)(a:0<=i)(b:i<=y)(w:World):(Instr.sliceBound (.int k i) y c).run P w=.ok i.toNat w:=by
 simp[Instr.sliceBound,asIntOf,a,b]
def Wg(b o l c a d e:Nat):(O.cut (.mk b o l c) a d e).v=.slice (if c=a then some ⟨b,o,none⟩else(some (⟨b,o,none⟩:Addr)).map (·.add (a*e))) (d -a) (c -a):=by
 show Value.slice _ _ _=_;simp only[uW,nG];split<;>rfl
def Ob(J:tp P T)(r:jz n b a){A y:Option Operand}(i:rd T b m k (.slice t x A y none)):og P T b m a ⟨d,.slice t x A y none,g,f,c,e⟩ k:=by
 simp only[rd]at i;split at i
 ·rename_i s G;unfold PH at i;split at i
  ·rename_i v N M L;split at i
   ·rename_i B K;cases D:B.tP
    ·rw[D]at i;have F:=(jD (J.xE L)).1;have E:=λw=>jJ J K D w;have z:∀(l h:Int),0<=l->l<=h->h<=(s.cap:Int)->
      (∀w:World,(Instr.sliceBounds true s.len s.cap (A.map a.eval) (y.map a.eval) none).run P w=.ok (l.toNat,h.toNat,s.cap) w)->
      ∀w:World,(execOp a.eval ⟨d,.slice t x A y none,g,f,c,e⟩).run P w=.ok (.value (Ce.s (s.cut l.toNat h.toNat B.sh.length)).v) w:=by
      intro l h o p j q w
      cases s with
      |nil=>
       simp only[O.cap,O.len]at q j
       have:h=0:=V
       have:l=0:=V
       subst this;subst h
       simp[execOp,Instr.sliceAt,r.eq G rfl,SV.v,Ce.v,O.v,run_underlying F,Instr.slice,q,E,O.cut]
      |A2 u C H=>
       simp only[O.cap,O.len]at q j
       have:h=0:=V
       have:l=0:=V
       subst this;subst h
       simp[execOp,Instr.sliceAt,r.eq G rfl,SV.v,Ce.v,O.v,run_underlying F,Instr.slice,q,E,O.cut]
      |mk u I H C=>
       simp only[O.cap,O.len]at q
       have v:(Ce.s ((O.mk u I H C).cut l.toNat h.toNat B.sh.length)).v=_:=Wg u I H C l.toNat h.toNat B.sh.length
       rw[v]
       have:a.eval x=.slice (some ⟨u,I,none⟩) H C:=r.eq G rfl
       simp[execOp,Instr.sliceAt,this,run_underlying F,Instr.slice,q,E]
     simp only[me]at i;rcases LD r i with⟨rfl,C⟩|⟨Q,l,rfl,H,C⟩<;>rcases LD r C with⟨rfl,o,p,j,u⟩|⟨R,h,rfl,I,o,p,j,u⟩
     ·exact⟨_,_,u,nv _,λw _=>z _ _ o p j (λw=>by simp[Instr.sliceBounds]) w⟩
     ·exact⟨_,_,u,nv _,λw _=>z _ _ o p j (λw=>by simp[Instr.sliceBounds,I,pe _ _ _ _ (by omega:0<=h) j]) w⟩
     ·exact⟨_,_,u,nv _,λw _=>z _ _ o p j (λw=>by simp[Instr.sliceBounds,H,pe _ _ _ _ o p]) w⟩
     ·exact⟨_,_,u,nv _,λw _=>z _ _ o p j (λw=>by
       have v:l<=(h.toNat:Int):=V;simp[Instr.sliceBounds,I,H,pe _ _ _ _ (by omega:0<=h) j,pe _ _ _ _ o v]) w⟩
    ·rw[D]at i;exact i.elim
   ·exact i.elim
  ·exact i.elim
 ·exact i.elim
def Jf(w:tp P T)(q:jz n b a)(p:List (Nat×Nat))(gL:Nat->Option (Nat×Nat))
 (r:∀i d t f,Gb p i=some (d,t)->fu T t=some f->f.tP=false->gL i=some (d,f.sh.length)):
 ∀(s:List (Nat×Operand))(c:List Ce)(k:List Ce->Prop),Ee T b p c s k->
  ∃l,k l/\Instr.fill gL (c.map Ce.v).toArray (s.map λe=>(e.1,a.eval e.2))=some (l.map Ce.v).toArray
 |[],c,k,h=>⟨c,h,rfl⟩
 |(i,x)::H,c,k,h=>by
  simp only[Ee]at h;split at h
  ·rename_i d t e E D;split at h
   ·rename_i f F;cases g:(!f.tP&&Nat.beq e.length f.sh.length&&Nat.ble (d+e.length) c.length)
    ·rw[g]at h;exact h.elim
    ·rw[g]at h;simp only[bK,ib]at g;obtain⟨⟨y,m⟩,o⟩:=g;have m:=bo m;have o:=k8 o;obtain⟨l,A,C⟩:=Jf w q p gL r H (lH c d e) k h;refine⟨l,A,?_⟩;obtain⟨B,z⟩:=oQ D;have G:a.eval x=(ev b x).v:=q.eq rfl B;simp only[cE,Instr.fill,r i d t f E F y,G,z,CF,dL,m];rw[ae bR,<-C];congr 1;apply AB;intro j;have u:=Lu (e.map Ce.v) 0 d (c.map Ce.v).toArray j;rw[<-YT,XH];have v:=AN c d e j o;rw[show((List.map Ce.v (lH c d e)).toArray)[j]? =((lH c d e)[j]?).map Ce.v by simp,v];rw[u];simp;split<;>split<;>first|rfl|(exfalso;omega)|(congr 1;omega)
   ·exact h.elim
  ·exact h.elim
def WN(T:TT)(t:Nat):Nat:=match fu T t with|some a=>a.sh.length|none=>0
def Hv(c:tp P T)(w:World):∀(a:List Field),(∀f∈a,∃b,fu T f.type=some b/\b.tP=false)->
 (a.mapM (λf=>do pure (f.offset,<-sizeOf f.type):Field->Sem (Nat×Nat))).run P w=.ok (a.map λf=>(f.offset,WN T f.type)) w
 |[],_=>aJ
 |f::a,h=>by
  obtain⟨b,d,j⟩:=h f aJ;have e:=Hv c w a (λg i=>h g (by simp[i]));simp only[Sv,Sem.run_bind,jJ c d j,Result.andThen_ok,Sem.run_pure]at e⊢;rw[e];simp[WN,d]
def Hx:∀{d:List (Nat×Nat)},uw T d=true->∀p∈d,∃a,fu T p.2=some a/\a.tP=false
 |[],_,_,h=>by simp at h
 |(o,t)::r,h,p,c=>by
  simp only[uw,bK]at h;rcases List.mem_cons.1 c with rfl|c
  ·have b:=h.1;split at b
   ·rename_i a e;exact⟨a,e,by simpa using b⟩
   ·simp at b
  ·exact Hx h.2 p c
def N3(l:tp P T)(z:jz n b a){o:Array (Nat×Operand)}(i:rd T b m k (.build t o)):og P T b m a ⟨d,.build t o,g,f,c,e⟩ k:=by
 simp only[rd]at i;split at i
 ·rename_i y K M v;cases q:uw T y
  ·rw[q]at i;exact i.elim
  rw[q]at i;obtain⟨⟨j,D,s⟩,_⟩:=mL (l.xE v);obtain⟨L,I,J,Q⟩:=vv l v rfl;have A:∀h∈j.toList,∃r,fu T h.type=some r/\r.tP=false:=λh B=>
   Hx q (h.offset,h.type) (by rw[<-s];exact List.mem_map.2 ⟨h,B,rfl⟩)
  have G:∀w:World,(j.mapM (λh=>do pure (h.offset,<-sizeOf h.type):Field->Sem (Nat×Nat))).run P w=.ok (j.toList.map λh=>(h.offset,WN T h.type)).toArray w:=by
   intro w;rw[SE,Sem.run_map,Hv l w j.toList A];rfl
  obtain⟨R,E,F⟩:=Jf l z y (λx=>((j.toList.map λh=>(h.offset,WN T h.type)).toArray)[x]?) (λx S t r u H O=>by
   rw[oY,<-s,cU]at u;obtain⟨N,C,p⟩:=Option.map_eq_some_iff.1 u;simp only[Mb]at p;obtain⟨rfl,rfl⟩:=p;simp only[kZ,cU,C,nG,WN,H]) _ _ _ i
  refine⟨_,_,E,nv _,λw _=>?_⟩;have u:L.cells=((K.map Sh.zero).map Ce.v).toArray:=by
   apply Array.toList_inj.1;simp[I]
  have C:(o.map λp=>(p.1,a.eval p.2)).toList=o.toList.map λp=>(p.1,a.eval p.2):=aJ;simp only[execOp,Instr.build,Sem.run_bind,J,Result.andThen_ok,run_underlying D,G,u,C,F];simp[SV.v]
 ·exact i.elim
def AK(d:jz n b a):∀{c:List Operand},c.all (λx=>(ev b x).iZ)=true->c.map a.eval=c.map λx=>(ev b x).v
 |[],_=>rfl
 |x::c,h=>by
  simp only[LZ,bK]at h;simp only[cE,d.eq rfl h.1,AK d h.2]
def KK(v:tp P T)(l:jz n b a){s:Builtin}{i:Array Operand}{r:Array TypeId}(h:rd T b m k (.call ⟨.builtin s,i,r⟩)):
 og P T b m a ⟨d,.call ⟨.builtin s,i,r⟩,g,f,c,e⟩ k:=by
 simp only[rd]at h
 unfold Rq at h
 split at h
 ·rename_i t x z p
  split at h
  ·rename_i D E C q y o
   refine⟨_,_,h,nv _,λw _=>?_⟩
   have A:=(jD (v.xE y)).1
   have u:r=#[t]:=Array.toList_inj.1 (by simpa using z)
   have j:i=#[x]:=Array.toList_inj.1 (by simpa using p)
   subst u;subst j
   have B:a.eval x=q.v:=l.eq o rfl
   cases q<;>simp[execOp,resolve,invoke,builtin,Builtin.len_,run_underlying A,B,O.v,goInt,SV.v,Ce.v,O.len]
  ·exact h.elim
 ·rename_i x y p
  split at h
  ·rename_i u z o q
   refine⟨_,_,h,nv _,λw _=>?_⟩
   have j:i=#[x,y]:=Array.toList_inj.1 (by simpa using p)
   subst j
   simp[execOp,resolve,invoke,builtin,Builtin.max_,Builtin.max2,l.eq o rfl,l.eq q rfl,SV.v,Ce.v]
  ·exact h.elim
 ·rename_i x y p
  split at h
  ·rename_i u z o q
   refine⟨_,_,h,nv _,λw _=>?_⟩
   have j:i=#[x,y]:=Array.toList_inj.1 (by simpa using p)
   subst j
   simp[execOp,resolve,invoke,builtin,Builtin.min_,Builtin.min2,l.eq o rfl,l.eq q rfl,SV.v,Ce.v]
  ·exact h.elim
 ·exact h.elim
def JO(j:tp P T)(i:jz n b a)(s:Bx n b m)(o:Oper)(h:rd T b m k o.op):og P T b m a o k:=by
 obtain⟨d,l,g,f,c,e⟩:=o;cases l with
 |move x=>exact RN i h
 |assign x=>exact QJ i h
 |pick p x y=>exact Po i h
 |nilCheck x=>exact Jv i h
 |binOp l t x y q=>exact NZ j i h
 |unOp l t x=>exact Pp i h
 |convert q t x=>exact KL j i h
 |fieldAddr t x q=>exact HO j i h
 |field t x q=>exact Oa j i h
 |indexAddr t x y=>exact HP j i h
 |load t x=>exact Pn j i s h
 |extract x r=>exact KM i h
 |slice t x u r mx=>cases mx with
  |none=>exact Ob j i h
  |some y=>exact h.elim
 |build t r=>exact N3 j i h
 |call p=>
  obtain⟨r,u,w⟩:=p;cases r with
  |builtin v=>exact KK j i h
  |value q=>exact h.elim
  |invoke v q=>exact h.elim
 |_=>exact h.elim
end
end Go.Vc
end
section
namespace Go.Vc
variable{m a:J}{b o e n q:Nat}{l:List Ce}
def ah(m:J)(b o:Nat):List Ce->J
 |[]=>m
 |c::r=>ah (qE m b o c.v) b (o+1) r
def dZ(m:J)(b o n:Nat):Prop:=∀j,j<n->(af m b (o+j)).isSome=true/\uY m b (o+j)=false
def fZ(m:J)(b o:Nat)(l:List Ce):Prop:=∀(i:Nat)(c:Ce),l[i]? =some c->af m b (o+i)=some c.v
def nj(a:List Ce)(n:Nat):List Ce:=(List.replicate n a).flatten
def bC(l:List Ce):Array Value:=(l.map Ce.v).toArray
def PF(m:J)(b o:Nat)(v:Value):(qE m b o v).size=m.size:=by simp[qE]
def JY(m:J)(b o:Nat)(v:Value){j:Nat}(h:j≠b):(qE m b o v)[j]? =m[j]? :=by
 simp only[qE,kY];rw[ae (λe=>h e.symm)]
def ay:∀(l:List Ce)(m:J)(b o:Nat),(ah m b o l).size=m.size
 |[],_,_,_=>rfl
 |c::r,m,b,o=>by simp only[ah];rw[ay r,PF]
def bt:∀(l:List Ce)(m:J)(b o:Nat){j:Nat},j≠b->(ah m b o l)[j]? =m[j]?
 |[],_,_,_,_,_=>rfl
 |c::r,m,b,o,j,h=>by simp only[ah];rw[bt r _ _ _ h,JY m b o _ h]
def mB{v:Value}(h:af m b o=some v):b<m.size:=by
 rcases bA b m.size with a|a
 ·exact a
 ·simp[af,Hg a]at h
def aM(h:a[b]? =m[b]?)(o:Nat):af a b o=af m b o:=by simp only[af,h]
def cx(m:J)(b:Nat)(e:Nat)(l:List Ce):Prop:=m[b]? =some (.cells (bC l) e)
def Sn(l:List Ce)(i:Nat):(bC l)[i]? =(l[i]?).map Ce.v:=by simp[bC]
def cx.bV(h:cx m b e l)(o:Nat):af m b o=(l[o]?).map Ce.v:=by
 have a:m[b]? =some (.cells (bC l) e (0,0)):=h;simp only[af,a,Sn]
def cx.iv(h:cx m b e l):fZ m b 0 l:=λi c a=>by rw[h.bV,cO,a];rfl
def cx.lt(h:cx m b e l):b<m.size:=(Array.getElem?_eq_some_iff.1 h).1
def cx.uY{m:J}{b e:Nat}{l:List Ce}(h:cx m b e l)(o:Nat):uY m b o=false:=by
 have a:m[b]? =some (.cells (bC l) e (0,0)):=h;simp[Vc.uY,a]
def cx.dZ(h:cx m b e l)(c:o+n<=l.length):dZ m b o n:=λj a=>by
 refine⟨?_,h.uY _⟩;rw[h.bV];simp;omega
def cx.push(m:J)(l:List Ce)(e:Nat):cx (m.push (.cells (bC l) e)) m.size e l:=by simp[cx]
def cx.congr(c:cx m b e l)(h:a[b]? =m[b]?):cx a b e l:=by
 unfold cx at*;rw[h];exact c
def cx.qE{m:J}{b e:Nat}{l:List Ce}(h:cx m b e l)(o:Nat)(c:Ce):cx (qE m b o c.v) b e (l.set o c):=by
 have d:m[b]? =some (.cells (bC l) e (0,0)):=h;have f:=h.lt;simp only[cx,Vc.qE,kY,KE,d,nG];congr 2;apply AB;intro i;simp only[bC,Array.getElem?_setIfInBounds,kZ,cU,iV,CF,dL];by_cases e:o=i
 ·subst e;by_cases a:o<l.length
  ·simp[a]
  ·simp[a]
 ·simp[e]
def iK(l:List Ce)(o:Nat):List Ce->List Ce
 |[]=>l
 |c::r=>iK (l.set o c) (o+1) r
def jV:∀(r l:List Ce)(o:Nat),(iK l o r).length=l.length
 |[],_,_=>rfl
 |c::r,l,o=>by simp only[iK];rw[jV r];simp
def vw:∀(r l:List Ce)(o i:Nat),(iK l o r)[i]? =if o<=i/\i<o+r.length/\i<l.length then r[i -o]? else l[i]?
 |[],l,o,i=>by simp[iK];intro h;omega
 |c::r,l,o,i=>by
  simp only[iK];rw[vw r,iV];simp only[jO,aZ];by_cases b:o=i
  ·subst b;by_cases a:o<l.length
   ·simp[a];try omega
   ·simp[a];try omega
  ·by_cases a:o<=i/\i<o+(r.length+1)/\i<l.length
   ·rw[an a,an V,show i -o=(i -(o+1))+1 by omega,gE]
   ·rw[ae a,ae V];simp[b]
def cx.ah{m:J}{b e:Nat}:∀{r l:List Ce}{m:J}{o:Nat},cx m b e l->cx (ah m b o r) b e (iK l o r)
 |[],_,_,_,h=>h
 |c::r,l,m,o,h=>by
  simp only[Vc.ah,iK];exact cx.ah (m:=m) (h.qE o c)
def ur(t:Nat):List Nat->Bool
 |[]=>false
 |u::r=>Nat.beq u t||ur t r
def FY{t:Nat}:∀{M:List Nat},ur t M=true->t∈M
 |[],h=>by simp[ur]at h
 |u::r,h=>by
  simp only[ur,bT]at h;rcases h with h|h
  ·rw[bo h];exact aX
  ·exact ai _ (FY h)
def KD(n:Nat):Fr->List Nat->List Nat
 |[],_=>[]
 |(q,x)::r,a=>bif Nat.ble n q&&!ur q a then
  match x with
  | .box b _ _=>b::KD n r (q::a)
  | .yL b _ _=>b::KD n r (q::a)
  |_=>KD n r (q::a)
  else KD n r a
def dR(l:List Nat)(m a:J):Prop:=∀b∈l,a[b]? =m[b]?
def zm(l:List Nat)(m a:J)(k:Prop):Prop:=
 match l with
 |[]=>k
 |_=>dR l m a/\k
def lS{l:List Nat}{k:Prop}(h:zm l m a k):dR l m a/\k:=by
 unfold zm at h;split at h
 ·exact⟨(λb c=>by cases c),h⟩
 ·exact h
def Fs{n:Nat}{q b e:Nat}{l:List Ce}(c:n<=q):∀{j:Fr}{a:List Nat},q∉a->lg j q b e l->b∈KD n j a
 |[],a,_,h=>by rcases h with h|h<;>simp[gJ]at h
 |(u,x)::r,a,g,h=>by
  simp only[KD];cases f:Nat.beq u q
  ·have k:u≠q:=λe=>by subst e;simp at f
   have d:lg r q b e l:=by
    unfold lg at h⊢;simpa only[gJ,f,me]using h
   have i:q∉u::a:=by
    simp only[aU,tn];exact⟨λe=>k e.symm,g⟩
   cases(Nat.ble n u&&!ur u a)
   ·exact Fs c g d
   ·simp only[iX];split
    ·exact ai _ (Fs c i d)
    ·exact ai _ (Fs c i d)
    ·exact Fs c i d
  ·have:=bo f;subst this;have i:ur u a=false:=by
    cases k:ur u a
    ·rfl
    ·exact absurd (FY k) g
   have d:Nat.ble n u=true:=VX c;simp only[i,d,Ky,Bool.and_self,iX];unfold lg at h;simp only[gJ,f,iX]at h;rcases h with h|h<;>rw[h]<;>exact aX
def Bx.fI{c:Fr}(h:Bx n c m){x:SV}(i:∀b e l,x≠.box b e l/\x≠.yL b e l):Bx n ((q,x)::c) m:=by
 have d:∀{u b e l},lg ((q,x)::c) u b e l->lg c u b e l:=by
  intro u b e l a;unfold lg at a⊢;simp only[gJ]at a;cases g:Nat.beq q u
  ·rw[g]at a;exact a
  ·rw[g]at a;rcases a with a|a
   ·exact absurd a (i b e l).1
   ·exact absurd a (i b e l).2
 exact⟨λq b e l f=>h.E q b e l (d f),λq t b e l j k s r o p=>h.Ml q t b e l j k s r (d o) (d p),λq b e l f=>h.key q b e l (d f)⟩
def SV.WC(x:SV)(b e:Nat)(l:List Ce):x.nb≠.box b e l/\x.nb≠.yL b e l:=by
 cases x<;>exact⟨by simp[SV.nb],by simp[SV.nb]⟩
def Bx.put{a:Fr}(h:Bx n a m)(d:Option Nat)(x:SV):Bx n (tr a d x) m:=by
 cases d with
 |none=>exact h
 |some d=>exact h.fI (SV.WC x)
def Bx.dv{c:Fr}(h:Bx n c m)(f:dR (KD n c []) m a):Bx n c a:=
 ⟨λq b e l d=>by rw[f b (Fs (h.key q b e l d) aJ d)];exact h.E q b e l d,h.Ml,h.key⟩
def Bx.push{a:Fr}(h:Bx n a m)(o:Obj):Bx n a (m.push o):=
 ⟨λq b e l d=>by
  have c:=h.E q b e l d;have f:=(Array.getElem?_eq_some_iff.1 c).1;rw[ms,ae V];exact c,h.Ml,h.key⟩
def Bx.new{d:Fr}(h:Bx n d m)(x:n<=q)(t:Nat)(l:List Ce):Bx n ((q,.box m.size t l)::d) (m.push (.cells (bC l) t)):=by
 have w:=h.push (.cells (bC l) t);have p:∀{u b e l},lg d u b e l->b<m.size:=λa=>(Array.getElem?_eq_some_iff.1 (h.E _ _ _ _ a)).1;have g:∀{u b e c},lg ((q,.box m.size t l)::d) u b e c->(u=q/\b=m.size/\e=t/\c=l)\/(u≠q/\lg d u b e c):=by
  intro u b e c a;unfold lg at a⊢;simp only[gJ]at a;cases f:Nat.beq q u
  ·rw[f]at a;exact Or.inr ⟨λe=>by subst e;simp at f,a⟩
  ·rw[f]at a;have:=bo f;subst this;rcases a with a|a
   ·simp at a;exact Or.inl ⟨rfl,a.1.symm,a.2.1.symm,a.2.2.symm⟩
   ·simp at a
 refine⟨λu b e c a=>?_,λu B b e z r s A o v k=>?_,λu b e c a=>?_⟩
 ·rcases g a with⟨rfl,rfl,rfl,rfl⟩|⟨_,a⟩
  ·simp[bC]
  ·exact w.E u b e c a
 ·rcases g v with⟨rfl,rfl,rfl,rfl⟩|⟨f,j⟩
  ·rcases g k with⟨rfl,rfl,rfl,rfl⟩|⟨y,i⟩
   ·exact absurd rfl o
   ·have:=p i;omega
  ·rcases g k with⟨rfl,rfl,rfl,rfl⟩|⟨y,i⟩
   ·have:=p j;omega
   ·exact h.Ml u B b e z r s A o j i
 ·rcases g a with⟨rfl,rfl,rfl,rfl⟩|⟨_,a⟩
  ·exact x
  ·exact h.key u b e c a
def Bx.rh{j:Fr}(h:Bx n j m){f:List Ce}(E:gJ j q=.box b e f)(o:Nat)(l:List Ce):Bx n ((q,.box b e (iK f o l))::j) (ah m b o l):=by
 have k:lg j q b e f:=Or.inl E;have D:cx m b e f:=h.E q b e f k;have p:∀{u c d g},lg ((q,.box b e (iK f o l))::j) u c d g->(u=q/\c=b/\d=e/\g=iK f o l)\/(u≠q/\lg j u c d g):=by
  intro u c d g a;unfold lg at a⊢;simp only[gJ]at a;cases i:Nat.beq q u
  ·rw[i]at a;exact Or.inr ⟨λe=>by subst e;simp at i,a⟩
  ·rw[i]at a;have:=bo i;subst this;rcases a with a|a
   ·simp at a;exact Or.inl ⟨rfl,a.1.symm,a.2.1.symm,a.2.2.symm⟩
   ·simp at a
 refine⟨λu c d g a=>?_,λu s b1 t A b2 v B y C x=>?_,λu c d g a=>?_⟩
 ·rcases p a with⟨rfl,rfl,rfl,rfl⟩|⟨i,a⟩
  ·exact cx.ah (m:=m) D
  ·rw[bt l m b o (h.Ml u q c d g b e f i a k)];exact h.E u c d g a
 ·rcases p C with⟨rfl,rfl,rfl,rfl⟩|⟨i,w⟩
  ·rcases p x with⟨rfl,rfl,rfl,rfl⟩|⟨z,r⟩
   ·exact absurd rfl y
   ·exactλe=>h.Ml s u b2 v B _ _ _ z r k e.symm
  ·rcases p x with⟨rfl,rfl,rfl,rfl⟩|⟨z,r⟩
   ·exact h.Ml u s b1 t A _ _ _ i w k
   ·exact h.Ml u s b1 t A b2 v B y w r
 ·rcases p a with⟨rfl,rfl,rfl,rfl⟩|⟨_,a⟩
  ·exact h.key u c d f k
  ·exact h.key u c d g a
def Eh(a:Fr):List Ce->Option Fr
 |[]=>some a
 | .bp q _ _::r=>match gJ a q with
  | .yL _ _ _=>none
  |_=>Eh ((q,.fI)::a) r
 |_::r=>Eh a r
def AV.Ta:AV->List Ce
 | .c x=>[x]
 | .agg l=>l
def SV.Ta:SV->List Ce
 | .c x=>[x]
 | .agg l=>l
 | .VD l=>l.flatMap AV.Ta
 |_=>[]
def RK(a:Fr)(l:List SV):Option Fr:=Eh a (l.flatMap SV.Ta)
def pM{n:Nat}{f:Act}{m:J}:∀{l:List Ce}{a c:Fr},Eh a l=some c->jz n a f->Bx n a m->jz n c f/\Bx n c m
 |[],a,c,h,e,d=>by simp[Eh]at h;subst h;exact⟨e,d⟩
 |g::r,a,c,h,e,d=>by
  cases g with
  |bp q b o=>
   simp only[Eh]at h;split at h
   ·simp at h
   ·exact pM h (e.fI q) (d.fI aJ)
  |_=>exact pM (l:=r) (by simpa[Eh]using h) e d
end Go.Vc
end
section
namespace Go.Vc
variable{P:Program}{T:TT}
def MG(m:J)(k:J->Prop):Prop:=k m
def jh(m:J)(f:Nat)(b:List Ce)(e:Nat)(s x:O)(k:O->J->Prop):Prop:=
 ∃a:List Ce,a.length=x.len*b.length/\fZ m x.E x.off a/\
  (s.len+x.len<=s.cap->dZ m s.E (s.off+s.len*b.length) a.length/\
   k (match s with| .nil=>.nil| .mk d o l c=>.mk d o (l+x.len) c| .A2 d o g=>.A2 d o g) (ah m s.E (s.off+s.len*b.length) a))/\
  (s.cap<s.len+x.len->(s.len+x.len)*e<=140737488355328/\∃old:List Ce,old.length=s.len*b.length/\fZ m s.E s.off old/\
   ∀c,s.len+x.len<=c->k (.mk m.size 0 (s.len+x.len) c) (m.push (.cells (bC (old++a++nj b (c -(s.len+x.len)))) f)))
def Vn(m:J)(c:Nat)(s x:O)(k:SV->J->Prop):Prop:=
 ∃a:List Ce,a.length=Nat.min x.len s.len*c/\fZ m x.E x.off a/\dZ m s.E s.off a.length/\
  MG (ah m s.E s.off a) λb=>k (.c (.i (Nat.min x.len s.len:Nat))) b
def SD:List Sh->(List Ce->Prop)->Prop
 |[],k=>k []
 |s::r,k=>∃x:s.ty,SD r λl=>k (s.mk x::l)
def QH(T:TT):List Nat->(List AV->Prop)->Prop
 |[],k=>k []
 |t::r,k=>match fu T t with
  |some ⟨.struct _,b,_⟩=>SD b λl=>QH T r λa=>k (.agg l::a)
  |some ⟨.cell,[s],_⟩=>∃x:s.ty,QH T r λa=>k (.c (s.mk x)::a)
  |some ⟨.slice _,[_],_⟩=>∃x:O,QH T r λa=>k (.c (.s x)::a)
  |_=>False
def Ov(T:TT)(t:Nat)(v:Value)(k:SV->Prop):Prop:=
 match fu T t with
 |some ⟨.tuple [],_,_⟩=>k .fI
 |some ⟨.tuple a,_,_⟩=>QH T a λl=>v=.tuple (l.map AV.v).toArray/\k (.VD l)
 |some ⟨.struct _,a,_⟩=>SD a λl=>v=.agg (l.map Ce.v).toArray/\k (.agg l)
 |some ⟨.cell,[s],_⟩=>∃x:s.ty,v=(s.mk x).v/\k (.c (s.mk x))
 |some ⟨.slice _,[_],_⟩=>∃x:O,v=x.v/\k (.c (.s x))
 |_=>False
def Ru(P:Program)(T:TT)(G:List Nat)(n:Nat)(a:Fr)(m:J)(e:Nat)(h:Operand)(b:List Operand)(k:Fr->SV->J->Prop):Prop:=
 match RK a (b.map (ev a))with
 |none=>False
 |some d=>match ev a h with
  | .c (.fn (.func g) first f)=>bif G.elem g&&b.all (λx=>(ev a x).iZ)then
   aL P g (first.toList++(b.map λx=>(ev a x).v)++f.toList) m λv c=>zm (KD n d []) m c (Ov T e v λx=>k d x c)
   else False
  | .c (.fv q)=>bif b.all (λx=>(ev a x).iZ)then
   ∃g,q.1=.func g/\G.elem g=true/\aL P g (q.2.1.toList++(b.map λx=>(ev a x).v)++q.2.2.toList) m λv c=>zm (KD n d []) m c (Ov T e v λx=>k d x c)
   else False
  |_=>False
def Cr(m:J)(b:Nat)(l:List (Int×Int)):Prop:=
 ∃a c,m[b]? =some (.map a c)/\a.toList.map (λe=>(e.key,e.val))=l.map λp=>(Value.int .i64 p.1,Value.int .i64 p.2)
def uv(l:List (Int×Int))(k:Int):Int:=
 match l with
 |[]=>0
 |(j,v)::r=>if k=j then v else uv r k
def HW(l:List (Int×Int))(k v:Int):List (Int×Int):=
 match l with
 |[]=>[(k,v)]
 |(j,u)::r=>if k=j then(j,v)::r else(j,u)::HW r k v
def wz(T:TT)(d:Fr)(b:Nat):List Ce->List (Nat×Operand)->(List Ce->Prop)->Prop
 |a,[],k=>k a
 |a,(i,x)::r,k=>
  match(ev d x).cells with
  |some c=>bif Nat.beq c.length b&&Nat.ble (i*b+c.length) a.length then wz T d b (lH a (i*b) c) r k else False
  |none=>False
def QN(n:Nat)(b:Fr)(d:Option Nat)(m:J)(t:Nat)(l:List Ce)(k:Fr->SV->J->Prop):Prop:=
 match d with
 |some a=>match gJ b (n+a)with
  | .yL _ _ _=>False
  |_=>MG (m.push (.cells (bC l) t)) λc=>k ((n+a,.box m.size t l)::b) (.c (.bp (n+a) m.size 0)) c
 |none=>MG (m.push (.cells (bC l) t)) λc=>k b (.c (.p m.size 0)) c
def Nc(n:Nat)(c:Fr)(m:J)(x:SV)(l:List Ce)(k:Fr->SV->J->Prop):Prop:=
 match x with
 | .c (.p b o)=>dZ m b o l.length/\MG (ah m b o l) λa=>zm (KD n c []) m a (k c .un a)
 | .c (.bp q b o)=>match gJ c q with
  | .box d f e=>bif Nat.ble (o+l.length) e.length then qP d b (MG (ah m b o l) λa=>k ((q,.box d f (iK e o l))::c) .un a)else False
  | .yL _ _ _=>False
  |_=>dZ m b o l.length/\MG (ah m b o l) λa=>zm (KD n c []) m a (k c .un a)
 |_=>False
def wr(P:Program)(T:TT)(G:List Nat)(n:Nat)(a:Fr)(m:J)(h:Option Nat)(o:Nat)(k:Fr->SV->J->Prop):Op->Prop
 | .alloc t=>match fu T t with
  |some f=>bif f.tP then False else QN n a h m t (f.sh.map Sh.zero) k
  |none=>False
 | .box t x=>match(ev a x).cells with
  |some l=>match Eh a l with
   |some d=>QN n d h m t l k
   |none=>False
  |none=>False
 | .buildSlice t g i=>match fu T t with
  |some ⟨.slice e,_,_⟩=>match fu T e with
   |some c=>bif c.tP||!(Nat.ble (g*c.sh.length) 16777216)then False else
    wz T a c.sh.length (nj (c.sh.map Sh.zero) g) i.toList λl=>match Eh a l with
     |some d=>MG (m.push (.cells (bC l) e)) λb=>k d (.c (.s (.mk m.size 0 g g))) b
     |none=>False
   |none=>False
  |_=>False
 | .store t x y=>match(ev a y).cells,fu T t with
  |some l,some f=>bif f.tP||!(Nat.beq l.length f.sh.length)then False else match Eh a l with
   |some d=>Nc n d m (ev a x) l k
   |none=>False
  |_,_=>False
 | .makeSlice t x y=>match fu T t,ev a x,ev a y with
  |some ⟨.slice e,_,_⟩,.c (.i l),.c (.i f)=>match fu T e with
   |some c=>bif c.tP then False else 0<=l/\l<=f/\(c.bytes:Int)*f<=281474976710656/\f<=9223372036854775807/\
    MG (m.push (.cells (bC (nj (c.sh.map Sh.zero) f.toNat)) e)) λb=>k a (.c (.s (.mk m.size 0 l.toNat f.toNat))) b
   |none=>False
  |_,_,_=>False
 | .makeFunc g first f=>bif first.toList.all (λx=>(ev a x).iZ)&&f.toList.all (λx=>(ev a x).iZ)then
  match RK a (first.toList.map (ev a)++f.toList.map (ev a))with
  |some d=>k d (.c (.fn g (first.toList.map λx=>(ev a x).v).toArray (f.toList.map λx=>(ev a x).v).toArray)) m
  |none=>False
  else False
 | .makeMap _ none=>MG (m.push (.map #[] 0)) λb=>k a (.c (.mp m.size)) b
 | .lookup t x y false=>match fu T t,ev a x,ev a y with
  |some ⟨.map f g,_,_⟩,.c (.mp d),.c (.i n)=>match fu T f,fu T g with
   |some ⟨.cell,[.I],_⟩,some ⟨.cell,[.I],_⟩=>∃l,Cr m d l/\k a (.c (.i (uv l n))) m
   |_,_=>False
  |_,_,_=>False
 | .mapUpdate t x y z=>match fu T t,ev a x,ev a y,ev a z with
  |some ⟨.map f _,_,_⟩,.c (.mp d),.c (.i g),.c (.i v)=>match fu T f with
   |some ⟨.cell,[.I],_⟩=>∃l,Cr m d l/\∀b,Cr b d (HW l g v)->b.size=m.size->(∀j,j≠d->b[j]? =m[j]?)->zm (KD n a []) m b (k a .un b)
   |_=>False
  |_,_,_,_=>False
 | .call ⟨.value f,d,_⟩=>Ru P T G n a m o f d.toList k
 | .call ⟨.builtin .append,d,f⟩=>match d.toList,f.toList with
  |[x,y],[t,u]=>match fu T t,fu T u,ev a x,ev a y with
   |some ⟨.slice e,_,_⟩,some ⟨.slice _,_,_⟩,.c (.s s),.c (.s z)=>match fu T e with
    |some c=>bif c.tP||Nat.beq c.bytes 0 then False else jh m e (c.sh.map Sh.zero) c.bytes s z λr b=>zm (KD n a []) m b (k a (.c (.s r)) b)
    |none=>False
   |_,_,_,_=>False
  |_,_=>False
 | .call ⟨.builtin .copy,d,f⟩=>match d.toList,f.toList with
  |[x,y],t::_=>match fu T t,ev a x,ev a y with
   |some ⟨.slice e,_,_⟩,.c (.s s),.c (.s z)=>match fu T e with
    |some c=>bif c.tP then False else Vn m c.sh.length s z λx b=>zm (KD n a []) m b (k a x b)
    |none=>False
   |_,_,_=>False
  |_,_=>False
 |_=>False
def FI(P:Program)(g:Nat):Bool:=
 match P.funcs[g]? with
 |some a=>!(a.name== "runtime.NumGoroutine")&&a.body.isSome
 |none=>false
def SK(P:Program)(G:List Nat):Prop:=G.all (FI P)=true
def OU(a:List Ce):∀(n i:Nat),i<n*a.length->(nj a n)[i]? =a[i%a.length]?
 |0,i,h=>by simp at h
 |n+1,i,h=>by
  have c:0<a.length:=by
   rcases kX a.length with e|e
   ·rw[e]at h;simp at h
   ·exact e
  have e:nj a (n+1)=a++nj a n:=by simp[nj,pY]
  rw[e,List.getElem?_append];split
  ·rename_i b;rw[Nat.mod_eq_of_lt b]
  ·rename_i b;rw[OU a n (i -a.length) (by rw[gq,Nat.one_mul]at h;omega)];congr 1;rw[Nat.mod_eq_sub_mod (by omega:i>=a.length)]
def qM(a:List Ce)(n:Nat):(nj a n).length=n*a.length:=by
 simp[nj]
def Hf(a:List Ce)(z:Array Value)(d:z.toList=a.map Ce.v)(n:Nat):
 (Array.range (n*a.length)).map (λi=>z[i%z.size]!)=bC (nj a n):=by
 apply AB
 intro i
 have j:z.size=a.length:=by rw[<-XG,d];simp
 by_cases b:i<n*a.length
 ·have f:=OU a n i b
  have h:0<a.length:=by
   rcases kX a.length with e|e
   ·rw[e]at b;simp at b
   ·exact e
  have g:i%a.length<a.length:=Nat.mod_lt _ h
  have c:(bC (nj a n))[i]? =((nj a n)[i]?).map Ce.v:=by simp[bC]
  rw[c,f,<-cU,<-d]
  simp[b,j,g]
 ·have c:(bC (nj a n))[i]? =none:=by simp[bC,qM];omega
  rw[c]
  simp[b]
end Go.Vc
end
section
namespace Go.Vc
variable{c:SV}{l:List Ce}{t:TypeId}
variable{d:Program}{T:TT}{G:List Nat}
def Ce.Tq(c:Ce):c.v.oneCell'=true:=by
 cases c with
 |s y=>cases y<;>rfl
 |_=>rfl
def j8:∀(l:List Ce)(w:World)(b o:Nat),(w.setCells b o (l.map Ce.v)).heap=ah w.heap b o l
 |[],_,_,_=>rfl
 |c::r,w,b,o=>by
  simp only[cE,World.setCells,ah];rw[j8 r,MO]
def qo:∀(l:List Value)(w:World)(a o:Nat),oL w (w.setCells a o l)
 |[],w,_,_=>oL.az w
 |c::r,w,a,o=>by
  simp only[World.setCells];exact oL.trans (b:=w.setCell ⟨a,o,none⟩ c) ⟨rfl,rfl,rfl⟩ (qo r _ a (o+1))
def C1(l:List Ce)(b o:Nat)(w:World)(h:dZ w.heap b o l.length):
 (storeCells ⟨b,o,none⟩ (l.map Ce.v)).run d w=.ok () (w.setCells b o (l.map Ce.v)):=by
 have:=run_storeCells_cells (P:=d) b o (l.map Ce.v) 0 w
  (λj a=>by have:=(h j (by simpa using a)).1;rw[yO];simpa using this)
  (λj a=>by have:=(h j (by simpa using a)).2;rw[Pk];simpa using this)
  (λv a=>by obtain⟨c,_,rfl⟩:=List.mem_map.1 a;exact c.Tq)
 simpa using this
def Ox(l:List Ce)(b o:Nat)(a:World)(h:fZ a.heap b o l):(loadCells ⟨b,o,none⟩ l.length).run d a=.ok (bC l) a:=by
 have:=run_loadCells_list (P:=d) (w:=a) ⟨b,o,none⟩ (l.map Ce.v) (λj v c=>by
  rw[uW,yO];rw[cU]at c;obtain⟨e,f,rfl⟩:=Option.map_eq_some_iff.1 c;exact h j e f)
 simpa[bC]using this
section
variable{n:Nat}{b:Fr}{a:Act}{m:J}{k:Fr->SV->J->Prop}{e:Option Tmp}{f:TypeId}{i:String}{g:Array Edge}{h:Option (Nat×Bool)}
def DW(d:Program)(n:Nat)(a:Act)(m:J)(o:Oper)(k:Fr->SV->J->Prop):Prop:=
 ∀(w:World),w.heap=m->∀(f:Act->World->Prop)(Q:Exit->Act->World->Prop),
  (∀e c v b,k e c b.heap->jz n e a->Bx n e b.heap->c.Is v->oL w b->f (a.put o.dst v) b)->o.wp d a w f Q
def jd{o:Oper}{e:Fr}{v:Value}{w b:World}(h:jz n e a)(g:Bx n e b.heap)(p:c.Is v)(m:oL w b)(i:k e c b.heap)(l:(execOp a.eval o).run d w=.ok (.value v) b)
 {f:Act->World->Prop}{Q:Exit->Act->World->Prop}(j:∀e c v b,k e c b.heap->jz n e a->Bx n e b.heap->c.Is v->oL w b->f (a.put o.dst v) b):o.wp d a w f Q:=by
 unfold Oper.wp
 rw[l]
 exact j e c v b i h g p m
def LA{i:Option Nat}{t:Nat}(g:jz n b a)(f:Bx n b m)(h:QN n b i m t l k):
 ∃d c,jz n d a/\Bx n d (m.push (.cells (bC l) t))/\c.Is (.pointer (some ⟨m.size,0,none⟩))/\k d c (m.push (.cells (bC l) t)):=by
 unfold QN at h
 split at h
 ·split at h
  ·exact h.elim
  ·rename_i e _ j
   exact⟨(n+e,.box m.size t l)::b,.c (.bp (n+e) m.size 0),g.cons _ (λ_=>trivial),f.new (ZZ _ _) t l,rfl,h⟩
 ·exact⟨b,.c (.p m.size 0),g,f.push _,rfl,h⟩
def OJ(s:jz n b a)(g:Bx n b m)(h:Nc n b m c l k):
 ∃p d o,jz n p a/\Bx n p (ah m d o l)/\(∀v,c.Is v->v=.pointer (some ⟨d,o,none⟩))/\dZ m d o l.length/\k p .un (ah m d o l):=by
 unfold Nc at h
 split at h
 ·obtain⟨q,r⟩:=lS h.2
  exact⟨_,_,_,s,g.dv q,λv e=>e,h.1,r⟩
 ·split at h
  ·rename_i w d o _ i j f u
   cases t:Nat.ble (o+l.length) f.length
   ·rw[t]at h;exact h.elim
   ·rw[t]at h
    obtain⟨rfl,h⟩:=h
    have x:cx m i j f:=g.E w i j f (Or.inl u)
    exact⟨(w,.box i j (iK f o l))::b,_,_,s.cons _ (λ_=>trivial),g.rh u o l,λv e=>e,x.dZ (k8 t),h⟩
  ·exact h.elim
  ·obtain⟨q,r⟩:=lS h.2
   exact⟨_,_,_,s,g.dv q,λv e=>e,h.1,r⟩
 ·exact h.elim
def Pb(y:tp d T)(s:jz n b a)(q:Bx n b m)(j:wr d T G n b m e f k (.alloc t)):DW d n a m ⟨e,.alloc t,f,i,g,h⟩ k:=by
 intro l D L Q B
 subst D;simp only[wr]at j;split at j
 ·rename_i p C;cases o:p.tP
  ·rw[o]at j;obtain⟨I,F,H,K⟩:=vv y C o;have z:I.cells=bC (p.sh.map Sh.zero):=by apply Array.toList_inj.1;simp[F,bC]
   obtain⟨J,c,u,r,E,A⟩:=LA s q j;refine jd (w:=l) (c:=c) (v:=.pointer (some ⟨l.heap.size,0,none⟩)) (b:={l with heap:=l.heap.push (.cells (bC (p.sh.map Sh.zero)) t)}) u r E ⟨rfl,rfl,rfl⟩ A ?_ B;simp[execOp,Instr.alloc,H,newVar,newRow,z]
  ·rw[o]at j;exact j.elim
 ·exact j.elim
def Ry(p:jz n b a)(q:Bx n b m){c:Operand}(j:wr d T G n b m e f k (.box t c)):DW d n a m ⟨e,.box t c,f,i,g,h⟩ k:=by
 intro o F L Q E
 subst F;simp only[wr]at j;split at j
 ·rename_i l D;split at j
  ·rename_i K A;obtain⟨y,s⟩:=pM A p q;obtain⟨B,z⟩:=oQ D;obtain⟨J,I,u,r,H,C⟩:=LA y s j;refine jd (w:=o) (c:=I) (v:=.pointer (some ⟨o.heap.size,0,none⟩)) (b:={o with heap:=o.heap.push (.cells (bC l) t)}) u r H ⟨rfl,rfl,rfl⟩ C ?_ E;simp[execOp,Instr.box,newVar,newRow,p.eq rfl B,z,bC]
  ·exact j.elim
 ·exact j.elim
def KG(q:jz n b a)(y:Bx n b m){o:Fn}{first l:Array Operand}(j:wr d T G n b m e f k (.makeFunc o first l)):DW d n a m ⟨e,.makeFunc o first l,f,i,g,h⟩ k:=by
 intro r D F Q C
 subst D;simp only[wr]at j;cases p:(first.toList.all (λc=>(ev b c).iZ)&&l.toList.all (λc=>(ev b c).iZ))
 ·rw[p]at j;exact j.elim
 ·rw[p]at j;simp only[bK]at p;obtain⟨u,x⟩:=p;have s:(first.toList.map λc=>(ev b c).v).toArray=first.map a.eval:=by
   apply Array.toList_inj.1;simp[AK q u]
  have t:(l.toList.map λc=>(ev b c).v).toArray=l.map a.eval:=by
   apply Array.toList_inj.1;simp[AK q x]
  simp only[iX]at j;split at j
  ·rename_i E B;obtain⟨A,z⟩:=pM B q y;refine jd (w:=r) (b:=r) A z (v:=.func o (first.map a.eval) (l.map a.eval)) ?_ (oL.az r) j ?_ C
   ·show Value.func o (first.map a.eval) (l.map a.eval)=Value.func o _ _;rw[s,t]
   ·simp[execOp,Instr.makeFunc]
  ·exact j.elim
def HD(p:jz n b a)(e:Nat):
 ∀(q:List (Nat×Operand))(d:List Ce)(k:List Ce->Prop),wz T b e d q k->
  ∃l,k l/\Instr.fill (λi=>some (i*e,e)) (d.map Ce.v).toArray (q.map λf=>(f.1,a.eval f.2))=some (l.map Ce.v).toArray
 |[],d,k,h=>⟨d,h,rfl⟩
 |(i,c)::z,d,k,h=>by
  simp only[wz]at h;split at h
  ·rename_i f x;cases g:(Nat.beq f.length e&&Nat.ble (i*e+f.length) d.length)
   ·rw[g]at h;exact h.elim
   ·rw[g]at h;simp only[bK]at g;obtain⟨m,o⟩:=g;have m:=bo m;have o:=k8 o;obtain⟨l,u,w⟩:=HD p e z (lH d (i*e) f) k h;refine⟨l,u,?_⟩;obtain⟨v,t⟩:=oQ x;have y:a.eval c=(ev b c).v:=p.eq rfl v;simp only[cE,Instr.fill,y,t,CF,dL,m];rw[ae bR,<-w];congr 1;apply AB;intro j;have r:=Lu (f.map Ce.v) 0 (i*e) (d.map Ce.v).toArray j;rw[<-YT,XH];have s:=AN d (i*e) f j o;rw[show((List.map Ce.v (lH d (i*e) f)).toArray)[j]? =((lH d (i*e) f)[j]?).map Ce.v by simp,s];rw[r];simp;split<;>split<;>first|rfl|(exfalso;omega)|(congr 1;omega)
  ·exact h.elim
def HK(B:tp d T)(D:jz n b a)(N:Bx n b m){j:Nat}{z:Array (Nat×Operand)}(o:wr d T G n b m e f k (.buildSlice t j z)):DW d n a m ⟨e,.buildSlice t j z,f,i,g,h⟩ k:=by
 intro q U ad Z Q
 subst U;simp only[wr]at o;split at o
 ·rename_i L sh aa S;split at o
  ·rename_i p H;cases r:(p.tP||!(Nat.ble (j*p.sh.length) 16777216))
   ·rw[r]at o;simp only[bq,YU]at r;have ab:=k8 r.2;have I:=(jD (B.xE S)).1;obtain⟨K,W,X,ac⟩:=vv B H r.1;have F:=λq=>jJ B H r.1 q;obtain⟨l,y,s⟩:=HD D _ _ _ _ o;cases C:Eh b l with
    |none=>rw[C]at y;exact y.elim
    |some u=>
    rw[C]at y;obtain⟨P,O⟩:=pM C D N;refine jd (w:=q) (c:=.c (.s (.mk q.heap.size 0 j j))) (v:=.slice (some ⟨q.heap.size,0,none⟩) j j) (b:={q with heap:=q.heap.push (.cells (bC l) L)}) P (O.push _) rfl ⟨rfl,rfl,rfl⟩ y ?_ Q;have E:(z.map λu=>(u.1,a.eval u.2)).toList=z.toList.map λu=>(u.1,a.eval u.2):=aJ;have Y:K.cells.toList=(p.sh.map Sh.zero).map Ce.v:=by simp[W]
    have J:(p.sh.map Sh.zero).length=p.sh.length:=aJ;have jk:=Hf (p.sh.map Sh.zero) K.cells Y j;rw[J]at jk;by_cases A:j*p.sh.length=0
    ·have R:nj (p.sh.map Sh.zero) j=[]:=by
      apply List.length_eq_zero_iff.1;rw[qM,J,A]
     rw[R]at s;simp only[execOp,Instr.buildSlice,Sem.run_bind,run_underlying I,Result.andThen_ok,F,A];simp only[E];have M:(Array.map (λc=>(default:Value)) (Array.range 0))=#[]:=aJ;simp at s⊢;rw[M,s];simp[newRow,bC]
    ·simp only[execOp,Instr.buildSlice,Sem.run_bind,run_underlying I,Result.andThen_ok,F,A,pC];have:¬(j*p.sh.length>2^24):=V;simp only[this,pC,X,Sem.run_bind,Sem.run_pure,Result.andThen_ok,E];rw[jk];simp only[bC]at s⊢;simp[s,newRow]
   ·rw[r]at o;exact o.elim
  ·exact o.elim
 ·exact o.elim
def Pc(C:tp d T)(q:jz n b a)(v:Bx n b m){c y:Operand}(j:wr d T G n b m e f k (.store t c y)):DW d n a m ⟨e,.store t c y,f,i,g,h⟩ k:=by
 intro w R Y W K
 subst R;simp only[wr]at j;split at j
 ·rename_i l s I Q;cases o:(s.tP||!(Nat.beq l.length s.sh.length))
  ·rw[o]at j;simp only[me]at j;simp only[bq,YU]at o;split at j
   ·rename_i X E;obtain⟨B,z⟩:=pM E q v;obtain⟨u,p,r,A,x,S,L,F⟩:=OJ B z j;have J:=bo o.2;obtain⟨H,D⟩:=oQ I;have O:=λw=>jJ C Q o.1 w;unfold Oper.wp;have M:(execOp a.eval ⟨e,.store t c y,f,i,g,h⟩).run d w=.ok .skip (w.setCells p r (l.map Ce.v)):=by
     have N:=C1 (d:=d) l p r w L;have U:a.eval c=.pointer (some ⟨p,r,none⟩):=S _ (q.ev c);have V:(a.eval y).cells=(l.map Ce.v).toArray:=by rw[q.eq rfl H,D]
     simp only[execOp,Instr.storeAt,U,Instr.sureAddr,storeVar,Sem.run_bind,Sem.run_pure,Result.andThen_ok,O,V,CF,dL,J];simp[N]
    rw[M];exact K u .un undef _ (by rw[j8];exact F) A (by rw[j8];exact x) rfl (qo _ _ _ _)
   ·exact j.elim
  ·rw[o]at j;exact j.elim
 ·exact j.elim
end
end Go.Vc
end
section
namespace Go.Vc
variable{b y f:Operand}{t:TypeId}{e:Array TypeId}
variable{c:Program}{T:TT}{G:List Nat}
section
variable{n:Nat}{g:Fr}{a:Act}{m:J}{k:Fr->SV->J->Prop}{i:Option Tmp}{h:TypeId}{o:String}{j:Array Edge}{l:Option (Nat×Bool)}
def Nm{b:Int}(e: -9223372036854775808<=b)(f:b<=9223372036854775807):IntKind.i64.wrap b=b:=by
 have a:((2:Int)^IntKind.i64.bits)=18446744073709551616:=bh;have c:((2:Int)^(IntKind.i64.bits -1))=9223372036854775808:=bh;have d:IntKind.i64.signed=true:=rfl;simp only[IntKind.wrap,a,c,d,LY,au];split<;>omega
def aP{b:Int}(a: -9223372036854775808<=b)(c:b<=9223372036854775807):cR b=b:=Nm a c
def Jm(s:tp c T)(u:jz n g a)(F:Bx n g m)(e:wr c T G n g m i h k (.makeSlice t b y)):DW c n a m ⟨i,.makeSlice t b y,h,o,j,l⟩ k:=by
 intro q U ah ad J
 subst U;simp only[wr]at e;split at e
 ·rename_i D sh ae p d Q Y hy;split at e
  ·rename_i f z;cases r:f.tP
   ·rw[r]at e;obtain⟨h0,h1,h2,h3,I⟩:=e;have S:=(jD (s.xE Q)).1;obtain⟨C,hz,ab,ag⟩:=vv s z r;obtain⟨ti,H,af,R,_⟩:=EH s z r;have P:=λq=>jJ s z r q;refine jd (w:=q) (c:=.c (.s (.mk q.heap.size 0 p.toNat d.toNat))) (v:=.slice (some ⟨q.heap.size,0,none⟩) p.toNat d.toNat) (b:={q with heap:=q.heap.push (.cells (bC (nj (f.sh.map Sh.zero) d.toNat)) D)}) u (F.push _) rfl ⟨rfl,rfl,rfl⟩ I ?_ J;have ac:C.cells.toList=(f.sh.map Sh.zero).map Ce.v:=by simp[hz]
    have B:(f.sh.map Sh.zero).length=f.sh.length:=aJ;have jk:=Hf (f.sh.map Sh.zero) C.cells ac d.toNat;rw[B]at jk;have Z:a.eval b=.int .i64 p:=u.eq Y rfl;have aa:a.eval y=.int .i64 d:=u.eq hy rfl;have X:IntKind.i64.wrap p=p:=Nm V V;have W:IntKind.i64.wrap d=d:=Nm V V;have K:¬d<0:=V;have L:¬((f.bytes:Int)*d>2^48):=by
     have:(2:Int)^48=281474976710656:=bh;omega
    have M:¬p<0:=V;have N:¬p>d:=V;simp only[execOp,Instr.makeSlice,Sem.run_bind,run_underlying S,Result.andThen_ok,asInt,asIntOf,Z,aa,Sem.run_pure,R,X,W,H];simp only[K,L,M,N,decide_false,TG,jx,pC];simp only[Sem.run_bind,Sem.run_pure,Result.andThen_ok,run_askRoom,P];by_cases A:d.toNat*f.sh.length=0
    ·have O:nj (f.sh.map Sh.zero) d.toNat=[]:=by
      apply List.length_eq_zero_iff.1;rw[qM,B,A]
     rw[O];have E:(Array.map (λb=>(default:Value)) (Array.range 0))=#[]:=aJ;simp[A,newRow,bC];rw[E]
    ·simp only[A,pC,Sem.run_bind,ab,Result.andThen_ok,Sem.run_pure];rw[jk];simp[newRow]
   ·rw[r]at e;exact e.elim
  ·exact e.elim
 ·exact e.elim
def Jp:∀{c:List Sh}{k:List Ce->Prop},SD c k->∃l,k l
 |[],_,h=>⟨_,h⟩
 |_::_,_,⟨b,h⟩=>let⟨_,a⟩:=Jp h;⟨_,a⟩
def Ei:∀{e:List Nat}{k:List AV->Prop},QH T e k->∃l,k l
 |[],_,h=>⟨_,h⟩
 |t::e,k,h=>by
  simp only[QH]at h;split at h
  ·obtain⟨l,c⟩:=Jp h;obtain⟨d,a⟩:=Ei c;exact⟨_,a⟩
  ·obtain⟨b,c⟩:=h;obtain⟨d,a⟩:=Ei c;exact⟨_,a⟩
  ·obtain⟨b,c⟩:=h;obtain⟨d,a⟩:=Ei c;exact⟨_,a⟩
  ·exact h.elim
def QS{t:Nat}{v:Value}{k:SV->Prop}(h:Ov T t v k):∃b:SV,b.Is v/\k b:=by
 unfold Ov at h;split at h
 ·exact⟨.fI,trivial,h⟩
 ·obtain⟨l,c,a⟩:=Ei h;exact⟨.VD l,c,a⟩
 ·obtain⟨l,c,a⟩:=Jp h;exact⟨.agg l,c,a⟩
 ·rename_i s _ _;obtain⟨b,c,a⟩:=h;exact⟨.c (s.mk b),c,a⟩
 ·obtain⟨b,c,a⟩:=h;exact⟨.c (.s b),c,a⟩
 ·exact h.elim
def Jl(z:SK c G)(A:jz n g a){q:Fr}(B:jz n q a)(y:Bx n q m){d:Array Operand}{p:Nat}{first s:Array Value}(E:a.eval f=.func (.func p) first s)
 (H:G.elem p=true)(J:d.toList.all (λb=>(ev g b).iZ)=true)
 (x:aL c p (first.toList++(d.toList.map λb=>(ev g b).v)++s.toList) m λv r=>zm (KD n q []) m r (Ov T h v λb=>k q b r)):
 DW c n a m ⟨i,.call ⟨.value f,d,e⟩,h,o,j,l⟩ k:=by
 intro w O V R K
 subst O
 have r:FI c p=true:=List.all_eq_true.1 z p (by simpa using H)
 have C:d.map a.eval=(d.toList.map λb=>(ev g b).v).toArray:=by
  apply Array.toList_inj.1;simp[<-AK A J]
 unfold FI at r
 split at r
 ·rename_i u F
  simp only[bK,ib]at r
  have D:u.body.isNone=false:=by cases U:u.body<;>simp_all
  have L:(execOp a.eval ⟨i,.call ⟨.value f,d,e⟩,h,o,j,l⟩).run c w=
   .ok (.enter p (first.toList++(d.toList.map λb=>(ev g b).v)++s.toList).toArray) w:=by
   simp only[execOp,resolve,E,C,Deferred.ofValue,Sem.run_bind,Sem.run_pure,Result.andThen_ok,invoke,callFunc,run_program,F,r.1,D,jx,pC]
   simp
  unfold Oper.wp
  rw[L]
  show Calls c p _ w _
  refine(x w rfl).mono ?_
  rintro S Q ⟨v,rfl,M,t⟩
  obtain⟨N,t⟩:=lS t
  obtain⟨b,P,I⟩:=QS t
  exact K q b v Q I B (y.dv N) P M
 ·simp at r
def QF(v:SK c G)(q:jz n g a)(y:Bx n g m){r:Array Operand}(d:wr c T G n g m i h k (.call ⟨.value f,r,e⟩)):DW c n a m ⟨i,.call ⟨.value f,r,e⟩,h,o,j,l⟩ k:=by
 simp only[wr,Ru]at d;split at d
 ·exact d.elim
 rename_i D z;obtain⟨w,u⟩:=pM z q y;split at d
 ·rename_i s first x t
  cases p:(G.elem s&&r.toList.all (λb=>(ev g b).iZ))
  ·rw[p]at d;exact d.elim
  ·rw[p]at d;simp only[bK]at p;exact Jl v q w u (q.eq t rfl) p.1 p.2 d
 ·rename_i x t;cases p:(r.toList.all (λb=>(ev g b).iZ))
  ·rw[p]at d;exact d.elim
  ·rw[p]at d;obtain⟨s,A,B,d⟩:=d;have C:a.eval f=.func (.func s) x.2.1 x.2.2:=by
    rw[<-A];exact q.eq t rfl
   exact Jl v q w u C B p d
 ·exact d.elim
def rI(a:c.underlying t=some (.int .i64))(e:Bool)(b:Int)(w:World):(Instr.checkKey e 10000 t (.int .i64 b)).run c w=.ok () w:=by
 have:Instr.checkKey e 10000 t (.int .i64 b)=Instr.checkKey e (9999+1) t (.int .i64 b):=rfl;rw[this];generalize 9999=d;simp[Instr.checkKey,run_underlying a]
def yR(b:Int):∀(a:List MapEntry)(l:List (Int×Int))(i:Nat),a.map (λe=>(e.key,e.val))=l.map (λp=>(Value.int .i64 p.1,Value.int .i64 p.2))->
 (Instr.findNow (.int .i64) (.int .i64 b) a i=some none/\uv l b=0/\(∀v,HW l b v=l++[(b,v)]))\/
 ∃j u,Instr.findNow (.int .i64) (.int .i64 b) a i=some (some (i+j,.int .i64 u))/\uv l b=u/\j<a.length/\l[j]? =some (b,u)/\∀v,HW l b v=l.set j (b,v)
 |[],[],i,_=>Or.inl ⟨rfl,rfl,λv=>rfl⟩
 |[],_::_,i,h=>by simp at h
 |_::_,[],i,h=>by simp at h
 |e::a,(j,u)::l,i,h=>by
  simp only[cE,List.cons.injEq,Mb]at h;obtain⟨⟨r,s⟩,h⟩:=h;have k:Instr.sameNow (.int .i64) (.int .i64 b) e.key=some (b==j):=by rw[r];simp[Instr.sameNow]
  by_cases c:b=j
  ·subst c;refine Or.inr ⟨0,u,?_,?_,aJ,aJ,?_⟩
   ·simp[Instr.findNow,k,s]
   ·simp[uv]
   ·intro v;simp[HW]
  ·have m:(b==j)=false:=by simpa using c
   rcases yR b a l (i+1) h with⟨d,f,g⟩|⟨q,t,d,f,g,o,p⟩
   ·refine Or.inl ⟨?_,?_,?_⟩
    ·simp[Instr.findNow,k,m,d]
    ·simp[uv,c,f]
    ·intro v;simp[HW,c,g]
   ·refine Or.inr ⟨q+1,t,?_,?_,by simpa using g,by simpa using o,?_⟩
    ·have n:i+1+q=i+(q+1):=V;simp[Instr.findNow,k,m,d,n]
    ·simp[uv,c,f]
    ·intro v;simp[HW,c,p]
def Mm(f:jz n g a)(e:Bx n g m){r:Option Operand}(d:wr c T G n g m i h k (.makeMap t r)):DW c n a m ⟨i,.makeMap t r,h,o,j,l⟩ k:=by
 intro b q s Q p
 subst q;cases r with
 |some r=>exact d.elim
 |none=>
  refine jd (w:=b) (c:=.c (.mp b.heap.size)) (v:=.map (some b.heap.size)) (b:={b with heap:=b.heap.push (.map #[] 0)}) f (e.push _) rfl ⟨rfl,rfl,rfl⟩ d ?_ p;simp[execOp,Instr.makeMap]
def NO(s:tp c T)(r:jz n g a)(L:Bx n g m){z:Bool}(d:wr c T G n g m i h k (.lookup t b y z)):DW c n a m ⟨i,.lookup t b y z,h,o,j,l⟩ k:=by
 intro e W ag ad S
 subst W;cases z with
 |true=>exact d.elim
 |false=>
  simp only[wr]at d;split at d
  ·rename_i kt et sh ae B f V X Y;split at d
   ·rename_i b1 b2 R P;obtain⟨u,⟨C,J,O,N⟩,Q⟩:=d;have F:=(AW (s.xE V)).1;obtain⟨⟨K,hd,E⟩,_⟩:=nF (s.xE R);have M:K=.int .i64:=by
     unfold zg at E;split at E<;>simp_all
    subst M;obtain⟨A,Z,ac,ab⟩:=vv s P rfl;have aa:A=.int .i64 0:=by
     have:A.cells.toList=[Value.int .i64 0]:=Z;have U:=ab rfl;cases A<;>first|(simp[Value.cells]at this;done)|(simp[Value.cells]at this;rw[this.1,this.2])|exact absurd rfl (U _)
    have H:a.eval b=.map (some B):=r.eq X rfl;have I:a.eval y=.int .i64 f:=r.eq Y rfl;have D:(getObj B).run c e=.ok (.map C J) e:=by simp[getObj,Sem.run,O]
    refine jd (w:=e) (c:=.c (.i (uv u f))) (v:=.int .i64 (uv u f)) (b:=e) r L rfl (oL.az e) Q ?_ S;rcases yR f C.toList u 0 N with⟨p,q,_⟩|⟨af,ah,p,q,_⟩
    ·simp[execOp,Instr.lookup,run_underlying F,H,I,D,rI hd,Instr.findKey,run_underlying hd,p,ac,aa,q]
    ·simp[execOp,Instr.lookup,run_underlying F,H,I,D,rI hd,Instr.findKey,run_underlying hd,p,q]
   ·exact d.elim
  ·exact d.elim
def Jn(L:tp c T)(s:jz n g a)(K:Bx n g m){z:Operand}(r:wr c T G n g m i h k (.mapUpdate t b y z)):DW c n a m ⟨i,.mapUpdate t b y z,h,o,j,l⟩ k:=by
 intro w hw ai ag Q
 subst hw;simp only[wr]at r;split at r
 ·rename_i kt et sh ah e d v ht hx hy hz;split at r
  ·rename_i b1 ae;obtain⟨Y,⟨p,q,E,x⟩,P⟩:=r;have U:=(AW (L.xE ht)).1;obtain⟨⟨Z,hd,R⟩,_⟩:=nF (L.xE ae);have aa:Z=.int .i64:=by
    unfold zg at R;split at R<;>simp_all
   subst aa;have V:a.eval b=.map (some e):=s.eq hx rfl;have W:a.eval y=.int .i64 d:=s.eq hy rfl;have X:a.eval z=.int .i64 v:=s.eq hz rfl;have N:(getObj e).run c w=.ok (.map p q) w:=by simp[getObj,Sem.run,E]
   have S:∀I,(setObj e I).run c w=.ok () {w with heap:=w.heap.setIfInBounds e I}:=λI=>by simp[setObj,Sem.run,E]
   have M:e<w.heap.size:=(Array.getElem?_eq_some_iff.1 E).1;unfold Oper.wp;rcases yR d p.toList Y 0 x with⟨C,h2,D⟩|⟨f,aj,C,h2,D,J,h5⟩
   ·have H:(execOp a.eval ⟨i,.mapUpdate t b y z,h,o,j,l⟩).run c w=.ok .skip {w with heap:=w.heap.setIfInBounds e (.map (p.push {key:=.int .i64 d,val:=.int .i64 v,born:=q}) (q+1))}:=by
     simp[execOp,Instr.mapUpdate,run_underlying U,V,W,X,N,rI hd,Instr.findKey,run_underlying hd,C,S]
    rw[H];have u:=lS (P {w with heap:=w.heap.setIfInBounds e (.map (p.push {key:=.int .i64 d,val:=.int .i64 v,born:=q}) (q+1))}.heap ?_ aJ ?_)
    ·exact Q g .un undef _ u.2 s (K.dv u.1) rfl ⟨rfl,rfl,rfl⟩
    ·refine⟨_,_,by simp[M];exact⟨rfl,rfl⟩,?_⟩;rw[D];simp[x]
    ·intro f F;simp[jg (km F)]
   ·have ad:(p[f]?).map (·.key)=some (.int .i64 d):=by
     have:=pB (λA=>(A[f]?).map (·.1)) x;simpa[J]using this
    have af:(Instr.keyThatStays (.int .i64 d) (.int .i64 d)).run c w=.ok (.int .i64 d) w:=by
     simp[Instr.keyThatStays,Instr.sameBits]
    have H:(execOp a.eval ⟨i,.mapUpdate t b y z,h,o,j,l⟩).run c w=.ok .skip {w with heap:=w.heap.setIfInBounds e (.map (p.modify f λB=>{B with key:=.int .i64 d,val:=.int .i64 v}) q)}:=by
     simp only[execOp,Instr.mapUpdate,run_underlying U,V,W,X,N,rI hd,Instr.findKey,run_underlying hd,C,Sem.run_bind,Result.andThen_ok,Sem.run_pure,cO,ad,uN,af,S]
    rw[H];have u:=lS (P {w with heap:=w.heap.setIfInBounds e (.map (p.modify f λB=>{B with key:=.int .i64 d,val:=.int .i64 v}) q)}.heap ?_ aJ ?_)
    ·exact Q g .un undef _ u.2 s (K.dv u.1) rfl ⟨rfl,rfl,rfl⟩
    ·refine⟨_,_,by simp[M];exact⟨rfl,rfl⟩,?_⟩;rw[h5];apply iT;intro A;have B:=pB (λ(q':List (Value×Value))=>q'[A]?) x;simp only[cU]at B;simp only[cU,iV,VV,kY]at B⊢;by_cases O:f=A
     ·subst O;have ac:f<Y.length:=(List.getElem?_eq_some_iff.1 J).1;have ab:f<p.size:=by simpa using D
      simp[ac,ab]
     ·simp only[O,pC];exact B
    ·intro f F;simp[jg (km F)]
  ·exact r.elim
 ·exact r.elim
def sL(l:List Ce)(z:O)(a f:Nat)(d:l.length=a*f)(w:World)(h:fZ w.heap z.E z.off l)(e:a<=z.len):
 (Builtin.firstCells f a z.v).run c w=.ok (bC l) w:=by
 cases z with
 |nil=>
  have b:a=0:=by simp at e;omega
  have:l=[]:=List.length_eq_zero_iff.1 (by rw[d,b];simp)
  subst this
  simp[Builtin.firstCells,O.v,bC]
 |A2 g i j=>
  have b:a=0:=by simp at e;omega
  have:l=[]:=List.length_eq_zero_iff.1 (by rw[d,b];simp)
  subst this
  simp[Builtin.firstCells,O.v,bC,b,loadCells,loadCellsFrom]
 |mk b o i g=>
  simp only[Builtin.firstCells,O.v,<-d]
  exact Ox l b o w h
def Nn(a:List Ce)(z:Array Value)(b:z.toList=a.map Ce.v)(n:Nat):Builtin.zeroCells z n=bC (nj a n):=by
 have c:z.size=a.length:=by rw[<-XG,b];simp
 rw[<-Hf a z b n,Builtin.zeroCells,c]
def OP(l r:List Ce):bC (l++r)=bC l++bC r:=by simp[bC]
def NN(H:tp c T)(C:jz n g a)(L:Bx n g m){Z:Array Operand}(q:wr c T G n g m i h k (.call ⟨.builtin .append,Z,e⟩)):DW c n a m ⟨i,.call ⟨.builtin .append,Z,e⟩,h,o,j,l⟩ k:=by
 intro d hw aM aE N
 subst hw;simp only[wr]at q;split at q
 ·rename_i b y t aD am az;split at q
  ·rename_i B sh aF e2 aN aG s z ht aA hx hy;split at q
   ·rename_i f ac;cases u:(f.tP||Nat.beq f.bytes 0)
    ·rw[u]at q;simp only[bq]at u;obtain⟨A,Q,ar,ah,ai⟩:=q;have e1:Z=#[b,y]:=Array.toList_inj.1 (by simpa using am);have al:e=#[t,aD]:=Array.toList_inj.1 (by simpa using az);subst e1;subst al;have U:=(jD (H.xE ht)).1;have W:=(jD (H.xE aA)).1;obtain⟨zv,hz,ak,aL⟩:=vv H ac u.1;obtain⟨ti,hb,aK,af,_⟩:=EH H ac u.1;have S:=λd=>jJ H ac u.1 d;have X:a.eval b=s.v:=C.eq hx rfl;have Y:a.eval y=z.v:=C.eq hy rfl;have E:(Builtin.lenOf z.v).run c d=.ok z.len d:=by cases z<;>simp[Builtin.lenOf,O.v,O.len]
     have aj:(f.sh.map Sh.zero).length=f.sh.length:=aJ;rw[aj]at Q;simp only[aj]at ah ai;have M:∀r:World,r.heap=d.heap->(Builtin.firstCells f.sh.length z.len z.v).run c r=.ok (bC A) r:=λr ag=>
      sL A z z.len f.sh.length Q r (by rw[ag];exact ar) (ad _)
     have ay:=s.VE;by_cases D:s.len+z.len<=s.cap
     ·obtain⟨R,p⟩:=ah D;cases s with
      |nil=>
       simp only[O.ME,O.S0]at D R p;have J:z.len=0:=V;have:A=[]:=List.length_eq_zero_iff.1 (by rw[Q,J];simp);subst this;obtain⟨ab,p⟩:=lS p;refine jd (w:=d) (c:=.c (.s .nil)) (v:=.slice none 0 0) (b:=d) C L rfl (oL.az d) p ?_ N;have I:a.eval b=.slice none 0 0:=X;have F:=M d rfl;simp only[execOp,resolve,Sem.run_bind,Sem.run_pure,Result.andThen_ok,invoke,builtin,Builtin.append_,mO,cE,eX,I,Y];rw[J]at E F;simp[run_underlying U,run_underlying W,S,E,F]
      |A2 K o0 sp=>
       simp only[O.Qh,O.SZ]at D R p;have J:z.len=0:=V;have:A=[]:=List.length_eq_zero_iff.1 (by rw[Q,J];simp);subst this;obtain⟨ab,p⟩:=lS p;refine jd (w:=d) (c:=.c (.s (.A2 K o0 sp))) (v:=.slice (some ⟨K,o0,some sp⟩) 0 0) (b:=d) C L rfl (oL.az d) p ?_ N;have I:a.eval b=.slice (some ⟨K,o0,some sp⟩) 0 0:=X;have F:=M d rfl;simp only[execOp,resolve,Sem.run_bind,Sem.run_pure,Result.andThen_ok,invoke,builtin,Builtin.append_,mO,cE,eX,I,Y];rw[J]at E F;simp[run_underlying U,run_underlying W,S,E,F,bC,storeCells]
      |mk F K J aa=>
       simp only[O.jt,O.Mk,O.jH,O.ze]at D R p;obtain⟨ab,p⟩:=lS p;refine jd (w:=d) (c:=.c (.s (.mk F K (J+z.len) aa))) (v:=.slice (some ⟨F,K,none⟩) (J+z.len) aa) (b:=d.setCells F (K+J*f.sh.length) (A.map Ce.v)) C (by rw[j8];exact L.dv ab) rfl (qo _ _ _ _) (by rw[j8];exact p) ?_ N;have an:=C1 (d:=c) A F (K+J*f.sh.length) d R;have I:a.eval b=.slice (some ⟨F,K,none⟩) J aa:=X;simp only[execOp,resolve,Sem.run_bind,Sem.run_pure,Result.andThen_ok,invoke,builtin,Builtin.append_,mO,cE,eX,I,Y];simp[run_underlying U,run_underlying W,S,E,D,M d rfl,uW,bC,an]
     ·obtain⟨ab,old,av,ax,p⟩:=ai V;have aH:=growslice_fits (need:=s.len+z.len) (old:=s.cap) (bytes:=f.bytes) V ab;have K:f.bytes≠0:=λB=>by rw[B]at u;simp at u
      have aI:¬(((s.len+z.len:Nat):Int)>IntKind.i64.max/\f.bytes=0):=λhh=>K hh.2;have aw:∀r:World,r.heap=d.heap->(Builtin.firstCells f.sh.length s.len s.v).run c r=.ok (bC old) r:=λr ag=>
       sL old s s.len f.sh.length av r (by rw[ag];exact ax) (ad _)
      let I:Question:=.appendCap (s.len+z.len) s.cap B;let nc:=I.cut (d.tape d.drawn I);let J:World:={d with drawn:=d.drawn+1};have ap:s.len+z.len<=nc:=ZZ _ _;refine jd (w:=d) (c:=.c (.s (.mk d.heap.size 0 (s.len+z.len) nc))) (v:=.slice (some ⟨d.heap.size,0,none⟩) (s.len+z.len) nc)
       (b:={J with heap:=d.heap.push (.cells (bC (old++A++nj (f.sh.map Sh.zero) (nc -(s.len+z.len)))) B)}) C (L.push _) rfl ⟨rfl,rfl,rfl⟩ (lS (p nc ap)).2 ?_ N
      have aC:zv.cells.toList=(f.sh.map Sh.zero).map Ce.v:=by simp[hz]
      have aa:=Nn (f.sh.map Sh.zero) zv.cells aC (nc -(s.len+z.len));have an:I.forced=false:=rfl;have aq:¬(Builtin.nextslicecap (s.len+z.len) s.cap*f.bytes>2^48):=by
       have:(2:Nat)^48=281474976710656:=bh;omega
      simp only[execOp,resolve,Sem.run_bind,Sem.run_pure,Result.andThen_ok,invoke,builtin,Builtin.append_,mO,cE,eX,X,Y];have F:=aw J rfl;have R:=M J rfl;rw[ay]at F⊢;simp only[kZ,rE,gE,Sem.run_bind,run_underlying U,run_underlying W,Result.andThen_ok,S,Sem.run_pure,E,jx,pC,D,af,hb,false_or];simp only[K,and_false,pC,aq,Sem.run_bind,run_choose,an,jx,Result.andThen_ok,af,run_askRoom,F,Ky,KE,R,ak,aa,newRow,run_newObj,Sem.run_pure];simp[OP];rw[hb,ae V,ae (show¬(Question.appendCap (s.len+z.len) s.cap B).forced=true by simp[Question.forced])];have au:(Builtin.firstCells f.sh.length s.len (Value.slice s.ct s.len s.cap)).run c d.drew=.ok (bC old) d.drew:=F;have ao:(Builtin.firstCells f.sh.length z.len z.v).run c d.drew=.ok (bC A) d.drew:=R;simp only[af,Result.andThen_ok,au,ao,ak];have aB:Builtin.zeroCells zv.cells ((Question.appendCap (s.len+z.len) s.cap B).cut (d.tape d.drawn (Question.appendCap (s.len+z.len) s.cap B)) -(s.len+z.len))=bC (nj (f.sh.map Sh.zero) (nc -(s.len+z.len))):=aa;rw[aB];rfl
    ·rw[u]at q;exact q.elim
   ·exact q.elim
  ·exact q.elim
 ·exact q.elim
end
end Go.Vc
end
section
namespace Go.Vc
variable{b:Program}{T:TT}{G:List Nat}
section
variable{n:Nat}{c:Fr}{a:Act}{m:J}{k:Fr->SV->J->Prop}{d:Option Tmp}{e:TypeId}{h:String}{f:Array Edge}{g:Option (Nat×Bool)}
def QG(M:tp b T)(t:jz n c a)(U:Bx n c m){r:Array Operand}{K:Array TypeId}(i:wr b T G n c m d e k (.call ⟨.builtin .copy,r,K⟩)):DW b n a m ⟨d,.call ⟨.builtin .copy,r,K⟩,e,h,f,g⟩ k:=by
 intro j hw ah ae W
 subst hw;simp only[wr]at i;split at i
 ·rename_i q R ad ai V ab;split at i
  ·rename_i ag sh af s z ht hx hy;split at i
   ·rename_i J aa;cases u:J.tP
    ·rw[u]at i;obtain⟨o,C,X,Y,y⟩:=i;obtain⟨Z,y⟩:=lS y;have S:r=#[q,R]:=Array.toList_inj.1 (by simpa using V);subst S;have E:K[0]? =some ad:=by rw[<-VV,ab];rfl
     have F:=(jD (M.xE ht)).1;have D:=λj=>jJ M aa u j;have H:a.eval q=s.v:=t.eq hx rfl;have I:a.eval R=z.v:=t.eq hy rfl;have A:(Builtin.lenOf z.v).run b j=.ok z.len j:=by cases z<;>simp[Builtin.lenOf,O.v,O.len]
     have l:(Builtin.firstCells J.sh.length (Nat.min z.len s.len) z.v).run b j=.ok (bC o) j:=
      sL o z _ J.sh.length C j X (Nat.min_le_left _ _)
     refine jd (w:=j) (c:=.c (.i (Nat.min z.len s.len:Nat))) (v:=.int .i64 (Nat.min z.len s.len:Nat)) (b:=j.setCells s.E s.off (o.map Ce.v)) t (by rw[j8];exact U.dv Z) rfl (qo _ _ _ _) (by rw[j8];exact y) ?_ W;cases s with
     |nil=>
      have B:Nat.min z.len O.nil.len=0:=aJ;have:o=[]:=List.length_eq_zero_iff.1 (by rw[C,B];simp);subst this;have p:a.eval q=.slice none 0 0:=H;simp only[O.ME]at l⊢;simp only[execOp,resolve,Sem.run_bind,Sem.run_pure,Result.andThen_ok,invoke,builtin,Builtin.copy_,mO,cE,eX,p,I,E];simp only[kZ,rE,gE,Sem.run_bind,run_underlying F,Result.andThen_ok,A,D,l,Sem.run_pure];rfl
     |A2 L N Q=>
      have B:Nat.min z.len (O.A2 L N Q).len=0:=aJ;have:o=[]:=List.length_eq_zero_iff.1 (by rw[C,B];simp);subst this;have p:a.eval q=.slice (some ⟨L,N,some Q⟩) 0 0:=H;simp only[O.Qh]at l⊢;simp only[execOp,resolve,Sem.run_bind,Sem.run_pure,Result.andThen_ok,invoke,builtin,Builtin.copy_,mO,cE,eX,p,I,E];simp only[kZ,rE,gE,Sem.run_bind,run_underlying F,Result.andThen_ok,A,D,l,Sem.run_pure,bC];rfl
     |mk B L ac N=>
      have Q:=C1 (d:=b) o B L j Y;have p:a.eval q=.slice (some ⟨B,L,none⟩) ac N:=H;simp only[O.jt]at l⊢;simp only[execOp,resolve,Sem.run_bind,Sem.run_pure,Result.andThen_ok,invoke,builtin,Builtin.copy_,mO,cE,eX,p,I,E];simp only[kZ,rE,gE,Sem.run_bind,run_underlying F,Result.andThen_ok,A,D,l,Sem.run_pure,bC,Q];rfl
    ·rw[u]at i;exact i.elim
   ·exact i.elim
  ·exact i.elim
 ·exact i.elim
def OS(o:tp b T)(u:SK b G)(l:jz n c a)(j:Bx n c m)(p:Oper)(i:wr b T G n c m p.dst p.type k p.op):DW b n a m p k:=by
 obtain⟨d,v,e,h,f,g⟩:=p;cases v with
 |alloc t=>exact Pb o l j i
 |box t x=>exact Ry l j i
 |buildSlice t q r=>exact HK o l j i
 |store t x y=>exact Pc o l j i
 |makeSlice t x y=>exact Jm o l j i
 |makeFunc r first q=>exact KG l j i
 |makeMap t w=>exact Mm l j i
 |lookup t x y q=>exact NO o l j i
 |mapUpdate t x y z=>exact Jn o l j i
 |call r=>
  obtain⟨s,t,x⟩:=r;cases s with
  |builtin q=>
   cases q with
   |append=>exact NN o l j i
   |copy=>exact QG o l j i
   |_=>exact i.elim
  |value q=>exact QF u l j i
  |invoke w q=>exact i.elim
 |_=>exact i.elim
end
end Go.Vc
end
section
namespace Go.Vc
variable{b:Array Bool}{j:Nat}{L:List (Nat×(World->Prop))}{a:Act}{w:World}
section
variable{P:Program}{c:Array Oper}{Q:Exit->Act->World->Prop}{d:Region.Mode}{e:Nat->Nat->Bool}
def uK(P:Program)(d:Region.Mode)(c:Array Oper)(Q:Exit->Act->World->Prop)(e:Nat->Nat->Bool)(L:List (Nat×(World->Prop))):Nat->Array Bool->Act->World->Prop
 |0,b,a,w=>Region.ready d c b=[]/\Q .normal a w
 |h+1,b,a,w=>
  (Region.ready d c b=[]->Q .normal a w)/\
  ∀i∈Region.ready d c b,wpOp P c Q i (λg f=>(∀x∈L,e i x.1=false->x.2 w->x.2 f)/\uK P d c Q e L h (b.setIfInBounds i true) g f) a w
def Kw{L:List (Nat×(World->Prop))}:∀(f:Nat)(b:Array Bool)(a:Act)(w:World),uK P d c Q e L f b a w->wpAny P d c Q f b a w
 |0,_,_,_,h=>h
 |f+1,_,_,_,h=>⟨h.1,λk j=>wpOp_mono (λg l i=>Kw f _ g l i.2) (h.2 k j)⟩
def CE{L g:List (Nat×(World->Prop))}(j:∀x∈g,x∈L):∀(f:Nat)(b:Array Bool)(a:Act)(w:World),uK P d c Q e L f b a w->uK P d c Q e g f b a w
 |0,_,_,_,h=>h
 |f+1,_,_,_,h=>⟨h.1,λn l=>wpOp_mono (λk o i=>⟨λx m=>i.1 x (j x m),CE j f _ k o i.2⟩) (h.2 n l)⟩
def Fy(e:Nat->Nat->Bool)(b:Array Bool):Prop:=∀i,b.getD i false=true->∀r,e i r=true->b.getD r false=true
def SG(d:Region.Mode)(c:Array Oper)(e:Nat->Nat->Bool):Prop:=
 ∀(i r:Nat)(o:Oper),c[i]? =some o->e i r=true->∃a∈o.after,Region.binds d a=true/\(a.on=r\/e a.on r=true)
def wB(k:SG d c e)(l:Fy e b)(n:j∈Region.ready d c b){r:Nat}(p:e j r=true):b.getD r false=true:=by
 obtain⟨_,q,o,g⟩:=mem_ready.1 n;obtain⟨f,m,i,h⟩:=k j r q o p;have a:=g f m i;rcases h with rfl|h
 ·exact a
 ·exact l _ a r h
def Fy.set(k:SG d c e)(a:Fy e b)(l:j∈Region.ready d c b):Fy e (b.setIfInBounds j true):=by
 intro i f r h;by_cases g:j=i
 ·subst g;exact getD_set_true (wB k a l h)
 ·rw[getD_set_ne false g]at f;exact getD_set_true (a i f r h)
def Fv{i:Nat}{l:Oper}{F:Value}{S:World->Prop}(I:SG d c e)(C:c[i]? =some l)(O:∀(j:Nat)(R:Oper) q p,c[j]? =some R->R.op≠.select q p)
 (V:∀f a w,Q (.panic f) (a.put l.dst F) w->Q (.panic f) a w):
 ∀(r:Nat)(b:Array Bool)(a:Act)(w:World),Fy e b->
  (∀j m,c[j]? =some m->j≠i->b.getD j true=false->(∀f∈m.after,Region.binds d f=true->f.on≠i)->l.apart c m=true)->
  i∈Region.ready d c b->YieldsIf P c S l F a->S w->
  uK P d c Q e ((i,S)::L) r (b.setIfInBounds i true) (a.put l.dst F) w->uK P d c Q e L (r+1) b a w:=by
 intro r
 induction r with
 |zero=>
  intro b a w _ _ k y x H
  refine⟨λh=>(by rw[h]at k;cases k),λj n=>?_⟩
  by_cases g:j=i
  ·subst g;exact y.wpOp C x ⟨λz _ _ h=>h,H⟩
  ·have:=ready_mono n g
   rw[H.1]at this
   cases this
 |succ r ih=>
  intro b a w J K k y x H
  refine⟨λh=>(by rw[h]at k;cases k),λj n=>?_⟩
  by_cases g:j=i
  ·subst g;exact y.wpOp C x ⟨λz _ _ h=>h,CE (λz E=>ai _ E) _ _ _ _ H⟩
  ·have u:=H.2 j (ready_mono n g)
   obtain⟨N,m,D,W⟩:=mem_ready.1 n
   have s:b.getD i false=false:=by
    have G:=(mem_ready.1 k).1;rcases bA i b.size with A|A
    ·simp[A]at G⊢;exact G
    ·simp[Hg A]
   have ad:∀f∈m.after,Region.binds d f=true->f.on≠i:=λf Y B Z=>by
    have u:=W f Y B;rw[Z,s]at u;cases u
   have X:e j i=false:=by
    cases B:e j i
    ·rfl
    ·have:=wB I J n B;rw[s]at this;cases this
   have U:=wpOp_putIf D (K j m D g N ad) (λq p=>O i l q p C) (λq p=>O j m q p D) V y u
   have aa:∀o t,c[o]? =some t->o≠i->(b.setIfInBounds j true).getD o true=false->
    (∀f∈t.after,Region.binds d f=true->f.on≠i)->l.apart c t=true:=λo t hk ab s ac=>by
    refine K o t hk ab ?_ ac
    by_cases M:j=o
    ·subst M;exact N
    ·rw[getD_set_ne true M]at s;exact s
   refine wpOp_mono (λT w' v=>⟨λz E=>v.2.1 z (ai _ E),
    ih (b.setIfInBounds j true) T w' (J.set I n) aa (ready_mono k (km g)) v.1 (v.2.1 (i,S) aX X x) ?_⟩) U
   rw[Array.setIfInBounds_comm _ _ g]
   exact v.2.2
def PO{f:Nat}(k:Region.ready d c b≠[])
 (j:∀i∈Region.ready d c b,wpOp P c Q i (λh g=>(∀x∈L,e i x.1=false->x.2 w->x.2 g)/\uK P d c Q e L f (b.setIfInBounds i true) h g) a w):
 uK P d c Q e L (f+1) b a w:=⟨λg=>absurd g k,j⟩
def OQ(f:Region.ready d c b=[])(h:Q .normal a w):
 ∀g,uK P d c Q e L g b a w
 |0=>⟨f,h⟩
 |_+1=>⟨λ_=>h,by rw[f];simp⟩
end
end Go.Vc
end
