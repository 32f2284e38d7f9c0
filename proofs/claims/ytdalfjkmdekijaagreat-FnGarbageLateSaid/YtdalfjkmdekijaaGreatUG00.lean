/- Part of a proof. -/
import Derived.KernelRfl
import Derived.Laws.Append
import Derived.Laws.Cells
import Derived.Laws.Entries
import Derived.Laws.IdiomCopy
import Derived.Orders
import Derived.OrdersHeld
import Derived.Still
import Derived.Tactics
import Derived.Test.YtdalfjkmdekijaaGreatProg
set_option linter.all false
set_option maxHeartbeats 8000000
set_option maxRecDepth 100000
namespace Go.Vc
def ad:=@Nat.le_refl
def ae:=@if_neg
def ah:=@List.mem_cons_of_mem
def ak:=@if_pos
def an:=@decide_eq_true_eq
def ao:=@beq_eq_false_iff_ne
def aw:=@List.getElem?_append_left
def aG:=@List.getElem?_append_right
def aJ:=@Nat.lt_of_lt_of_le
def aM:=@beq_iff_eq
def aT:=@List.length_append
def aU:=@Nat.lt_or_ge
def aV:=@List.mem_cons
def aW:=@List.length_cons
def aX:=@List.mem_cons_self
def bq:=@Nat.eq_of_beq_eq_true
def br:=@decide_eq_false_iff_not
def bu:=@List.mem_append_left
def bE:=@Nat.zero_add
def bH:=@Nat.le_trans
def bI:=@Bool.and_eq_true
def bR:=@List.getElem?_map
def bT:=@List.getElem?_eq_none
def bU:=@Bool.or_eq_false_iff
def cA:=@List.map_cons
def cB:=@Bool.or_eq_true
def cD:=@List.length_nil
def cL:=@List.mem_or_eq_of_mem_set
def cO:=@Nat.mul_one
def cX:=@List.mem_of_mem_take
def db:=@List.cons_append
def dh:=@Int.le_refl
def dk:=@List.take_of_length_le
def dq:=@Nat.mul_le_mul_right
def dv:=@List.mem_append_right
def dw:=@List.take_append_drop
def dy:=@List.getElem?_take_of_lt
def dD:=@List.append_nil
def dE:=@Nat.zero_le
def dO:=@List.length_map
def dQ:=@List.getElem?_set_self
def dR:=@Nat.add_assoc
def dT:=@List.getElem?_set_ne
def dW:=@List.nil_append
def eJ:=@List.length_take
def eL:=@List.ext_getElem?
def eT:=@Classical.byContradiction
def eW:=@List.map_append
def eZ:=@List.append_assoc
def fe:=@List.map_nil
def fq:=@Bool.false_eq_true
def fy:=@Classical.choose_spec
def fN:=@List.mem_singleton
def fV:=@Nat.not_lt_zero
def fY:=@Nat.add_mul
def gC:=@Bool.not_eq_true'
def gH:=@List.getElem?_cons_succ
def gJ:=@gt_iff_lt
def gW:=@Classical.em
def gX:=@List.take_length
def ig:=@bne_eq_false_iff_eq
def ik:=@List.getElem?_set
def il:=@List.length_filter_le
def iG:=@List.dropLast_concat_getLast
def iH:=@List.length_set
def iQ:=@List.set_cons_succ
def iR:=@List.set_cons_zero
def iS:=@Nat.eq_zero_or_pos
def iV:=@List.mem_of_getElem?
def iW:=@List.not_mem_nil
def ji:=@List.flatten_cons
def jk:=@List.getD_eq_getElem?_getD
def jm:=@Nat.add_zero
def jo:=@Option.map_eq_some_iff
def jq:=@cond_true
def jt:=@Nat.min_eq_left
def jB:=@Array.getElem?_setIfInBounds_ne
def kG:=@Ne.symm
def kX:=@Array.getElem?_modify
def kY:=@List.getElem?_toArray
def kZ:=@Nat.le_of_ble_eq_true
def lC:=@List.drop_eq_getElem_cons
def lD:=@Bool.eq_iff_iff
def lE:=@List.mem_append
def lF:=@Option.map_some
def lG:=@Option.some.inj
def lO:=@List.flatMap_cons
def lV:=@cond_false
def mG:=@List.map_toArray
def mH:=@if_false
def mN:=@List.getLast?_eq_some_getLast
def mO:=@List.take_append_of_le_length
def mU:=@Int.lt_or_le
def mV:=@List.getElem?_take
def mW:=@Nat.lt_of_le_of_lt
def nV:=@List.sizeOf_lt_of_mem
def ov:=@Int.toNat_natCast
def oA:=@Nat.le_succ_of_le
def pw:=@Int.tdiv_eq_ediv_of_nonneg
def pC:=@Nat.le_of_eq
def pD:=@Nat.succ_mul
def pE:=@Option.getD_some
def qe:=@List.length_take_le
def qj:=@List.replicate_succ
def ry:=@List.getElem?_drop
def rK:=@List.getElem?_cons_zero
def tf:=@List.drop_of_length_le
def tg:=@List.map_set
def th:=@congrArg
def uF:=@bne_iff_ne
def uG:=@ge_iff_le
def uH:=@not_or
def xr:=@Array.getElem?_push
def xt:=@List.flatten_append
def xu:=@List.getElem?_range
def yr:=@Array.getD_eq_getD_getElem?
def Ay:=@Array.ext_getElem?
def Az:=@decide_eq_true_iff
def AA:=@or_false
def CI:=@Iff.rfl
def CJ:=@List.size_toArray
def CK:=@Option.some.injEq
def Ef:=@List.set_eq_of_length_le
def Gl:=@Nat.add_sub_cancel_left
def Gm:=@Nat.le_of_not_lt
def Ia:=@Array.getElem?_eq_none
def Jx:=@List.concat_eq_append
def Jy:=@List.eq_nil_or_concat
def LC:=@Bool.not_false
def LD:=@List.take_take
def LG:=@if_true
def Mw:=@List.length_reverse
def Mx:=@List.take_succ_cons
def My:=@Nat.testBit_two_pow
def Nm:=@Bool.not_true
def Nn:=@Bool.true_and
def No:=@List.all_cons
def Np:=@List.map_take
def Nq:=@Prod.mk.injEq
def Oy:=@List.filter_append
def OE:=@List.set_eq_take_append_cons_drop
def PT:=@List.any_nil
def PU:=@List.findIdx_lt_length_of_exists
def PV:=@Nat.le_of_lt
def PW:=@Nat.zero_mul
def So:=@List.range_succ
def Su:=@dif_pos
def Up:=@List.mapM_cons
def Uq:=@Nat.eq_of_mul_eq_mul_right
def Ur:=@Nat.mul_le_mul
def Us:=@Nat.testBit_or
def Uz:=@Array.mapM_eq_mapM_toList
def Vz:=@Array.getElem?_replicate
def VA:=@Bool.false_or
def VB:=@Bool.or_false
def VC:=@List.eq_of_mem_replicate
def Xi:=@List.map_map
def Xj:=@List.mem_map
def Xk:=@Nat.sub_zero
def Xw:=@Array.getElem?_mapIdx
def Xx:=@Array.getElem?_toList
def Xy:=@List.set_append_right
def Xz:=@Nat.ble_eq_true_of_le
def Za:=@Int.add_mul
def Zb:=@List.mem_of_mem_drop
def Zc:=@List.set_append_left
def Zr:=@Array.length_toList
def Zs:=@Array.toList_zipIdx
def Zt:=@List.map_congr_left
def aai:=@Array.foldl_toList
def aaj:=@Bool.not_eq_false'
theorem dit{p A B:Prop}{i:Decidable p}(f:p->A)(g:¬p->B):(decide p=true->A)/\(decide p=false->B):=⟨λh=>f (of_decide_eq_true h),λh=>g (of_decide_eq_false h)⟩
theorem V{p:Prop}(h:p:=by omega):p:=h
theorem aH{p:Prop}(h:p:=by simp):p:=h
theorem bh{p:Prop}(h:p:=by decide):p:=h
theorem bN{p:Prop}(h:p:=by simp;omega):p:=h
end Go.Vc
section
namespace Go.Vc
variable{n:Nat}{a:Act}
abbrev E:=Array Obj
def af(m:E)(b o:Nat):Option Value:=
 match m[b]? with
 |some (.cells c _ _)=>c[o]?
 |_=>none
def uR(m:E)(b o:Nat):Bool:=
 match m[b]? with
 |some (.cells _ _ (c,a))=>c<=o&&o<a
 |_=>false
def qJ(m:E)(b o:Nat)(v:Value):E:=
 m.modify b λ
  | .cells c e f=>.cells (c.setIfInBounds o v) e f
  |x=>x
def yD(w:World)(b o:Nat):w.cell? ⟨b,o,none⟩=af w.heap b o:=by
 simp only[World.cell?,af];cases h:w.heap[b]? with
 |none=>rfl
 |some x=>cases x<;>simp
def Qk(w:World)(b o:Nat):w.frozen? ⟨b,o,none⟩=uR w.heap b o:=by
 simp only[World.frozen?,uR];cases h:w.heap[b]? with
 |none=>rfl
 |some x=>cases x<;>simp
def N7(w:World)(b o:Nat)(v:Value):(w.setCell ⟨b,o,none⟩ v).heap=qJ w.heap b o v:=by
 simp only[World.setCell,qJ];congr 1
structure oK(w w':World):Prop where
 os:w'.os=w.os
 tape:w'.tape=w.tape
 output:w'.output=w.output
def oK.aF(w:World):oK w w:=⟨rfl,rfl,rfl⟩
def oK.trans{a b c:World}(h:oK a b)(k:oK b c):oK a c:=⟨k.os.trans h.os,k.tape.trans h.tape,k.output.trans h.output⟩
def aN(P:Program)(f:FuncId)(b:List Value)(m:E)(K:Value->E->Prop):Prop:=
 ∀w:World,w.heap=m->Calls P f b.toArray w λe a=>∃v,e=.returned v/\oK w a/\K v a.heap
def aN.mono{P:Program}{f:FuncId}{b:List Value}{m:E}{K a:Value->E->Prop}(h:aN P f b m K)
 (e:∀v c,K v c->a v c):aN P f b m a:=
 λw i=>(h w i).mono λ_ _⟨v,d,g,c⟩=>⟨v,d,g,e _ _ c⟩
inductive O where
 |nil
 |mk (b o len cap:Nat)
 |CT (b o sp:Nat)
def O.v:O->Value
 | .nil=>.slice none 0 0
 | .mk b o l c=>.slice (some ⟨b,o,none⟩) l c
 | .CT b o a=>.slice (some ⟨b,o,some a⟩) 0 0
def O.len:O->Nat
 | .nil=>0
 | .mk _ _ l _=>l
 | .CT _ _ _=>0
def O.cap:O->Nat
 | .nil=>0
 | .mk _ _ _ c=>c
 | .CT _ _ _=>0
def O.az:O->Nat
 | .nil=>0
 | .mk b _ _ _=>b
 | .CT b _ _=>b
def O.off:O->Nat
 | .nil=>0
 | .mk _ o _ _=>o
 | .CT _ o _=>o
@[simp] theorem O.Rk (b o sp:Nat):(O.CT b o sp).len=0:=rfl
@[simp] theorem O.UQ (b o sp:Nat):(O.CT b o sp).cap=0:=rfl
@[simp] theorem O.NS:O.nil.len=0:=rfl
@[simp] theorem O.UR:O.nil.cap=0:=rfl
@[simp] theorem O.Zh:O.nil.az=0:=rfl
@[simp] theorem O.Zn:O.nil.off=0:=rfl
@[simp] theorem O.dS (b o l c:Nat):(O.mk b o l c).len=l:=rfl
@[simp] theorem O.NH (b o l c:Nat):(O.mk b o l c).cap=c:=rfl
@[simp] theorem O.fG (b o l c:Nat):(O.mk b o l c).az=b:=rfl
@[simp] theorem O.iY (b o l c:Nat):(O.mk b o l c).off=o:=rfl
def O.EQ:O->Bool
 | .nil=>true
 | .mk _ _ _ _=>false
 | .CT _ _ _=>false
@[simp] theorem O.Xr:O.nil.EQ=true:=rfl
@[simp] theorem O.Xq (b o sp:Nat):(O.CT b o sp).EQ=false:=rfl
@[simp] theorem O.Yr (b o l c:Nat):(O.mk b o l c).EQ=false:=rfl
def O.cG:O->Option Addr
 | .nil=>none
 | .mk b o _ _=>some ⟨b,o,none⟩
 | .CT b o a=>some ⟨b,o,some a⟩
def O.Xh(s:O):s.v=.slice s.cG s.len s.cap:=by cases s<;>rfl
inductive Ce where
 |i (n:Int)
 |u (k:IntKind) (n:Int)
 |t (x:Bool)
 |s (x:O)
 |p (b o:Nat)
 |pn
 |fn (f:Fn) (first captured:Array Value)
 |fv (q:Fn×Array Value×Array Value)
 |nf
 |str (x:ByteArray)
 |mp (b:Nat)
 |mn
 |bp (k b o:Nat)
def Ce.v:Ce->Value
 | .i n=>.int .i64 n
 | .u k n=>.int k n
 | .t x=>.bool x
 | .s x=>x.v
 | .p b o=>.pointer (some ⟨b,o,none⟩)
 | .pn=>.pointer none
 | .fn f a c=>.func f a c
 | .fv q=>.func q.1 q.2.1 q.2.2
 | .nf=>.nilFunc
 | .str x=>.string x
 | .mp b=>.map (some b)
 | .mn=>.map none
 | .bp _ b o=>.pointer (some ⟨b,o,none⟩)
inductive AV where
 |c (x:Ce)
 |agg (l:List Ce)
def AV.v:AV->Value
 | .c x=>x.v
 | .agg l=>.agg (l.map Ce.v).toArray
inductive SV where
 |c (x:Ce)
 |tt
 |ff
 |agg (l:List Ce)
 |Xg (l:List AV)
 |un
 |iP
 |box (b e:Nat) (l:List Ce)
 |yB (b e:Nat) (l:List Ce)
def SV.v:SV->Value
 | .c x=>x.v
 | .tt=>.bool true
 | .ff=>.bool false
 | .agg l=>.agg (l.map Ce.v).toArray
 | .Xg l=>.tuple (l.map AV.v).toArray
 | .un=>undef
 | .iP=>undef
 | .box _ _ _=>undef
 | .yB _ _ _=>undef
def SV.Is:SV->Value->Prop
 | .iP,_=>True
 | .box _ _ _,_=>True
 | .yB _ _ _,_=>True
 |s,v=>v=s.v
def AV.sv:AV->SV
 | .c x=>.c x
 | .agg l=>.agg l
def AV.aag(x:AV):x.sv.v=x.v:=by cases x<;>rfl
abbrev Fr:=List (Nat×SV)
def gL:Fr->Nat->SV
 |[],_=>.iP
 |(u,x)::r,t=>bif Nat.beq u t then x else gL r t
def SV.nb:SV->SV
 | .box _ _ _=>.iP
 | .yB _ _ _=>.iP
 |x=>x
def tp(a:Fr)(d:Option Nat)(x:SV):Fr:=
 match d with
 |some d=>(d,x.nb)::a
 |none=>a
def SV.TQ{x:SV}{v:Value}(h:x.Is v):x.nb.Is v:=by
 cases x<;>first|exact h|trivial
def Ce.ln(x:Ce):x.v.cells=#[x.v]:=by
 cases x with
 |s y=>cases y<;>rfl
 |_=>rfl
def jX:Value->Option Ce
 | .int .i64 n=>some (.i n)
 | .int k n=>some (.u k n)
 | .bool x=>some (.t x)
 | .slice none 0 0=>some (.s .nil)
 | .pointer none=>some .pn
 | .nilFunc=>some .nf
 | .string x=>some (.str x)
 |_=>none
def ML{x:Value}{c:Ce}(h:jX x=some c):c.v=x:=by
 unfold jX at h;split at h<;>simp at h<;>subst h<;>rfl
def oQ:List Value->Option (List Ce)
 |[]=>some []
 |v::b=>match jX v,oQ b with
  |some c,some a=>some (c::a)
  |_,_=>none
def J2:∀{b:List Value}{a:List Ce},oQ b=some a->a.map Ce.v=b
 |[],_,h=>by simp[oQ]at h;subst h;rfl
 |v::b,a,h=>by
  simp only[oQ]at h;split at h
  .rename_i e f c d;simp at h;subst h;simp[ML c,J2 d]
  .simp at h
def Ev:Value->SV
 | .bool true=>.tt
 | .bool false=>.ff
 | .agg a=>match oQ a.toList with
  |some l=>.agg l
  |none=>.iP
 | .tuple a=>bif a.toList.isEmpty then .un else .iP
 |v=>match jX v with
  |some c=>.c c
  |none=>.iP
def P8(x:Value):(Ev x).Is x:=by
 unfold Ev;split
 .rfl
 .rfl
 .rename_i a;split
  .rename_i l b;show Value.agg a=.agg (l.map Ce.v).toArray;rw[J2 b]
  .trivial
 .rename_i a;cases h:a.toList.isEmpty
  .trivial
  .show Value.tuple a=undef;have:a=#[]:=by simpa using h
   rw[this];rfl
 .split
  .rename_i c a;exact(ML a).symm
  .trivial
def ev(a:Fr):Operand->SV
 | .tmp t=>(gL a t).nb
 | .const v=>Ev v
 | .global g=>.c (.p g 0)
 | .func f=>.c (.fn (.func f) #[] #[])
structure jM(n:Nat)(fr:Fr)(a:Act):Prop where
 size:a.tmps.size=n
 defers:a.defers=[]
 aO:∀t,(gL fr t).Is (a.tmps.getD t undef)
def jM.ev{b:Fr}(h:jM n b a)(x:Operand):(ev b x).Is (a.eval x):=by
 cases x with
 |tmp t=>exact SV.TQ (h.aO t)
 |const v=>exact P8 v
 |global g=>rfl
 |func f=>rfl
def jM.put{n:Nat}{b:Fr}{a:Act}(h:jM n b a){d:Option Nat}{x:SV}{v:Value}(g:x.Is v)(hd:∀t,d=some t->t<n):
 jM n (tp b d x) (a.put d v):=by
 cases d with
 |none=>exact h
 |some d=>
  refine⟨by simpa[Act.put]using h.size,h.defers,λt=>?_⟩
  have f:d<a.tmps.size:=by rw[h.size];exact hd d rfl
  simp only[tp,gL,Act.put]
  by_cases e:d=t
  .subst e
   simp only[Nat.beq_refl,jq]
   simpa[f]using SV.TQ g
  .have:Nat.beq d t=false:=by
    cases c:Nat.beq d t
    .rfl
    .exact absurd (bq c) e
   simp only[this,lV]
   have:=h.aO t
   simpa[jB e]using this
def jM.cons{b:Fr}(h:jM n b a)(t:Nat){x:SV}(c:∀v,x.Is v):jM n ((t,x)::b) a:=by
 refine⟨h.size,h.defers,λu=>?_⟩;simp only[gL];cases d:Nat.beq t u
 .exact h.aO u
 .exact c _
def jM.iP{b:Fr}(h:jM n b a)(t:Nat):jM n ((t,.iP)::b) a:=by
 refine⟨h.size,h.defers,λu=>?_⟩;simp only[gL];cases c:Nat.beq t u
 .exact h.aO u
 .trivial
end Go.Vc
end
section
namespace Go.Vc
variable{P:Program}{t b e:Nat}
inductive Sh where
 |I
 |U (k:IntKind)
 |T
 |S
 |P
 |F
 |M
 deriving DecidableEq
abbrev Sh.ty:Sh->Type
 | .I=>Int
 | .U _=>Int
 | .T=>Bool
 | .S=>O
 | .P=>Nat×Nat
 | .F=>Fn×Array Value×Array Value
 | .M=>Nat
abbrev Sh.mk:(s:Sh)->s.ty->Ce
 | .I,n=>.i n
 | .U k,n=>.u k n
 | .T,x=>.t x
 | .S,x=>.s x
 | .P,q=>.p q.1 q.2
 | .F,v=>.fv v
 | .M,b=>.mp b
def Sh.zero:Sh->Ce
 | .I=>.i 0
 | .U k=>.u k 0
 | .T=>.t false
 | .S=>.s .nil
 | .P=>.pn
 | .F=>.nf
 | .M=>.mn
inductive TK where
 |cell
 |slice (elem:Nat)
 |struct (offs:List (Nat×Nat))
 |tuple (ts:List Nat)
 |map (key elem:Nat)
structure TI where
 GU:TK
 sh:List Sh
 bytes:Nat
abbrev TT:=List (Nat×TI)
def fx:TT->Nat->Option TI
 |[],_=>none
 |(u,x)::r,t=>bif Nat.beq u t then some x else fx r t
def Oa:Sh->Value->Bool
 | .I,.int .i64 0=>true
 | .U k,.int a 0=>decide (k=a)
 | .T,.bool false=>true
 | .S,.slice none 0 0=>true
 | .P,.pointer none=>true
 | .F,.nilFunc=>true
 | .M,.map none=>true
 |_,_=>false
def Ob{s:Sh}{v:Value}(h:Oa s v=true):v=s.zero.v:=by
 unfold Oa at h;split at h<;>first|rfl|(simp at h;subst h;rfl)|simp at h
def Ee:List Value->List Sh->Bool
 |[],[]=>true
 |v::b,s::a=>Oa s v&&Ee b a
 |_,_=>false
def Ax:∀{b:List Value}{a:List Sh},Ee b a=true->b=a.map λs=>s.zero.v
 |[],[],_=>rfl
 |v::b,s::a,h=>by
  simp only[Ee,bI]at h;simp[Ob h.1,Ax h.2]
 |[],_::_,h=>by simp[Ee]at h
 |_::_,[],h=>by simp[Ee]at h
def MV:List Field->List (Nat×Nat)->Bool
 |[],[]=>true
 |f::a,(o,t)::r=>Nat.beq f.offset o&&Nat.beq f.type t&&MV a r
 |_,_=>false
def Kz:∀{a:List Field}{b:List (Nat×Nat)},MV a b=true->a.map (λf=>(f.offset,f.type))=b
 |[],[],_=>rfl
 |f::a,(o,t)::r,h=>by
  simp only[MV,bI]at h;simp[bq h.1.1,bq h.1.2,Kz h.2]
 |[],_::_,h=>by simp[MV]at h
 |_::_,[],h=>by simp[MV]at h
def yV:TypeDesc->List Sh->Bool
 | .bool,[.T]=>true
 | .int .i64,[.I]=>true
 | .int k,[.U k']=>decide (k=k')
 | .pointer _,[.P]=>true
 | .func ..,[.F]=>true
 |_,_=>false
def AJ(i:TypeInfo)(a:TI)(b:Bool):Bool:=
 Nat.beq i.size a.sh.length&&Nat.beq i.bytes a.bytes&&
 (match i.zero with
  |some (.agg c)=>b&&Ee c.toList a.sh
  |some z=>!b&&Ee [z] a.sh
  |none=>false)
def YC(t:Nat):Nat:=t+1000000
def UT(P:Program)(t:Nat):Bool:=
 match P.underlying t with
 |some (.struct a)=>a.toList.all (λf=>f.name != "_")&&!P.stoodInHeld t&&!P.eqGuardType P.depth t
 |_=>false
def xk(P:Program)(t:Nat)(a:TI):Bool:=
 match a.GU with
 | .tuple _=>if t<1000000 then true else UT P (t -1000000)
 | .slice e=>match P.info? t,P.underlying t with
  |some i,some (.slice b)=>Nat.beq e b&&AJ i a false
  |_,_=>false
 | .struct d=>match P.info? t,P.underlying t with
  |some i,some (.struct c)=>MV c.toList d&&AJ i a true
  |_,_=>false
 | .map k e=>match P.info? t,P.underlying t with
  |some i,some (.map c b)=>Nat.beq k c&&Nat.beq e b&&AJ i a false
  |_,_=>false
 | .cell=>match P.info? t,P.underlying t with
  |some i,some d=>yV d a.sh&&AJ i a false
  |_,_=>false
def tG(P:Program)(T:TT):Prop:=T.all (λx=>xk P x.1 x.2)=true
def PG:∀{T:TT}{t:Nat}{b:TI},fx T t=some b->(t,b)∈T
 |[],_,_,h=>by simp[fx]at h
 |(u,x)::r,t,b,h=>by
  simp only[fx]at h;cases a:Nat.beq u t
  .rw[a]at h;exact ah _ (PG h)
  .rw[a]at h;have:=bq a;simp at h;subst h;subst this;exact aX
def tG.xk{T:TT}(h:tG P T){a:TI}(b:fx T t=some a):xk P t a=true:=
 List.all_eq_true.1 h _ (PG b)
def tG.cmp{T:TT}(h:tG P T){l:List Nat}{c:List Sh}(a:fx T (YC t)=some ⟨.tuple l,c,b⟩):UT P t=true:=by
 have:=h.xk a;simp only[Go.Vc.xk]at this;rw[ae (by unfold YC;omega),show YC t -1000000=t by unfold YC;omega]at this;exact this
structure JO(P:Program)(t:Nat)(ti:TI)(agg:Bool):Prop where
 aam:∃i,P.info? t=some i/\i.size=ti.sh.length/\i.bytes=ti.bytes/\
  ∃z,i.zero=some z/\z.cells.toList=(ti.sh.map λs=>s.zero.v)/\(agg=false->∀cs,z≠.agg cs)
def rQ{g:TI}{i:TypeInfo}{c:Bool}(j:P.info? t=some i)(h:AJ i g c=true):JO P t g c:=by
 simp only[AJ,bI]at h;refine⟨i,j,bq h.1.1,bq h.1.2,?_⟩;have a:=h.2;split at a
 .rename_i d b;simp only[bI]at a;exact⟨_,b,by simpa[Value.cells]using Ax a.2,λf=>by rw[f]at a;simp at a⟩
 .rename_i z f b;simp only[bI]at a;refine⟨_,b,?_,λ_ d e=>f d (by rw[e])⟩;have:=Ax a.2;rw[<-this];cases z<;>first|rfl|exact(f _ rfl).elim
 .simp at a
def jO{a:List Sh}(h:xk P t ⟨.slice e,a,b⟩=true):P.underlying t=some (.slice e)/\JO P t ⟨.slice e,a,b⟩ false:=by
 simp only[xk]at h;split at h
 .rename_i i f c d;simp only[bI]at h;have:=bq h.1;subst this;exact⟨d,rQ c h.2⟩
 .simp at h
def AT{k:Nat}{a:List Sh}(h:xk P t ⟨.map k e,a,b⟩=true):P.underlying t=some (.map k e)/\JO P t ⟨.map k e,a,b⟩ false:=by
 simp only[xk]at h;split at h
 .rename_i j l i f g;simp only[bI]at h;have c:=bq h.1.1;have d:=bq h.1.2;subst c;subst d;exact⟨g,rQ f h.2⟩
 .simp at h
def mC{c:List (Nat×Nat)}{d:List Sh}(h:xk P t ⟨.struct c,d,b⟩=true):
 (∃a,P.underlying t=some (.struct a)/\a.toList.map (λf=>(f.offset,f.type))=c)/\JO P t ⟨.struct c,d,b⟩ true:=by
 simp only[xk]at h
 split at h
 .rename_i i a e f
  simp only[bI]at h
  exact⟨⟨a,f,Kz h.1⟩,rQ e h.2⟩
 .simp at h
def nt{a:List Sh}(h:xk P t ⟨.cell,a,b⟩=true):
 (∃d,P.underlying t=some d/\yV d a=true)/\JO P t ⟨.cell,a,b⟩ false:=by
 simp only[xk]at h
 split at h
 .rename_i i d c e
  simp only[bI]at h
  exact⟨⟨d,e,h.1⟩,rQ c h.2⟩
 .simp at h
def TI.agg(a:TI):Bool:=match a.GU with| .struct _=>true|_=>false
def TI.tQ(a:TI):Bool:=match a.GU with| .tuple _=>true|_=>false
def jQ{T:TT}(f:tG P T){d:TI}(g:fx T t=some d)(j:d.tQ=false)(w:World):
 (sizeOf t).run P w=.ok d.sh.length w:=by
 have h:=f.xk g
 obtain⟨GU,k,b⟩:=d
 have:∃i,P.info? t=some i/\i.size=k.length:=by
  cases GU with
  |cell=>obtain⟨_,⟨i,a,c,_⟩⟩:=nt h;exact⟨i,a,c⟩
  |slice e=>obtain⟨_,⟨i,a,c,_⟩⟩:=jO h;exact⟨i,a,c⟩
  |map l e=>obtain⟨_,⟨i,a,c,_⟩⟩:=AT h;exact⟨i,a,c⟩
  |struct o=>obtain⟨_,⟨i,a,c,_⟩⟩:=mC h;exact⟨i,a,c⟩
  |tuple l=>simp[TI.tQ]at j
 obtain⟨i,a,c⟩:=this
 simp[sizeOf,typeInfo,a,c]
def Fc{T:TT}(g:tG P T){f:TI}(j:fx T t=some f)(k:f.tQ=false):
 ∃i,i.bytes=f.bytes/\i.size=f.sh.length/\(∀w,(typeInfo t).run P w=.ok i w)/\P.info? t=some i:=by
 have h:=g.xk j
 obtain⟨GU,l,b⟩:=f
 have:∃i,P.info? t=some i/\i.size=l.length/\i.bytes=b:=by
  cases GU with
  |cell=>obtain⟨_,⟨i,a,c,d,_⟩⟩:=nt h;exact⟨i,a,c,d⟩
  |slice e=>obtain⟨_,⟨i,a,c,d,_⟩⟩:=jO h;exact⟨i,a,c,d⟩
  |map m e=>obtain⟨_,⟨i,a,c,d,_⟩⟩:=AT h;exact⟨i,a,c,d⟩
  |struct o=>obtain⟨_,⟨i,a,c,d,_⟩⟩:=mC h;exact⟨i,a,c,d⟩
  |tuple m=>simp[TI.tQ]at k
 obtain⟨i,a,c,d⟩:=this
 exact⟨i,d,c,λw=>by simp[typeInfo,a],a⟩
def vd{T:TT}(m:tG P T){k:TI}(n:fx T t=some k)(o:k.tQ=false):
 ∃z,z.cells.toList=k.sh.map (λs=>s.zero.v)/\(∀w,(zeroValue t).run P w=.ok z w)/\(k.agg=false->∀a,z≠.agg a):=by
 have h:=m.xk n
 obtain⟨GU,l,b⟩:=k
 have:∃i,P.info? t=some i/\∃z,i.zero=some z/\z.cells.toList=(l.map λs=>s.zero.v)/\((TI.mk GU l b).agg=false->∀a,z≠.agg a):=by
  cases GU with
  |cell=>obtain⟨_,⟨i,a,g,j,z,c,d,f⟩⟩:=nt h;exact⟨i,a,z,c,d,λ_=>f rfl⟩
  |slice e=>obtain⟨_,⟨i,a,g,j,z,c,d,f⟩⟩:=jO h;exact⟨i,a,z,c,d,λ_=>f rfl⟩
  |map p e=>obtain⟨_,⟨i,a,g,j,z,c,d,f⟩⟩:=AT h;exact⟨i,a,z,c,d,λ_=>f rfl⟩
  |struct p=>obtain⟨_,⟨i,a,g,j,z,c,d,f⟩⟩:=mC h;exact⟨i,a,z,c,d,λh=>by simp[TI.agg]at h⟩
  |tuple d=>simp[TI.tQ]at o
 obtain⟨i,a,z,g,j,c⟩:=this
 exact⟨z,j,λw=>by simp[zeroValue,typeInfo,a,g],c⟩
def Hf{T:TT}(d:tG P T){a:TI}(f:fx T t=some a)(g:a.tQ=false)(w:World):
 (isAgg t).run P w=.ok a.agg w:=by
 have h:=d.xk f
 obtain⟨GU,j,b⟩:=a
 cases GU with
 |cell=>
  obtain⟨⟨i,hd,c⟩,_⟩:=nt h
  unfold yV at c
  split at c<;>first|(simp at c;done)|simp[isAgg,run_underlying hd,TI.agg]
 |slice e=>obtain⟨hd,_⟩:=jO h;simp[isAgg,run_underlying hd,TI.agg]
 |map k e=>obtain⟨hd,_⟩:=AT h;simp[isAgg,run_underlying hd,TI.agg]
 |struct o=>obtain⟨⟨c,hd,_⟩,_⟩:=mC h;simp[isAgg,run_underlying hd,TI.agg]
 |tuple c=>simp[TI.tQ]at g
end Go.Vc
end
section
namespace Go.Vc
def kP:SV->Option Bool
 | .tt=>some true
 | .ff=>some false
 | .c (.t x)=>some x
 |_=>none
def SV.js:SV->Bool
 | .iP=>false
 | .box _ _ _=>false
 | .yB _ _ _=>false
 |_=>true
def cQ(n:Int):Int:=IntKind.i64.wrap n
def GZ{α:Type}:List α->Nat->Option α
 |[],_=>none
 |x::_,0=>some x
 |_::r,n+1=>GZ r n
def oX{α:Type}:∀(l:List α)(n:Nat),GZ l n=l[n]?
 |[],_=>by simp[GZ]
 |x::_,0=>by simp[GZ]
 |_::r,n+1=>by simp[GZ,oX r n]
def V0(m:E)(b o:Nat):Nat->List Sh->(List Ce->Prop)->Prop
 |_,[],k=>k []
 |j,s::r,k=>∃x:s.ty,af m b (o+j)=some (s.mk x).v/\V0 m b o (j+1) r λl=>k (s.mk x::l)
def Vx(a b:Int):Int:=cQ ((a%18446744073709551616).toNat^^^(b%18446744073709551616).toNat:Nat)
def qX(c:BinOp)(a b:Int)(k:SV->Prop):Prop:=
 match c with
 | .add=>k (.c (.i (cQ (a+b))))
 | .sub=>k (.c (.i (cQ (a -b))))
 | .mul=>k (.c (.i (cQ (a*b))))
 | .quo=>b≠0/\k (.c (.i (cQ (a.tdiv b))))
 | .rem=>b≠0/\k (.c (.i (a.tmod b)))
 | .xor=>k (.c (.i (Vx a b)))
 | .eql=>k (.c (.t (a==b)))
 | .neq=>k (.c (.t (a !=b)))
 | .lss=>k (.c (.t (decide (a<b))))
 | .leq=>k (.c (.t (decide (a<=b))))
 | .gtr=>k (.c (.t (decide (a>b))))
 | .geq=>k (.c (.t (decide (a>=b))))
 |_=>False
def UO(c:BinOp)(a b:Bool)(k:SV->Prop):Prop:=
 match c with
 | .eql=>k (.c (.t (a==b)))
 | .neq=>k (.c (.t (!(a==b))))
 |_=>False
def Va(a:BinOp)(s:O)(k:SV->Prop):Prop:=
 match a with
 | .eql=>k (.c (.t s.EQ))
 | .neq=>k (.c (.t (!s.EQ)))
 |_=>False
def Zq(a:UnOp)(x:SV)(k:SV->Prop):Prop:=
 match a,x with
 | .not,.tt=>k .ff
 | .not,.ff=>k .tt
 | .not,.c (.t b)=>k (.c (.t (!b)))
 | .neg,.c (.i n)=>k (.c (.i (cQ (0 -n))))
 |_,_=>False
def O.cut(x:O)(a d e:Nat):O:=
 match x with
 | .nil=>.nil
 | .mk b o _ c=>.mk b (if c=a then o else o+a*e) (d -a) (c -a)
 | .CT b o c=>.CT b o c
def SV.cells:SV->Option (List Ce)
 | .c x=>some [x]
 | .tt=>some [.t true]
 | .ff=>some [.t false]
 | .agg l=>some l
 |_=>none
def lI(l:List Ce)(b:Nat)(a:List Ce):List Ce:=
 match b,l with
 |0,l=>match a,l with
  |[],l=>l
  |n::a,_::l=>n::lI l 0 a
  |_::_,[]=>[]
 |b+1,x::l=>x::lI l b a
 |_+1,[]=>[]
termination_by structural l
def Et(T:TT)(c:Fr)(e:List (Nat×Nat)):List Ce->List (Nat×Operand)->(List Ce->Prop)->Prop
 |a,[],k=>k a
 |a,(i,x)::r,k=>
  match GZ e i,(ev c x).cells with
  |some (d,t),some b=>
   match fx T t with
   |some f=>bif !f.tQ&&Nat.beq b.length f.sh.length&&Nat.ble (d+b.length) a.length then Et T c e (lI a d b) r k else False
   |none=>False
  |_,_=>False
def ur(T:TT):List (Nat×Nat)->Bool
 |[]=>true
 |(_,t)::r=>(match fx T t with|some a=>!a.tQ|none=>false)&&ur T r
def Mb(a:Fr)(x:Option Operand)(d:Int)(k:Int->Prop):Prop:=
 match x with
 |none=>k d
 |some x=>match ev a x with
  | .c (.i n)=>k n
  |_=>False
def WV(T:TT)(t:Nat)(s:O)(n:Int)(k:SV->Prop):Prop:=
 match fx T t with
 |some ⟨.slice e,_,_⟩=>match fx T e with
  |some a=>bif a.tQ then False else 0<=n/\n<(s.len:Int)/\k (.c (.p s.az (s.off+n.toNat*a.sh.length)))
  |none=>False
 |_=>False
def Pj(T:TT)(m:E)(t b o:Nat)(k:SV->Prop):Prop:=
 match fx T t with
 |some ⟨.struct _,a,_⟩=>V0 m b o 0 a λl=>k (.agg l)
 |some ⟨.cell,[s],_⟩=>∃x:s.ty,af m b o=some (s.mk x).v/\k (.c (s.mk x))
 |some ⟨.slice _,[_],_⟩=>∃x:O,af m b o=some x.v/\k (.c (.s x))
 |_=>False
def QI(T:TT)(a:Fr)(t:Nat)(s:O)(d c:Option Operand)(k:SV->Prop):Prop:=
 match fx T t with
 |some ⟨.slice e,_,_⟩=>match fx T e with
  |some b=>bif b.tQ then False else
   Mb a d 0 λl=>Mb a c (s.len:Int) λh=>0<=l/\l<=h/\h<=(s.cap:Int)/\k (.c (.s (s.cut l.toNat h.toNat b.sh.length)))
  |none=>False
 |_=>False
def NP(T:TT)(t f:Nat)(l:List Ce)(k:SV->Prop):Prop:=
 match fx T t with
 |some ⟨.struct c,_,_⟩=>match GZ c f with
  |some (b,u)=>match fx T u with
   |some a=>bif a.tQ then False else bif a.agg then k (.agg ((l.drop b).take a.sh.length))else(match GZ l b with|some x=>k (.c x)|none=>False)
   |none=>False
  |none=>False
 |_=>False
def EA(T:TT)(t f o:Nat)(mk:Nat->SV)(k:SV->Prop):Prop:=
 match fx T t with
 |some ⟨.struct c,_,_⟩=>match GZ c f with
  |some (b,u)=>match fx T u with
   |some a=>bif a.tQ||Nat.beq a.sh.length 0 then False else k (mk (o+b))
   |none=>False
  |none=>False
 |_=>False
def NN(a b:Nat)(k:Prop):Prop:=a=b/\k
def aE(b:Nat)(k:Prop):NN b b k=k:=by simp[NN]
def Ge:List Ce->Nat->Nat->Option (List Ce)
 |_,_,0=>some []
 |l,o,n+1=>match GZ l o,Ge l (o+1) n with
  |some c,some r=>some (c::r)
  |_,_=>none
def MJ(T:TT)(t:Nat)(a:List Ce)(o:Nat)(k:SV->Prop):Prop:=
 match fx T t with
 |some ⟨.struct _,b,_⟩=>match Ge a o b.length with
  |some l=>k (.agg l)
  |none=>False
 |some ⟨.cell,[_],_⟩=>match GZ a o with
  |some c=>k (.c c)
  |none=>False
 |some ⟨.slice _,[_],_⟩=>match GZ a o with
  |some c=>k (.c c)
  |none=>False
 |some ⟨.map _ _,[_],_⟩=>match GZ a o with
  |some c=>k (.c c)
  |none=>False
 |_=>False
def SY(T:TT)(c:Fr)(d:Builtin)(e:List Nat)(f:List Operand)(k:SV->Prop):Prop:=
 match d,e,f with
 | .len,[t],[x]=>match fx T t,ev c x with
  |some ⟨.slice _,_,_⟩,.c (.s s)=>k (.c (.i (s.len:Int)))
  |_,_=>False
 | .max,_,[x,y]=>match ev c x,ev c y with
  | .c (.i a),.c (.i b)=>k (.c (.i (if b>a then b else a)))
  |_,_=>False
 | .min,_,[x,y]=>match ev c x,ev c y with
  | .c (.i a),.c (.i b)=>k (.c (.i (if b<a then b else a)))
  |_,_=>False
 |_,_,_=>False
def Xp(T:TT):Nat->List (Nat×Nat)->List Ce->List Ce->Option Bool
 |_,[],[],[]=>some true
 |i,(o,u)::c,.i a::l,.i b::r=>bif Nat.beq o i then match fx T u,Xp T (i+1) c l r with
  |some ⟨.cell,[.I],_⟩,some z=>some (a==b&&z)
  |_,_=>none else none
 |_,_,_,_=>none
def eqA(T:TT)(t:Nat)(l r:List Ce)(k:SV->Prop):Prop:=
 match fx T (YC t),fx T t with
 |some ⟨.tuple _,_,_⟩,some ⟨.struct a,_,_⟩=>match Xp T 0 a l r with
  |some z=>k (.c (.t z))
  |none=>False
 |_,_=>False
def rd(T:TT)(a:Fr)(m:E)(k:SV->Prop):Op->Prop
 | .move x| .assign x=>k (ev a x)
 | .pick d c b=>match ev a d with
  | .tt=>k (ev a c)
  | .ff=>k (ev a b)
  | .c (.t x)=>match kP (ev a c),kP (ev a b)with
   |some y,some z=>k (.c (.t (bif x then y else z)))
   |_,_=>False
  |_=>False
 | .nilCheck x=>match ev a x with
  | .c (.p b o)=>k (.c (.p b o))
  | .c (.bp q b o)=>k (.c (.bp q b o))
  | .c (.fn (.func f) c d)=>k (.c (.fn (.func f) c d))
  | .c (.fv q)=>∃g,q.1=.func g/\k (.c (.fv q))
  |_=>False
 | .binOp d t x y _=>match ev a x,ev a y with
  | .c (.i c),.c (.i b)=>qX d c b k
  | .c (.s s),.c (.s .nil)=>match fx T t with
   |some ⟨.slice _,_,_⟩=>Va d s k
   |_=>False
  | .agg l,.agg r=>match d with
   | .eql=>eqA T t l r k
   |_=>False
  |sx,e=>match fx T t,kP sx,kP e with
   |some ⟨.cell,[.T],_⟩,some c,some b=>UO d c b k
   |_,_,_=>False
 | .unOp d _ x=>Zq d (ev a x) k
 | .convert s t x=>match fx T s,fx T t,ev a x with
  |some ⟨.cell,[_],_⟩,some ⟨.cell,[.I],_⟩,.c (.u _ n)=>k (.c (.i (cQ n)))
  |_,_,_=>False
 | .fieldAddr t x f=>match ev a x with
  | .c (.p b o)=>EA T t f o (λo=>.c (.p b o)) k
  | .c (.bp q b o)=>EA T t f o (λo=>.c (.bp q b o)) k
  |_=>False
 | .field t x f=>match ev a x with
  | .agg l=>NP T t f l k
  |_=>False
 | .indexAddr t x i=>match ev a x,ev a i with
  | .c (.s s),.c (.i n)=>WV T t s n k
  |_,_=>False
 | .load t x=>match ev a x with
  | .c (.p b o)=>Pj T m t b o k
  | .c (.bp q b o)=>match gL a q with
   | .box c _ d=>NN c b (MJ T t d o k)
   | .yB c _ d=>NN c b (MJ T t d o k)
   |_=>Pj T m t b o k
  |_=>False
 | .extract x i=>match ev a x with
  | .Xg l=>match GZ l i with
   |some y=>k y.sv
   |none=>False
  |_=>False
 | .slice t x c b none=>match ev a x with
  | .c (.s s)=>QI T a t s c b k
  |_=>False
 | .build t c=>match fx T t with
  |some ⟨.struct b,d,_⟩=>bif ur T b then Et T a b (d.map Sh.zero) c.toList λl=>k (.agg l)else False
  |_=>False
 | .call ⟨.builtin c,b,d⟩=>SY T a c d.toList b.toList k
 |_=>False
def lj(a:Fr)(q b e:Nat)(l:List Ce):Prop:=gL a q=.box b e l\/gL a q=.yB b e l
structure Bx(n:Nat)(fr:Fr)(m:E):Prop where
 az:∀q b e l,lj fr q b e l->m[b]? =some (.cells (l.map Ce.v).toArray e)
 NI:∀q q' b e l b' e' l',q≠q'->lj fr q b e l->lj fr q' b' e' l'->b≠b'
 key:∀q b e l,lj fr q b e l->n<=q
def Sr(T:TT)(c:Fr):Op->List (Nat×Nat)
 | .load t x=>match ev c x,fx T t with
  | .c (.p b o),some a=>(List.range a.sh.length).map λj=>(b,o+j)
  | .c (.bp _ b o),some a=>(List.range a.sh.length).map λj=>(b,o+j)
  |_,_=>[]
 |_=>[]
end Go.Vc
end
section
namespace Go.Vc
variable{s:SV}{b:Bool}
def SV.Is.eq{v:Value}(h:s.Is v)(a:s.js=true):v=s.v:=by
 cases s<;>first|exact h|simp[SV.js]at a
def nh(s:SV):s.Is s.v:=by cases s<;>first|rfl|trivial
def jM.eq{n:Nat}{b:Fr}{a:Act}(h:jM n b a){x:Operand}{s:SV}(c:Vc.ev b x=s)(d:s.js=true):a.eval x=s.v:=by
 have:=h.ev x;rw[c]at this;exact this.eq d
def vL(h:kP s=some b):s.js=true/\s.v=.bool b:=by
 unfold kP at h;split at h<;>simp_all [SV.js,SV.v,Ce.v]
def jM.Zk{n:Nat}{c:Fr}{a:Act}(h:jM n c a){x:Operand}(d:kP (Vc.ev c x)=some b):a.eval x=.bool b:=by
 rw[h.eq rfl (vL d).1,(vL d).2]
def uO(b o n:Nat):(⟨b,o,none⟩:Addr).add n=⟨b,o+n,none⟩:=by
 unfold Addr.add;split
 .rename_i h;subst h;rfl
 .rfl
def AP:∀(l:List Ce)(a:Nat)(b:List Ce)(i:Nat),a+b.length<=l.length->
 (lI l a b)[i]? =if a<=i/\i<a+b.length then b[i -a]? else l[i]?
 |[],0,[],i,_=>by simp[lI]
 |[],0,_::_,_,h=>by simp at h
 |[],_+1,_,_,h=>by simp at h
 |x::l,0,[],i,_=>by simp[lI]
 |x::l,0,n::b,i,h=>by
  simp only[lI];cases i with
  |zero=>simp
  |succ i=>
   have:=AP l 0 b i (by simp at h;omega);simp only[gH,this];simp
 |x::l,a+1,b,i,h=>by
  simp only[lI];cases i with
  |zero=>simp
  |succ i=>
   have:=AP l a b i (by simp at h;omega);simp only[gH,this];have e:(i+1 -(a+1))=i -a:=V;simp only[e];congr 1;simp;omega
def MO(c:List Value):∀(k a:Nat)(b:Array Value)(i:Nat),
 ((c.zipIdx k).foldl (λ(d:Array Value)(p:Value×Nat)=>d.setIfInBounds (a+p.2) p.1) b)[i]? =
  if a+k<=i/\i<a+k+c.length/\i<b.size then c[i -(a+k)]? else b[i]? :=by
 induction c with
 |nil=>intro k a b i;simp;intro h;omega
 |cons v c g=>
  intro k a b i
  simp only[List.zipIdx_cons,List.foldl_cons,g,Array.size_setIfInBounds,aW]
  by_cases d:i=a+k
  .subst d
   by_cases e:a+k<b.size
   .simp[e];try omega
   .simp[e];try omega
  .have:¬(a+k=i):=λf=>d f.symm
   rw[jB this]
   by_cases e:a+k<=i/\i<a+k+(c.length+1)/\i<b.size
   .rw[ak e,ak V]
    have:i -(a+k)=(i -(a+(k+1)))+1:=V
    rw[this,gH]
   .rw[ae e,ae V]
def oP{l:List Ce}(h:s.cells=some l):s.js=true/\s.v.cells=(l.map Ce.v).toArray:=by
 cases s with
 |c x=>simp[SV.cells]at h;subst h;exact⟨rfl,by simp[SV.v,Ce.ln]⟩
 |tt=>simp[SV.cells]at h;subst h;exact⟨rfl,rfl⟩
 |ff=>simp[SV.cells]at h;subst h;exact⟨rfl,rfl⟩
 |agg a=>simp[SV.cells]at h;subst h;exact⟨rfl,rfl⟩
 |Xg _=>simp[SV.cells]at h
 |un=>simp[SV.cells]at h
 |iP=>simp[SV.cells]at h
 |box _ _ _=>simp[SV.cells]at h
 |yB _ _ _=>simp[SV.cells]at h
end Go.Vc
end
section
namespace Go.Vc
variable{x y:Operand}{c:TypeId}{h b f o:Nat}{g:List Ce}
variable{e:Program}{T:TT}
def nZ(e:Program)(T:TT)(b:Fr)(m:E)(a:Act)(o:Oper)(k:SV->Prop):Prop:=
 ∃x v,k x/\x.Is v/\∀w:World,(∀q∈Sr T b o.op,af w.heap q.1 q.2=af m q.1 q.2)->(execOp a.eval o).run e w=.ok (.value v) w
section
variable{n:Nat}{i:Fr}{a:Act}{j:E}{k:SV->Prop}{q:Option Tmp}{v:TypeId}{u:String}{p:Array Edge}{r:Option (Nat×Bool)}
def Tx(b:jM n i a)(h:k (ev i x)):nZ e T i j a ⟨q,.move x,v,u,p,r⟩ k:=
 ⟨_,_,h,b.ev x,λw _=>by simp[execOp]⟩
def RT(b:jM n i a)(h:k (ev i x)):nZ e T i j a ⟨q,.assign x,v,u,p,r⟩ k:=
 ⟨_,_,h,b.ev x,λw _=>by simp[execOp]⟩
def Qp(c:jM n i a){f:Operand}(h:rd T i j k (.pick f x y)):nZ e T i j a ⟨q,.pick f x y,v,u,p,r⟩ k:=by
 simp only[rd]at h;split at h
 .rename_i d;exact⟨_,_,h,c.ev x,λw _=>by simp[execOp,c.eq d rfl,SV.v,asBool]⟩
 .rename_i d;exact⟨_,_,h,c.ev y,λw _=>by simp[execOp,c.eq d rfl,SV.v,asBool]⟩
 .rename_i b d;split at h
  .rename_i m o g l;refine⟨_,_,h,nh _,λw _=>?_⟩;simp[execOp,c.eq d rfl,SV.v,Ce.v,asBool,c.Zk g,c.Zk l];try (cases b<;>rfl)
  .exact h.elim
 .exact h.elim
def Kg(d:jM n i a)(h:rd T i j k (.nilCheck x)):nZ e T i j a ⟨q,.nilCheck x,v,u,p,r⟩ k:=by
 simp only[rd]at h;split at h
 .rename_i b o c;exact⟨_,_,h,nh _,λw _=>by simp[execOp,d.eq c rfl,SV.v,Ce.v]⟩
 .rename_i m b o c;exact⟨_,_,h,nh _,λw _=>by simp[execOp,d.eq c rfl,SV.v,Ce.v]⟩
 .rename_i f g l c;exact⟨_,_,h,nh _,λw _=>by simp[execOp,d.eq c rfl,SV.v,Ce.v]⟩
 .rename_i m c;obtain⟨s,g,l⟩:=h;exact⟨_,_,l,nh _,λw _=>by simp[execOp,d.eq c rfl,SV.v,Ce.v,g]⟩
 .exact h.elim
def UP{a:BinOp}{x y:Int}(h:qX a x y k):∃s v,k s/\s.Is v/\∀w:World,(binOp a c (.int .i64 x) (.int .i64 y)).run e w=.ok v w:=by
 cases a<;>simp only[qX]at h
 case quo=>exact⟨_,_,h.2,nh _,λw=>by simp[binOp,Op.intDiv,h.1,SV.v,Ce.v,cQ]⟩
 case rem=>exact⟨_,_,h.2,nh _,λw=>by simp[binOp,Op.intDiv,h.1,SV.v,Ce.v]⟩
 case xor=>exact⟨_,_,h,nh _,λw=>by simp[binOp,Op.intBits,SV.v,Ce.v,cQ,Vx,IntKind.bits];rfl⟩
 all_goals exact⟨_,_,h,nh _,λw=>by simp[binOp,Op.intArith,Op.intCmp,SV.v,Ce.v,cQ]⟩
def O0(a:BinOp)(c:TypeId)(d f:Operand)(b:IntKind)(x:Int)(y:Value)(w:World):(eqGuard a c d f (.int b x) y).run e w=.ok () w:=by
 cases a<;>simp[eqGuard]
def NM(a:BinOp)(c:TypeId)(b d:Operand)(x:Bool)(y:Value)(w:World):(eqGuard a c b d (.bool x) y).run e w=.ok () w:=by
 cases a<;>simp[eqGuard]
def Qe(hd:e.underlying c=some .bool)(x y:Bool)(w:World):(Op.equal c (.bool x) (.bool y)).run e w=.ok (x==y) w:=by
 have:Op.equal c (.bool x) (.bool y)=Op.equalIn (9999+1) c (.bool x) (.bool y):=rfl;rw[this];generalize 9999=h;simp[Op.equalIn,run_underlying hd]
def II{a:TypeId}(hd:e.underlying c=some (.slice a))(s:O)(w:World):(Op.equal c s.v (.slice none 0 0)).run e w=.ok s.EQ w:=by
 have:Op.equal c s.v (.slice none 0 0)=Op.equalIn (9999+1) c s.v (.slice none 0 0):=rfl;rw[this];generalize 9999=h;cases s<;>simp[Op.equalIn,run_underlying hd,O.v]
def O1(hd:e.underlying c=some (.int .i64))(x y:Int)(w:World):(Op.equalIn (h+1) c (.int .i64 x) (.int .i64 y)).run e w=.ok (x==y) w:=by
 simp[Op.equalIn,run_underlying hd]
def Pp(d:tG e T){u:Nat}(f:fx T u=some ⟨.cell,[.I],b⟩){a:Array Value}{c:Nat}{v:Value}(h:a[c]? =some v)(w:World):(part u a c).run e w=.ok v w:=by
 simp[part,Hf d f rfl,TI.agg,h]
def Tu(n:tG e T){X Y:Array Value}(A:World):∀(j:List Field)(i:Nat)(l:List (Nat×Nat))(g r:List Ce)(z:Bool),j.map (λf=>(f.offset,f.type))=l->(∀f∈j,f.name≠ "_")->
 (∀k d,g[k]? =some d->X[i+k]? =some d.v)->(∀k d,r[k]? =some d->Y[i+k]? =some d.v)->Xp T i l g r=some z->
 (forIn (m:=Sem) j ((none,()):Option Bool×PUnit) λf _=>do
  if f.name≠ "_" then
   if !(<-Op.equalIn (h+1) f.type (<-part f.type X f.offset) (<-part f.type Y f.offset))then pure (.done (some false,()))else pure (.yield (none,()))
  else pure (.yield (none,()))).run e A=.ok (if z=true then(none,())else(some false,())) A:=by
 intro j
 induction j with
 |nil=>
  intro i l g r z u v p q c
  subst u
  cases g<;>cases r<;>simp[Xp]at c
  subst c
  simp
 |cons f j K=>
  intro i l g r z u v p q c
  subst u
  simp only[cA]at c
  unfold Xp at c
  split at c
  .simp at*
  .rename_i i _ _ _ _ o N l a g b r C
   obtain⟨⟨rfl,rfl⟩,rfl⟩:=by simpa using C
   cases s:Nat.beq f.offset i
   .rw[s]at c;simp at c
   .rw[s]at c;simp only[jq]at c
    have x:=bq s
    split at c
    .rename_i M L w J
     simp only[CK]at c
     obtain⟨⟨B,D,y⟩,_⟩:=nt (n.xk w)
     have F:B=.int .i64:=by unfold yV at y;split at y<;>simp_all
     subst F
     have H:X[f.offset]? =some (.int .i64 a):=by have:=p 0 (.i a) rfl;rw[x];exact this
     have I:Y[f.offset]? =some (.int .i64 b):=by have:=q 0 (.i b) rfl;rw[x];exact this
     have G:=K (i+1) _ g r L rfl (λt E=>v t (ah _ E)) (λk d t=>by have:=p (k+1) d (by simpa using t);rw[<-this];congr 1;omega) (λk d t=>by have:=q (k+1) d (by simpa using t);rw[<-this];congr 1;omega) J
     rw[List.forIn_cons,Sem.run_bind,ak (v f aX)]
     simp only[Sem.run_bind,Pp n w H,Pp n w I,Result.andThen_ok,O1 D]
     cases t:(a==b)
     .rw[t]at c;subst c;simp
     .rw[t]at c;simp only[Nn]at c;subst c
      simp only[Nm,fq,mH,Sem.run_pure,Result.andThen_ok]
      exact G
    .simp at c
  .simp at c
def NO(j:tG e T){a:Array Field}(p:e.underlying c=some (.struct a))(o:e.stoodInHeld c=false)(n:∀f∈a.toList,f.name≠ "_"){r:List Ce}{z:Bool}
 (l:Xp T 0 (a.toList.map λf=>(f.offset,f.type)) g r=some z)(w:World):(Op.equal c (.agg (g.map Ce.v).toArray) (.agg (r.map Ce.v).toArray)).run e w=.ok z w:=by
 have:Op.equal c (.agg (g.map Ce.v).toArray) (.agg (r.map Ce.v).toArray)=Op.equalIn (9998+1+1) c (.agg (g.map Ce.v).toArray) (.agg (r.map Ce.v).toArray):=rfl
 rw[this]
 generalize 9998=h
 rw[Op.equalIn]
 simp only[Sem.run_bind,run_underlying p,Result.andThen_ok]
 have m:=Tu j (h:=h) (X:=(g.map Ce.v).toArray) (Y:=(r.map Ce.v).toArray) w a.toList 0 _ g r z rfl n (λk i b=>by simp[b]) (λk i b=>by simp[b]) l
 have b:(program:Sem Program).run e w=.ok e w:=rfl
 rw[b,Result.andThen_ok,ae (by simp[o]),Sem.run_bind,<-Array.forIn_toList,m]
 cases z<;>rfl
def RN(h:UT e c=true):∃a,e.underlying c=some (.struct a)/\(∀f∈a.toList,f.name≠ "_")/\e.stoodInHeld c=false/\e.eqGuardType e.depth c=false:=by
 unfold UT at h;split at h
 .rename_i a b;simp only[bI,List.all_eq_true,uF,gC]at h;exact⟨a,b,h.1.1,h.1.2,h.2⟩
 .cases h
def OZ(h:e.eqGuardType e.depth c=false)(f g:Operand)(a b:Array Value)(w:World):(eqGuard .eql c f g (.agg a) (.agg b)).run e w=.ok () w:=by
 have d:(program:Sem Program).run e w=.ok e w:=rfl;simp only[eqGuard,Sem.run_bind];simp[d,h]
def LP(a:BinOp)(c:TypeId)(b d:Operand)(s:O)(y:Value)(w:World):(eqGuard a c b d s.v y).run e w=.ok () w:=by
 cases s<;>cases a<;>simp[eqGuard,O.v]
def O8(m:tG e T)(d:jM n i a){z:BinOp}{D:TypeId}(b:rd T i j k (.binOp z c x y D)):nZ e T i j a ⟨q,.binOp z c x y D,v,u,p,r⟩ k:=by
 simp only[rd]at b;split at b
 .rename_i L M f l;obtain⟨s,E,A,w,C⟩:=UP (e:=e) (c:=c) b;refine⟨s,E,A,w,λB _=>?_⟩;simp only[execOp,d.eq f rfl,d.eq l rfl,SV.v,Ce.v,Sem.run_bind];simp[O0,C]
 .rename_i s f l;split at b
  .rename_i I J H A;have w:=(jO (m.xk A)).1;have F:a.eval x=s.v:=d.eq f rfl;have G:a.eval y=.slice none 0 0:=d.eq l rfl;cases z<;>simp only[Va]at b
   all_goals
    first
    |exact b.elim
    |exact⟨_,_,b,nh _,λB _=>by
     have C:∀o:BinOp,o=.eql\/o=.neq->binOp o c s.v (.slice none 0 0)=(if o=.eql then(do pure (.bool (<-Op.equal c s.v (.slice none 0 0))))else(do pure (.bool (!(<-Op.equal c s.v (.slice none 0 0)))))):=by
      intro o E;rcases E with rfl|rfl<;>cases s<;>rfl
     simp only[execOp,F,G,Sem.run_bind,LP,Result.andThen_ok];rw[C _ aH];simp[II w,SV.v,Ce.v]⟩
  .exact b.elim
 .rename_i g N f l;split at b
  .unfold eqA at b;split at b
   .rename_i G A;split at b
    .rename_i R C;obtain⟨O,w,J,K,H⟩:=RN (m.cmp G);obtain⟨⟨Q,s,I⟩,_⟩:=mC (m.xk A);rw[w]at s;obtain rfl:=(TypeDesc.struct.inj (lG s));rw[<-I]at C;refine⟨_,_,b,nh _,λB _=>?_⟩;have E:a.eval x=.agg (g.map Ce.v).toArray:=d.eq f rfl;have F:a.eval y=.agg (N.map Ce.v).toArray:=d.eq l rfl;simp only[execOp,E,F,Sem.run_bind,OZ H,Result.andThen_ok,binOp,NO m w K J C];rfl
    .exact b.elim
   .exact b.elim
  .exact b.elim
 .split at b
  .rename_i L M w f l;obtain⟨⟨h,hd,A⟩,_⟩:=nt (m.xk w);have s:h=.bool:=by
    cases h<;>simp_all [yV]
   subst s;cases z<;>simp only[UO]at b
   all_goals
    first
    |exact b.elim
    |exact⟨_,_,b,nh _,λB _=>by
     simp only[execOp,d.Zk f,d.Zk l,Sem.run_bind,NM,Result.andThen,binOp,Qe hd];rfl⟩
  .exact b.elim
def LR(d:tG e T)(l:jM n i a){s:TypeId}(b:rd T i j k (.convert s c x)):nZ e T i j a ⟨q,.convert s c x,v,u,p,r⟩ k:=by
 simp only[rd]at b;split at b
 .rename_i B b1 b2 z A t w y;obtain⟨⟨h,hd,_⟩,_⟩:=nt (d.xk t);obtain⟨⟨g,m,f⟩,_⟩:=nt (d.xk w);have o:g=.int .i64:=by unfold yV at f;split at f<;>simp_all
  subst o;exact⟨_,_,b,nh _,λC _=>by
   simp only[execOp,l.eq y rfl,SV.v,Ce.v,Sem.run_bind];simp[convert,run_underlying hd,run_underlying m,Conv.intToInt,cQ]⟩
 .exact b.elim
def Qq(b:jM n i a){f:UnOp}(h:rd T i j k (.unOp f c x)):nZ e T i j a ⟨q,.unOp f c x,v,u,p,r⟩ k:=by
 simp only[rd]at h;generalize d:ev i x=sx at h;unfold Zq at h;split at h
 .exact⟨_,_,h,nh _,λw _=>by simp[execOp,b.eq d rfl,SV.v,Op.unary]⟩
 .exact⟨_,_,h,nh _,λw _=>by simp[execOp,b.eq d rfl,SV.v,Op.unary]⟩
 .exact⟨_,_,h,nh _,λw _=>by simp[execOp,b.eq d rfl,SV.v,Ce.v,Op.unary]⟩
 .exact⟨_,_,h,nh _,λw _=>by simp[execOp,b.eq d rfl,SV.v,Ce.v,Op.unary,Op.intArith,cQ]⟩
 .exact h.elim
def Cr(l:tG e T)(L:jM n i a){mk:Nat->SV}(E:∀o,(mk o).v=.pointer (some ⟨b,o,none⟩))(J:a.eval x=.pointer (some ⟨b,o,none⟩))(h:EA T c f o mk k):
 nZ e T i j a ⟨q,.fieldAddr c x f,v,u,p,r⟩ k:=by
 unfold EA at h
 split at h
 .rename_i N O K H
  split at h
  .rename_i M P s
   split at h
   .rename_i g I
    cases d:(g.tQ||Nat.beq g.sh.length 0)
    .rw[d]at h
     simp only[bU]at d
     obtain⟨⟨z,C,D⟩,_⟩:=mC (l.xk H)
     rw[oX,<-D,bR]at s
     obtain⟨y,A,m⟩:=Option.map_eq_some_iff.1 s
     simp only[Nq]at m
     obtain⟨rfl,rfl⟩:=m
     have G:=λw=>jQ l I d.1 w
     have F:g.sh.length≠0:=λt=>by rw[t]at d;simp at d
     refine⟨_,_,h,nh _,λw _=>?_⟩
     have B:z[f]? =some y:=by simpa using A
     rw[E]
     simp[execOp,Instr.fieldAt,J,run_underlying C,B,Instr.sureAddr,fieldPlace,G,F,uO]
    .rw[d]at h;exact h.elim
   .exact h.elim
  .exact h.elim
 .exact h.elim
def IK(l:tG e T)(d:jM n i a)(h:rd T i j k (.fieldAddr c x f)):nZ e T i j a ⟨q,.fieldAddr c x f,v,u,p,r⟩ k:=by
 simp only[rd]at h;split at h
 .rename_i b o g;exact Cr l d (λo=>rfl) (d.eq g rfl) h
 .rename_i m b o g;exact Cr l d (λo=>rfl) (d.eq g rfl) h
 .exact h.elim
def Pa(l:tG e T)(m:jM n i a)(h:rd T i j k (.field c x f)):nZ e T i j a ⟨q,.field c x f,v,u,p,r⟩ k:=by
 simp only[rd]at h;split at h
 .rename_i g C;unfold NP at h;split at h
  .rename_i N O L K;split at h
   .rename_i M P A;split at h
    .rename_i E B;cases b:E.tQ
     .rw[b]at h;obtain⟨⟨G,z,I⟩,_⟩:=mC (l.xk K);rw[oX,<-I,bR]at A;obtain⟨F,H,s⟩:=Option.map_eq_some_iff.1 A;simp only[Nq]at s;obtain⟨rfl,rfl⟩:=s;have J:=λw=>jQ l B b w;have o:=λw=>Hf l B b w;have t:G[f]? =some F:=by simpa using H
      cases d:E.agg
      .simp only[d,lV]at h;split at h
       .rename_i y D;refine⟨_,_,h,nh _,λw _=>?_⟩;rw[oX]at D;simp[execOp,Instr.field,m.eq C rfl,SV.v,run_underlying z,t,asAgg,part,o,d,D]
       .exact h.elim
      .simp only[d,lV,jq]at h;refine⟨_,_,h,nh _,λw _=>?_⟩;simp[execOp,Instr.field,m.eq C rfl,SV.v,run_underlying z,t,asAgg,part,o,d,J,List.map_drop,Np]
     .rw[b]at h;exact h.elim
    .exact h.elim
   .exact h.elim
  .exact h.elim
 .exact h.elim
def IL(l:tG e T)(g:jM n i a)(h:rd T i j k (.indexAddr c x y)):nZ e T i j a ⟨q,.indexAddr c x y,v,u,p,r⟩ k:=by
 simp only[rd]at h;split at h
 .rename_i E J C D;unfold WV at h;split at h
  .rename_i I L G A;split at h
   .rename_i F t;cases f:F.tQ
    .rw[f]at h;obtain⟨m,d,s⟩:=h;have B:=(jO (l.xk A)).1;have z:=λw=>jQ l t f w;cases E with
     |nil=>simp[O.len]at d;omega
     |CT _ _ _=>simp[O.len]at d;omega
     |mk b o K H=>
      refine⟨_,_,s,nh _,λw _=>?_⟩;simp only[O.len]at d;simp[execOp,Instr.indexAt,g.eq C rfl,g.eq D rfl,SV.v,Ce.v,O.v,asIntOf,run_underlying B,m,d,z,uO,O.az,O.off]
    .rw[f]at h;exact h.elim
   .exact h.elim
  .exact h.elim
 .exact h.elim
def Ph:∀(d:List Sh)(b o a:Nat)(k:List Ce->Prop),V0 j b o a d k->∃g,k g/\g.length=d.length/\∀i,i<d.length->af j b (o+a+i)=(g[i]?).map Ce.v
 |[],_,_,_,_,h=>⟨[],h,rfl,λi c=>by simp at c⟩
 |s::r,b,o,a,k,h=>by
  obtain⟨x,n,h⟩:=h;obtain⟨g,l,m,f⟩:=Ph r b o (a+1) _ h;refine⟨s.mk x::g,l,by simp[m],λi c=>?_⟩;cases i with
  |zero=>simpa using n
  |succ i=>
   have:=f i (by simpa using c);have e:o+(a+1)+i=o+a+(i+1):=V;rw[e]at this;simpa using this
def mj(B:tG e T)(S:jM n i a)(I:a.eval x=.pointer (some ⟨b,o,none⟩)){f:TI}(H:fx T c=some f)(G:f.tQ=false)
 (K:∀d,d<f.sh.length->(b,o+d)∈Sr T i (.load c x))(E:g.length=f.sh.length)(L:∀z,z<f.sh.length->af j b (o+z)=(g[z]?).map Ce.v)
 {s:SV}(U:s.js=true)(O:(f.agg=true/\s.v=.agg (g.map Ce.v).toArray)\/(f.agg=false/\∃m,g=[m]/\s.v=m.v))(N:k s):
 nZ e T i j a ⟨q,.load c x,v,u,p,r⟩ k:=by
 refine⟨s,s.v,N,nh _,λl R=>?_⟩
 have Q:=jQ B H G l
 have C:=Hf B H G l
 have D:∀d,d<f.sh.length->af l.heap b (o+d)=(g[d]?).map Ce.v:=λd h=>by rw[R (b,o+d) (K d h),L d h]
 rcases O with⟨t,y⟩|⟨t,m,y,J⟩
 .have F:=run_loadCells_list (P:=e) (w:=l) ⟨b,o,none⟩ (g.map Ce.v) (λd V h=>by
   rw[uO,yD];have M:d<f.sh.length:=by
    rcases aU d f.sh.length with A|A
    .exact A
    .rw[bT bN]at h;simp at h
   rw[D d M,<-bR,h])
  simp only[dO]at F
  simp only[execOp,Instr.loadAt,I,Instr.sureAddr,loadVar,Sem.run_bind,Sem.run_pure,C,t,Result.andThen_ok,Q,LG]
  simp[<-E,F,y]
 .subst y
  have A:=D 0 (by rw[<-E];simp)
  simp at A
  simp only[execOp,Instr.loadAt,I,Instr.sureAddr,loadVar,Sem.run_bind,Sem.run_pure,C,t,Result.andThen_ok]
  simp[yD,A,J]
def Ij(C:tG e T)(B:jM n i a)(D:a.eval x=.pointer (some ⟨b,o,none⟩))
 (A:∀d f,fx T c=some d->f<d.sh.length->(b,o+f)∈Sr T i (.load c x))(h:Pj T j c b o k):nZ e T i j a ⟨q,.load c x,v,u,p,r⟩ k:=by
 unfold Pj at h
 split at h
 .rename_i H I F d
  obtain⟨g,w,G,E⟩:=Ph _ _ _ _ _ h
  exact mj C B D d rfl (λf t=>A _ f d t) G (λz m=>by simpa using E z m) (s:=.agg g) rfl (Or.inl ⟨rfl,rfl⟩) w
 .rename_i G F d
  obtain⟨y,E,w⟩:=h
  exact mj C B D d rfl (λf t=>A _ f d t) (g:=[G.mk y]) rfl (λz m=>by
   have:z=0:=by simpa using m
   subst this;exact E) (s:=.c (G.mk y)) rfl (Or.inr ⟨rfl,_,rfl,rfl⟩) w
 .rename_i G H F d
  obtain⟨y,E,w⟩:=h
  exact mj C B D d rfl (λf t=>A _ f d t) (g:=[.s y]) rfl (λz m=>by
   have:z=0:=by simpa using m
   subst this;exact E) (s:=.c (.s y)) rfl (Or.inr ⟨rfl,_,rfl,rfl⟩) w
 .exact h.elim
def Lu:∀{a:List Ce}{b o:Nat}{g:List Ce},Ge a o b=some g->g.length=b/\∀i,i<b->a[o+i]? =g[i]?
 |a,0,o,g,h=>by simp[Ge]at h;subst h;simp
 |a,b+1,o,g,h=>by
  simp only[Ge]at h;split at h
  .rename_i j r c f;simp at h;subst h;obtain⟨d,e⟩:=Lu f;refine⟨by simp[d],λi k=>?_⟩;cases i with
   |zero=>rw[oX]at c;simpa using c
   |succ i=>
    have:=e i V;rw[show o+(i+1)=o+1+i by omega];simpa using this
  .simp at h
def Ii(C:tG e T)(B:jM n i a){H:Nat}{G:List Ce}(E:a.eval x=.pointer (some ⟨b,o,none⟩))
 (A:∀d m,fx T c=some d->m<d.sh.length->(b,o+m)∈Sr T i (.load c x))(I:j[b]? =some (.cells (G.map Ce.v).toArray H))(h:MJ T c G o k):
 nZ e T i j a ⟨q,.load c x,v,u,p,r⟩ k:=by
 have D:∀f,af j b f=(G[f]?).map Ce.v:=λf=>by simp[af,I]
 unfold MJ at h
 split at h
 .rename_i K L F d
  split at h
  .rename_i g J
   obtain⟨t,w⟩:=Lu J
   exact mj C B E d rfl (λm z=>A _ m d z) t (λf y=>by rw[D,w f y]) (s:=.agg g) rfl (Or.inl ⟨rfl,rfl⟩) h
  .exact h.elim
 .rename_i J F d
  split at h
  .rename_i t w
   rw[oX]at w
   exact mj C B E d rfl (λm z=>A _ m d z) (g:=[t]) rfl (λf y=>by
    have:f=0:=by simpa using y
    subst this;rw[D];simp[w]) (s:=.c t) rfl (Or.inr ⟨rfl,_,rfl,rfl⟩) h
  .exact h.elim
 .rename_i H J F d
  split at h
  .rename_i t w
   rw[oX]at w
   exact mj C B E d rfl (λm z=>A _ m d z) (g:=[t]) rfl (λf y=>by
    have:f=0:=by simpa using y
    subst this;rw[D];simp[w]) (s:=.c t) rfl (Or.inr ⟨rfl,_,rfl,rfl⟩) h
  .exact h.elim
 .rename_i L K J F d
  split at h
  .rename_i t w
   rw[oX]at w
   exact mj C B E d rfl (λm z=>A _ m d z) (g:=[t]) rfl (λf y=>by
    have:f=0:=by simpa using y
    subst this;rw[D];simp[w]) (s:=.c t) rfl (Or.inr ⟨rfl,_,rfl,rfl⟩) h
  .exact h.elim
 .exact h.elim
def Qo(l:tG e T)(d:jM n i a)(B:Bx n i j)(h:rd T i j k (.load c x)):nZ e T i j a ⟨q,.load c x,v,u,p,r⟩ k:=by
 simp only[rd]at h;split at h
 .rename_i b o f;exact Ij l d (d.eq f rfl) (λm g A z=>by simp only[Sr,f,A];exact List.mem_map.2 ⟨g,List.mem_range.2 z,rfl⟩) h
 .rename_i C b o f;have w:∀m g,fx T c=some m->g<m.sh.length->(b,o+g)∈Sr T i (.load c x):=λm g A z=>by simp only[Sr,f,A];exact List.mem_map.2 ⟨g,List.mem_range.2 z,rfl⟩
  split at h
  .rename_i D t s y;obtain⟨rfl,h⟩:=h;exact Ii l d (d.eq f rfl) w (B.az C _ t s (Or.inl y)) h
  .rename_i D t s y;obtain⟨rfl,h⟩:=h;exact Ii l d (d.eq f rfl) w (B.az C _ t s (Or.inr y)) h
  .exact Ij l d (d.eq f rfl) w h
 .exact h.elim
end
end Go.Vc
end
section
namespace Go.Vc
variable{x:Operand}{t:TypeId}
variable{P:Program}{T:TT}
section
variable{n:Nat}{b:Fr}{a:Act}{m:E}{k:SV->Prop}{d:Option Tmp}{g:TypeId}{f:String}{c:Array Edge}{e:Option (Nat×Bool)}
def LU(l:jM n b a){j:Nat}(h:rd T b m k (.extract x j)):nZ P T b m a ⟨d,.extract x j,g,f,c,e⟩ k:=by
 simp only[rd]at h;split at h
 .rename_i p o;split at h
  .rename_i y i;refine⟨_,_,h,nh _,λw _=>?_⟩;rw[oX]at i;rw[AV.aag];have:a.eval x=.tuple (p.map AV.v).toArray:=l.eq o rfl;simp[execOp,Instr.extract,this,i]
  .exact h.elim
 .exact h.elim
def MW(c:jM n b a){x:Option Operand}{d:Int}{k:Int->Prop}(h:Mb b x d k):
 (x=none/\k d)\/∃y i,x=some y/\a.eval y=.int .i64 i/\k i:=by
 unfold Mb at h
 split at h
 .exact Or.inl ⟨rfl,h⟩
 .rename_i y
  split at h
  .rename_i i e
   exact Or.inr ⟨y,i,rfl,c.eq e rfl,h⟩
  .exact h.elim
def oZ(k:IntKind)(i:Int)(y:Nat)(c:BoundsCode)(a:0<=i)(b:i<=y)(w:World):(Instr.sliceBound (.int k i) y c).run P w=.ok i.toNat w:=by
 simp[Instr.sliceBound,asIntOf,a,b]
def Yb(b o l c a d e:Nat):(O.cut (.mk b o l c) a d e).v=.slice (if c=a then some ⟨b,o,none⟩else(some (⟨b,o,none⟩:Addr)).map (·.add (a*e))) (d -a) (c -a):=by
 show Value.slice _ _ _=_;simp only[uO,lF];split<;>rfl
def Pb(J:tG P T)(r:jM n b a){A y:Option Operand}(i:rd T b m k (.slice t x A y none)):nZ P T b m a ⟨d,.slice t x A y none,g,f,c,e⟩ k:=by
 simp only[rd]at i;split at i
 .rename_i s G;unfold QI at i;split at i
  .rename_i v N M L;split at i
   .rename_i B K;cases D:B.tQ
    .rw[D]at i;have F:=(jO (J.xk L)).1;have E:=λw=>jQ J K D w;have z:∀(l h:Int),0<=l->l<=h->h<=(s.cap:Int)->
      (∀w:World,(Instr.sliceBounds true s.len s.cap (A.map a.eval) (y.map a.eval) none).run P w=.ok (l.toNat,h.toNat,s.cap) w)->
      ∀w:World,(execOp a.eval ⟨d,.slice t x A y none,g,f,c,e⟩).run P w=.ok (.value (Ce.s (s.cut l.toNat h.toNat B.sh.length)).v) w:=by
      intro l h o p j q w
      cases s with
      |nil=>
       simp only[O.cap,O.len]at q j
       have:h=0:=V
       have:l=0:=V
       subst this;subst h
       simp[execOp,Instr.sliceAt,r.eq G rfl,SV.v,Ce.v,O.v,run_underlying F,Instr.slice,q,E,O.cut]
      |CT u C H=>
       simp only[O.cap,O.len]at q j
       have:h=0:=V
       have:l=0:=V
       subst this;subst h
       simp[execOp,Instr.sliceAt,r.eq G rfl,SV.v,Ce.v,O.v,run_underlying F,Instr.slice,q,E,O.cut]
      |mk u I H C=>
       simp only[O.cap,O.len]at q
       have v:(Ce.s ((O.mk u I H C).cut l.toNat h.toNat B.sh.length)).v=_:=Yb u I H C l.toNat h.toNat B.sh.length
       rw[v]
       have:a.eval x=.slice (some ⟨u,I,none⟩) H C:=r.eq G rfl
       simp[execOp,Instr.sliceAt,this,run_underlying F,Instr.slice,q,E]
     simp only[lV]at i;rcases MW r i with⟨rfl,C⟩|⟨Q,l,rfl,H,C⟩<;>rcases MW r C with⟨rfl,o,p,j,u⟩|⟨R,h,rfl,I,o,p,j,u⟩
     .exact⟨_,_,u,nh _,λw _=>z _ _ o p j (λw=>by simp[Instr.sliceBounds]) w⟩
     .exact⟨_,_,u,nh _,λw _=>z _ _ o p j (λw=>by simp[Instr.sliceBounds,I,oZ _ _ _ _ (by omega:0<=h) j]) w⟩
     .exact⟨_,_,u,nh _,λw _=>z _ _ o p j (λw=>by simp[Instr.sliceBounds,H,oZ _ _ _ _ o p]) w⟩
     .exact⟨_,_,u,nh _,λw _=>z _ _ o p j (λw=>by
       have v:l<=(h.toNat:Int):=V;simp[Instr.sliceBounds,I,H,oZ _ _ _ _ (by omega:0<=h) j,oZ _ _ _ _ o v]) w⟩
    .rw[D]at i;exact i.elim
   .exact i.elim
  .exact i.elim
 .exact i.elim
def JY(w:tG P T)(q:jM n b a)(p:List (Nat×Nat))(lX:Nat->Option (Nat×Nat))
 (r:∀i d t f,GZ p i=some (d,t)->fx T t=some f->f.tQ=false->lX i=some (d,f.sh.length)):
 ∀(s:List (Nat×Operand))(c:List Ce)(k:List Ce->Prop),Et T b p c s k->
  ∃l,k l/\Instr.fill lX (c.map Ce.v).toArray (s.map λe=>(e.1,a.eval e.2))=some (l.map Ce.v).toArray
 |[],c,k,h=>⟨c,h,rfl⟩
 |(i,x)::H,c,k,h=>by
  simp only[Et]at h;split at h
  .rename_i d t e E D;split at h
   .rename_i f F;cases g:(!f.tQ&&Nat.beq e.length f.sh.length&&Nat.ble (d+e.length) c.length)
    .rw[g]at h;exact h.elim
    .rw[g]at h;simp only[bI,gC]at g;obtain⟨⟨y,m⟩,o⟩:=g;have m:=bq m;have o:=kZ o;obtain⟨l,A,C⟩:=JY w q p lX r H (lI c d e) k h;refine⟨l,A,?_⟩;obtain⟨B,z⟩:=oP D;have G:a.eval x=(ev b x).v:=q.eq rfl B;simp only[cA,Instr.fill,r i d t f E F y,G,z,CJ,dO,m];rw[ae bN,<-C];congr 1;apply Ay;intro j;have u:=MO (e.map Ce.v) 0 d (c.map Ce.v).toArray j;rw[<-aai,Zs];have v:=AP c d e j o;rw[show((List.map Ce.v (lI c d e)).toArray)[j]? =((lI c d e)[j]?).map Ce.v by simp,v];rw[u];simp;split<;>split<;>first|rfl|(exfalso;omega)|(congr 1;omega)
   .exact h.elim
  .exact h.elim
def YB(T:TT)(t:Nat):Nat:=match fx T t with|some a=>a.sh.length|none=>0
def Ip(c:tG P T)(w:World):∀(a:List Field),(∀f∈a,∃b,fx T f.type=some b/\b.tQ=false)->
 (a.mapM (λf=>do pure (f.offset,<-sizeOf f.type):Field->Sem (Nat×Nat))).run P w=.ok (a.map λf=>(f.offset,YB T f.type)) w
 |[],_=>aH
 |f::a,h=>by
  obtain⟨b,d,j⟩:=h f aH;have e:=Ip c w a (λg i=>h g (by simp[i]));simp only[Up,Sem.run_bind,jQ c d j,Result.andThen_ok,Sem.run_pure]at e⊢;rw[e];simp[YB,d]
def Ir:∀{d:List (Nat×Nat)},ur T d=true->∀p∈d,∃a,fx T p.2=some a/\a.tQ=false
 |[],_,_,h=>by simp at h
 |(o,t)::r,h,p,c=>by
  simp only[ur,bI]at h;rcases List.mem_cons.1 c with rfl|c
  .have b:=h.1;split at b
   .rename_i a e;exact⟨a,e,by simpa using b⟩
   .simp at b
  .exact Ir h.2 p c
def O9(l:tG P T)(z:jM n b a){o:Array (Nat×Operand)}(i:rd T b m k (.build t o)):nZ P T b m a ⟨d,.build t o,g,f,c,e⟩ k:=by
 simp only[rd]at i;split at i
 .rename_i y K M v;cases q:ur T y
  .rw[q]at i;exact i.elim
  rw[q]at i;obtain⟨⟨j,D,s⟩,_⟩:=mC (l.xk v);obtain⟨L,I,J,Q⟩:=vd l v rfl;have A:∀h∈j.toList,∃r,fx T h.type=some r/\r.tQ=false:=λh B=>
   Ir q (h.offset,h.type) (by rw[<-s];exact List.mem_map.2 ⟨h,B,rfl⟩)
  have G:∀w:World,(j.mapM (λh=>do pure (h.offset,<-sizeOf h.type):Field->Sem (Nat×Nat))).run P w=.ok (j.toList.map λh=>(h.offset,YB T h.type)).toArray w:=by
   intro w;rw[Uz,Sem.run_map,Ip l w j.toList A];rfl
  obtain⟨R,E,F⟩:=JY l z y (λx=>((j.toList.map λh=>(h.offset,YB T h.type)).toArray)[x]?) (λx S t r u H O=>by
   rw[oX,<-s,bR]at u;obtain⟨N,C,p⟩:=Option.map_eq_some_iff.1 u;simp only[Nq]at p;obtain⟨rfl,rfl⟩:=p;simp only[kY,bR,C,lF,YB,H]) _ _ _ i
  refine⟨_,_,E,nh _,λw _=>?_⟩;have u:L.cells=((K.map Sh.zero).map Ce.v).toArray:=by
   apply Array.toList_inj.1;simp[I]
  have C:(o.map λp=>(p.1,a.eval p.2)).toList=o.toList.map λp=>(p.1,a.eval p.2):=aH;simp only[execOp,Instr.build,Sem.run_bind,J,Result.andThen_ok,run_underlying D,G,u,C,F];simp[SV.v]
 .exact i.elim
def AK(d:jM n b a):∀{c:List Operand},c.all (λx=>(ev b x).js)=true->c.map a.eval=c.map λx=>(ev b x).v
 |[],_=>rfl
 |x::c,h=>by
  simp only[No,bI]at h;simp only[cA,d.eq rfl h.1,AK d h.2]
def LQ(v:tG P T)(l:jM n b a){s:Builtin}{i:Array Operand}{r:Array TypeId}(h:rd T b m k (.call ⟨.builtin s,i,r⟩)):
 nZ P T b m a ⟨d,.call ⟨.builtin s,i,r⟩,g,f,c,e⟩ k:=by
 simp only[rd]at h
 unfold SY at h
 split at h
 .rename_i t x z p
  split at h
  .rename_i D E C q y o
   refine⟨_,_,h,nh _,λw _=>?_⟩
   have A:=(jO (v.xk y)).1
   have u:r=#[t]:=Array.toList_inj.1 (by simpa using z)
   have j:i=#[x]:=Array.toList_inj.1 (by simpa using p)
   subst u;subst j
   have B:a.eval x=q.v:=l.eq o rfl
   cases q<;>simp[execOp,resolve,invoke,builtin,Builtin.len_,run_underlying A,B,O.v,goInt,SV.v,Ce.v,O.len]
  .exact h.elim
 .rename_i x y p
  split at h
  .rename_i u z o q
   refine⟨_,_,h,nh _,λw _=>?_⟩
   have j:i=#[x,y]:=Array.toList_inj.1 (by simpa using p)
   subst j
   simp[execOp,resolve,invoke,builtin,Builtin.max_,Builtin.max2,l.eq o rfl,l.eq q rfl,SV.v,Ce.v]
  .exact h.elim
 .rename_i x y p
  split at h
  .rename_i u z o q
   refine⟨_,_,h,nh _,λw _=>?_⟩
   have j:i=#[x,y]:=Array.toList_inj.1 (by simpa using p)
   subst j
   simp[execOp,resolve,invoke,builtin,Builtin.min_,Builtin.min2,l.eq o rfl,l.eq q rfl,SV.v,Ce.v]
  .exact h.elim
 .exact h.elim
def KG(j:tG P T)(i:jM n b a)(s:Bx n b m)(o:Oper)(h:rd T b m k o.op):nZ P T b m a o k:=by
 obtain⟨d,l,g,f,c,e⟩:=o;cases l with
 |move x=>exact Tx i h
 |assign x=>exact RT i h
 |pick p x y=>exact Qp i h
 |nilCheck x=>exact Kg i h
 |binOp l t x y q=>exact O8 j i h
 |unOp l t x=>exact Qq i h
 |convert q t x=>exact LR j i h
 |fieldAddr t x q=>exact IK j i h
 |field t x q=>exact Pa j i h
 |indexAddr t x y=>exact IL j i h
 |load t x=>exact Qo j i s h
 |extract x r=>exact LU i h
 |slice t x v u r=>cases r with
  |none=>exact Pb j i h
  |some y=>exact h.elim
 |build t r=>exact O9 j i h
 |call p=>
  obtain⟨r,u,w⟩:=p;cases r with
  |builtin v=>exact LQ j i h
  |value q=>exact h.elim
  |invoke v q=>exact h.elim
 |_=>exact h.elim
end
end Go.Vc
end
section
namespace Go.Vc
variable{m m':E}{b o e n q:Nat}{l:List Ce}
def ai(m:E)(b o:Nat):List Ce->E
 |[]=>m
 |c::r=>ai (qJ m b o c.v) b (o+1) r
def fg(m:E)(b o n:Nat):Prop:=∀j,j<n->(af m b (o+j)).isSome=true/\uR m b (o+j)=false
def gP(m:E)(b o:Nat)(l:List Ce):Prop:=∀(i:Nat)(c:Ce),l[i]? =some c->af m b (o+i)=some c.v
def me(a:List Ce)(n:Nat):List Ce:=(List.replicate n a).flatten
def bD(l:List Ce):Array Value:=(l.map Ce.v).toArray
def QG(m:E)(b o:Nat)(v:Value):(qJ m b o v).size=m.size:=by simp[qJ]
def KO(m:E)(b o:Nat)(v:Value){j:Nat}(h:j≠b):(qJ m b o v)[j]? =m[j]? :=by
 simp only[qJ,kX];rw[ae (λe=>h e.symm)]
def aA:∀(l:List Ce)(m:E)(b o:Nat),(ai m b o l).size=m.size
 |[],_,_,_=>rfl
 |c::r,m,b,o=>by simp only[ai];rw[aA r,QG]
def bd:∀(l:List Ce)(m:E)(b o:Nat){j:Nat},j≠b->(ai m b o l)[j]? =m[j]?
 |[],_,_,_,_,_=>rfl
 |c::r,m,b,o,j,h=>by simp only[ai];rw[bd r _ _ _ h,KO m b o _ h]
def lH{v:Value}(h:af m b o=some v):b<m.size:=by
 rcases aU b m.size with a|a
 .exact a
 .simp[af,Ia a]at h
def aK(h:m'[b]? =m[b]?)(o:Nat):af m' b o=af m b o:=by simp only[af,h]
def cz(m:E)(b:Nat)(e:Nat)(l:List Ce):Prop:=m[b]? =some (.cells (bD l) e)
def Ui(l:List Ce)(i:Nat):(bD l)[i]? =(l[i]?).map Ce.v:=by simp[bD]
def cz.cJ(h:cz m b e l)(o:Nat):af m b o=(l[o]?).map Ce.v:=by
 have a:m[b]? =some (.cells (bD l) e (0,0)):=h;simp only[af,a,Ui]
def cz.jC(h:cz m b e l):gP m b 0 l:=λi c a=>by rw[h.cJ,bE,a];rfl
def cz.lt(h:cz m b e l):b<m.size:=(Array.getElem?_eq_some_iff.1 h).1
def cz.uR{m:E}{b e:Nat}{l:List Ce}(h:cz m b e l)(o:Nat):uR m b o=false:=by
 have a:m[b]? =some (.cells (bD l) e (0,0)):=h;simp[Vc.uR,a]
def cz.fg(h:cz m b e l)(c:o+n<=l.length):fg m b o n:=λj a=>by
 refine⟨?_,h.uR _⟩;rw[h.cJ];simp;omega
def cz.push(m:E)(l:List Ce)(e:Nat):cz (m.push (.cells (bD l) e)) m.size e l:=by simp[cz]
def cz.congr(a:cz m b e l)(h:m'[b]? =m[b]?):cz m' b e l:=by
 unfold cz at*;rw[h];exact a
def cz.qJ{m:E}{b e:Nat}{l:List Ce}(h:cz m b e l)(o:Nat)(c:Ce):cz (qJ m b o c.v) b e (l.set o c):=by
 have d:m[b]? =some (.cells (bD l) e (0,0)):=h;have f:=h.lt;simp only[cz,Vc.qJ,kX,LG,d,lF];congr 2;apply Ay;intro i;simp only[bD,Array.getElem?_setIfInBounds,kY,bR,ik,CJ,dO];by_cases e:o=i
 .subst e;by_cases a:o<l.length
  .simp[a]
  .simp[a]
 .simp[e]
def iO(l:List Ce)(o:Nat):List Ce->List Ce
 |[]=>l
 |c::r=>iO (l.set o c) (o+1) r
def lp:∀(r l:List Ce)(o:Nat),(iO l o r).length=l.length
 |[],_,_=>rfl
 |c::r,l,o=>by simp only[iO];rw[lp r];simp
def kV:∀(r l:List Ce)(o i:Nat),(iO l o r)[i]? =if o<=i/\i<o+r.length/\i<l.length then r[i -o]? else l[i]?
 |[],l,o,i=>by simp[iO];intro h;omega
 |c::r,l,o,i=>by
  simp only[iO];rw[kV r,ik];simp only[iH,aW];by_cases b:o=i
  .subst b;by_cases a:o<l.length
   .simp[a];try omega
   .simp[a];try omega
  .by_cases a:o<=i/\i<o+(r.length+1)/\i<l.length
   .rw[ak a,ak V,show i -o=(i -(o+1))+1 by omega,gH]
   .rw[ae a,ae V];simp[b]
def cz.ai{m:E}{b e:Nat}:∀{r l:List Ce}{m:E}{o:Nat},cz m b e l->cz (ai m b o r) b e (iO l o r)
 |[],_,_,_,h=>h
 |c::r,l,m,o,h=>by
  simp only[Vc.ai,iO];exact cz.ai (m:=m) (h.qJ o c)
def uq(t:Nat):List Nat->Bool
 |[]=>false
 |u::r=>Nat.beq u t||uq t r
def GX{t:Nat}:∀{M:List Nat},uq t M=true->t∈M
 |[],h=>by simp[uq]at h
 |u::r,h=>by
  simp only[uq,cB]at h;rcases h with h|h
  .rw[bq h];exact aX
  .exact ah _ (GX h)
def LF(n:Nat):Fr->List Nat->List Nat
 |[],_=>[]
 |(q,x)::r,a=>bif Nat.ble n q&&!uq q a then
  match x with
  | .box b _ _=>b::LF n r (q::a)
  | .yB b _ _=>b::LF n r (q::a)
  |_=>LF n r (q::a)
  else LF n r a
def eG(l:List Nat)(m m':E):Prop:=∀b∈l,m'[b]? =m[b]?
def yY(l:List Nat)(m m':E)(k:Prop):Prop:=
 match l with
 |[]=>k
 |_=>eG l m m'/\k
def lP{l:List Nat}{k:Prop}(h:yY l m m' k):eG l m m'/\k:=by
 unfold yY at h;split at h
 .exact⟨(λb a=>by cases a),h⟩
 .exact h
def Gh{n:Nat}{q b e:Nat}{l:List Ce}(c:n<=q):∀{j:Fr}{a:List Nat},q∉a->lj j q b e l->b∈LF n j a
 |[],a,_,h=>by rcases h with h|h<;>simp[gL]at h
 |(u,x)::r,a,g,h=>by
  simp only[LF];cases f:Nat.beq u q
  .have k:u≠q:=λe=>by subst e;simp at f
   have d:lj r q b e l:=by
    unfold lj at h⊢;simpa only[gL,f,lV]using h
   have i:q∉u::a:=by
    simp only[aV,uH];exact⟨λe=>k e.symm,g⟩
   cases(Nat.ble n u&&!uq u a)
   .exact Gh c g d
   .simp only[jq];split
    .exact ah _ (Gh c i d)
    .exact ah _ (Gh c i d)
    .exact Gh c i d
  .have:=bq f;subst this;have i:uq u a=false:=by
    cases k:uq u a
    .rfl
    .exact absurd (GX k) g
   have d:Nat.ble n u=true:=Xz c;simp only[i,d,LC,Bool.and_self,jq];unfold lj at h;simp only[gL,f,jq]at h;rcases h with h|h<;>rw[h]<;>exact aX
def Bx.iP{c:Fr}(h:Bx n c m){x:SV}(i:∀b e l,x≠.box b e l/\x≠.yB b e l):Bx n ((q,x)::c) m:=by
 have d:∀{u b e l},lj ((q,x)::c) u b e l->lj c u b e l:=by
  intro u b e l a;unfold lj at a⊢;simp only[gL]at a;cases g:Nat.beq q u
  .rw[g]at a;exact a
  .rw[g]at a;rcases a with a|a
   .exact absurd a (i b e l).1
   .exact absurd a (i b e l).2
 exact⟨λq b e l f=>h.az q b e l (d f),λq t b e l j k s r o p=>h.NI q t b e l j k s r (d o) (d p),λq b e l f=>h.key q b e l (d f)⟩
def SV.Yv(x:SV)(b e:Nat)(l:List Ce):x.nb≠.box b e l/\x.nb≠.yB b e l:=by
 cases x<;>exact⟨by simp[SV.nb],by simp[SV.nb]⟩
def Bx.put{a:Fr}(h:Bx n a m)(d:Option Nat)(x:SV):Bx n (tp a d x) m:=by
 cases d with
 |none=>exact h
 |some d=>exact h.iP (SV.Yv x)
def Bx.da{a:Fr}(h:Bx n a m)(d:eG (LF n a []) m m'):Bx n a m':=
 ⟨λq b e l c=>by rw[d b (Gh (h.key q b e l c) aH c)];exact h.az q b e l c,h.NI,h.key⟩
def Bx.push{a:Fr}(h:Bx n a m)(o:Obj):Bx n a (m.push o):=
 ⟨λq b e l d=>by
  have c:=h.az q b e l d;have f:=(Array.getElem?_eq_some_iff.1 c).1;rw[xr,ae V];exact c,h.NI,h.key⟩
def Bx.new{d:Fr}(h:Bx n d m)(x:n<=q)(t:Nat)(l:List Ce):Bx n ((q,.box m.size t l)::d) (m.push (.cells (bD l) t)):=by
 have w:=h.push (.cells (bD l) t);have p:∀{u b e l},lj d u b e l->b<m.size:=λa=>(Array.getElem?_eq_some_iff.1 (h.az _ _ _ _ a)).1;have g:∀{u b e c},lj ((q,.box m.size t l)::d) u b e c->(u=q/\b=m.size/\e=t/\c=l)\/(u≠q/\lj d u b e c):=by
  intro u b e c a;unfold lj at a⊢;simp only[gL]at a;cases f:Nat.beq q u
  .rw[f]at a;exact Or.inr ⟨λe=>by subst e;simp at f,a⟩
  .rw[f]at a;have:=bq f;subst this;rcases a with a|a
   .simp at a;exact Or.inl ⟨rfl,a.1.symm,a.2.1.symm,a.2.2.symm⟩
   .simp at a
 refine⟨λu b e c a=>?_,λu B b e z r s A o v k=>?_,λu b e c a=>?_⟩
 .rcases g a with⟨rfl,rfl,rfl,rfl⟩|⟨_,a⟩
  .simp[bD]
  .exact w.az u b e c a
 .rcases g v with⟨rfl,rfl,rfl,rfl⟩|⟨f,j⟩
  .rcases g k with⟨rfl,rfl,rfl,rfl⟩|⟨y,i⟩
   .exact absurd rfl o
   .have:=p i;omega
  .rcases g k with⟨rfl,rfl,rfl,rfl⟩|⟨y,i⟩
   .have:=p j;omega
   .exact h.NI u B b e z r s A o j i
 .rcases g a with⟨rfl,rfl,rfl,rfl⟩|⟨_,a⟩
  .exact x
  .exact h.key u b e c a
def Bx.vI{j:Fr}(h:Bx n j m){f:List Ce}(E:gL j q=.box b e f)(o:Nat)(l:List Ce):Bx n ((q,.box b e (iO f o l))::j) (ai m b o l):=by
 have k:lj j q b e f:=Or.inl E;have D:cz m b e f:=h.az q b e f k;have p:∀{u c d g},lj ((q,.box b e (iO f o l))::j) u c d g->(u=q/\c=b/\d=e/\g=iO f o l)\/(u≠q/\lj j u c d g):=by
  intro u c d g a;unfold lj at a⊢;simp only[gL]at a;cases i:Nat.beq q u
  .rw[i]at a;exact Or.inr ⟨λe=>by subst e;simp at i,a⟩
  .rw[i]at a;have:=bq i;subst this;rcases a with a|a
   .simp at a;exact Or.inl ⟨rfl,a.1.symm,a.2.1.symm,a.2.2.symm⟩
   .simp at a
 refine⟨λu c d g a=>?_,λu s b1 t A b2 v B y C x=>?_,λu c d g a=>?_⟩
 .rcases p a with⟨rfl,rfl,rfl,rfl⟩|⟨i,a⟩
  .exact cz.ai (m:=m) D
  .rw[bd l m b o (h.NI u q c d g b e f i a k)];exact h.az u c d g a
 .rcases p C with⟨rfl,rfl,rfl,rfl⟩|⟨i,w⟩
  .rcases p x with⟨rfl,rfl,rfl,rfl⟩|⟨z,r⟩
   .exact absurd rfl y
   .exactλe=>h.NI s u b2 v B _ _ _ z r k e.symm
  .rcases p x with⟨rfl,rfl,rfl,rfl⟩|⟨z,r⟩
   .exact h.NI u s b1 t A _ _ _ i w k
   .exact h.NI u s b1 t A b2 v B y w r
 .rcases p a with⟨rfl,rfl,rfl,rfl⟩|⟨_,a⟩
  .exact h.key u c d f k
  .exact h.key u c d g a
def Ey(a:Fr):List Ce->Option Fr
 |[]=>some a
 | .bp q _ _::r=>match gL a q with
  | .yB _ _ _=>none
  |_=>Ey ((q,.iP)::a) r
 |_::r=>Ey a r
def AV.US:AV->List Ce
 | .c x=>[x]
 | .agg l=>l
def SV.US:SV->List Ce
 | .c x=>[x]
 | .agg l=>l
 | .Xg l=>l.flatMap AV.US
 |_=>[]
def Tv(a:Fr)(l:List SV):Option Fr:=Ey a (l.flatMap SV.US)
def pO{n:Nat}{f:Act}{m:E}:∀{l:List Ce}{a c:Fr},Ey a l=some c->jM n a f->Bx n a m->jM n c f/\Bx n c m
 |[],a,c,h,e,d=>by simp[Ey]at h;subst h;exact⟨e,d⟩
 |g::r,a,c,h,e,d=>by
  cases g with
  |bp q b o=>
   simp only[Ey]at h;split at h
   .simp at h
   .exact pO h (e.iP q) (d.iP aH)
  |_=>exact pO (l:=r) (by simpa[Ey]using h) e d
end Go.Vc
end
section
namespace Go.Vc
variable{P:Program}{T:TT}
def NW(m:E)(k:E->Prop):Prop:=k m
def jb(m:E)(f:Nat)(b:List Ce)(e:Nat)(s x:O)(k:O->E->Prop):Prop:=
 ∃a:List Ce,a.length=x.len*b.length/\gP m x.az x.off a/\
  (s.len+x.len<=s.cap->fg m s.az (s.off+s.len*b.length) a.length/\
   k (match s with| .nil=>.nil| .mk d o l c=>.mk d o (l+x.len) c| .CT d o g=>.CT d o g) (ai m s.az (s.off+s.len*b.length) a))/\
  (s.cap<s.len+x.len->(s.len+x.len)*e<=140737488355328/\∃old:List Ce,old.length=s.len*b.length/\gP m s.az s.off old/\
   ∀c,s.len+x.len<=c->k (.mk m.size 0 (s.len+x.len) c) (m.push (.cells (bD (old++a++me b (c -(s.len+x.len)))) f)))
def WM(m:E)(c:Nat)(s x:O)(k:SV->E->Prop):Prop:=
 ∃a:List Ce,a.length=Nat.min x.len s.len*c/\gP m x.az x.off a/\fg m s.az s.off a.length/\
  NW (ai m s.az s.off a) λb=>k (.c (.i (Nat.min x.len s.len:Nat))) b
def Uy:List Sh->(List Ce->Prop)->Prop
 |[],k=>k []
 |s::r,k=>∃x:s.ty,Uy r λl=>k (s.mk x::l)
def RQ(T:TT):List Nat->(List AV->Prop)->Prop
 |[],k=>k []
 |t::r,k=>match fx T t with
  |some ⟨.struct _,b,_⟩=>Uy b λl=>RQ T r λa=>k (.agg l::a)
  |some ⟨.cell,[s],_⟩=>∃x:s.ty,RQ T r λa=>k (.c (s.mk x)::a)
  |some ⟨.slice _,[_],_⟩=>∃x:O,RQ T r λa=>k (.c (.s x)::a)
  |_=>False
def Pt(T:TT)(t:Nat)(v:Value)(k:SV->Prop):Prop:=
 match fx T t with
 |some ⟨.tuple [],_,_⟩=>k .iP
 |some ⟨.tuple a,_,_⟩=>RQ T a λl=>v=.tuple (l.map AV.v).toArray/\k (.Xg l)
 |some ⟨.struct _,a,_⟩=>Uy a λl=>v=.agg (l.map Ce.v).toArray/\k (.agg l)
 |some ⟨.cell,[s],_⟩=>∃x:s.ty,v=(s.mk x).v/\k (.c (s.mk x))
 |some ⟨.slice _,[_],_⟩=>∃x:O,v=x.v/\k (.c (.s x))
 |_=>False
def Tb(P:Program)(T:TT)(G:List Nat)(n:Nat)(a:Fr)(m:E)(e:Nat)(h:Operand)(b:List Operand)(k:Fr->SV->E->Prop):Prop:=
 match Tv a (b.map (ev a))with
 |none=>False
 |some d=>match ev a h with
  | .c (.fn (.func g) first f)=>bif G.elem g&&b.all (λx=>(ev a x).js)then
   aN P g (first.toList++(b.map λx=>(ev a x).v)++f.toList) m λv c=>yY (LF n d []) m c (Pt T e v λx=>k d x c)
   else False
  | .c (.fv q)=>bif b.all (λx=>(ev a x).js)then
   ∃g,q.1=.func g/\G.elem g=true/\aN P g (q.2.1.toList++(b.map λx=>(ev a x).v)++q.2.2.toList) m λv c=>yY (LF n d []) m c (Pt T e v λx=>k d x c)
   else False
  |_=>False
def TO(m:E)(b:Nat)(l:List (Int×Int)):Prop:=
 ∃a c,m[b]? =some (.map a c)/\a.toList.map (λe=>(e.key,e.val))=l.map λp=>(Value.int .i64 p.1,Value.int .i64 p.2)
def NX(l:List (Int×Int))(k:Int):Int:=
 match l with
 |[]=>0
 |(j,v)::r=>if k=j then v else NX r k
def Qx(l:List (Int×Int))(k v:Int):List (Int×Int):=
 match l with
 |[]=>[(k,v)]
 |(j,u)::r=>if k=j then(j,v)::r else(j,u)::Qx r k v
def vY(T:TT)(d:Fr)(b:Nat):List Ce->List (Nat×Operand)->(List Ce->Prop)->Prop
 |a,[],k=>k a
 |a,(i,x)::r,k=>
  match(ev d x).cells with
  |some c=>bif Nat.beq c.length b&&Nat.ble (i*b+c.length) a.length then vY T d b (lI a (i*b) c) r k else False
  |none=>False
def RY(n:Nat)(b:Fr)(d:Option Nat)(m:E)(t:Nat)(l:List Ce)(k:Fr->SV->E->Prop):Prop:=
 match d with
 |some a=>match gL b (n+a)with
  | .yB _ _ _=>False
  |_=>NW (m.push (.cells (bD l) t)) λc=>k ((n+a,.box m.size t l)::b) (.c (.bp (n+a) m.size 0)) c
 |none=>NW (m.push (.cells (bD l) t)) λc=>k b (.c (.p m.size 0)) c
def Oi(n:Nat)(c:Fr)(m:E)(x:SV)(l:List Ce)(k:Fr->SV->E->Prop):Prop:=
 match x with
 | .c (.p b o)=>fg m b o l.length/\NW (ai m b o l) λa=>yY (LF n c []) m a (k c .un a)
 | .c (.bp q b o)=>match gL c q with
  | .box d f e=>bif Nat.ble (o+l.length) e.length then NN d b (NW (ai m b o l) λa=>k ((q,.box d f (iO e o l))::c) .un a)else False
  | .yB _ _ _=>False
  |_=>fg m b o l.length/\NW (ai m b o l) λa=>yY (LF n c []) m a (k c .un a)
 |_=>False
def wr(P:Program)(T:TT)(G:List Nat)(n:Nat)(a:Fr)(m:E)(h:Option Nat)(o:Nat)(k:Fr->SV->E->Prop):Op->Prop
 | .alloc t=>match fx T t with
  |some f=>bif f.tQ then False else RY n a h m t (f.sh.map Sh.zero) k
  |none=>False
 | .box t x=>match(ev a x).cells with
  |some l=>match Ey a l with
   |some d=>RY n d h m t l k
   |none=>False
  |none=>False
 | .buildSlice t g i=>match fx T t with
  |some ⟨.slice e,_,_⟩=>match fx T e with
   |some c=>bif c.tQ||!(Nat.ble (g*c.sh.length) 16777216)then False else
    vY T a c.sh.length (me (c.sh.map Sh.zero) g) i.toList λl=>match Ey a l with
     |some d=>NW (m.push (.cells (bD l) e)) λb=>k d (.c (.s (.mk m.size 0 g g))) b
     |none=>False
   |none=>False
  |_=>False
 | .store t x y=>match(ev a y).cells,fx T t with
  |some l,some f=>bif f.tQ||!(Nat.beq l.length f.sh.length)then False else match Ey a l with
   |some d=>Oi n d m (ev a x) l k
   |none=>False
  |_,_=>False
 | .makeSlice t x y=>match fx T t,ev a x,ev a y with
  |some ⟨.slice e,_,_⟩,.c (.i l),.c (.i f)=>match fx T e with
   |some c=>bif c.tQ then False else 0<=l/\l<=f/\(c.bytes:Int)*f<=281474976710656/\f<=9223372036854775807/\
    NW (m.push (.cells (bD (me (c.sh.map Sh.zero) f.toNat)) e)) λb=>k a (.c (.s (.mk m.size 0 l.toNat f.toNat))) b
   |none=>False
  |_,_,_=>False
 | .makeFunc g first f=>bif first.toList.all (λx=>(ev a x).js)&&f.toList.all (λx=>(ev a x).js)then
  match Tv a (first.toList.map (ev a)++f.toList.map (ev a))with
  |some d=>k d (.c (.fn g (first.toList.map λx=>(ev a x).v).toArray (f.toList.map λx=>(ev a x).v).toArray)) m
  |none=>False
  else False
 | .makeMap _ none=>NW (m.push (.map #[] 0)) λb=>k a (.c (.mp m.size)) b
 | .lookup t x y false=>match fx T t,ev a x,ev a y with
  |some ⟨.map f g,_,_⟩,.c (.mp d),.c (.i n)=>match fx T f,fx T g with
   |some ⟨.cell,[.I],_⟩,some ⟨.cell,[.I],_⟩=>∃l,TO m d l/\k a (.c (.i (NX l n))) m
   |_,_=>False
  |_,_,_=>False
 | .mapUpdate t x y z=>match fx T t,ev a x,ev a y,ev a z with
  |some ⟨.map f _,_,_⟩,.c (.mp d),.c (.i g),.c (.i v)=>match fx T f with
   |some ⟨.cell,[.I],_⟩=>∃l,TO m d l/\∀b,TO b d (Qx l g v)->b.size=m.size->(∀j,j≠d->b[j]? =m[j]?)->yY (LF n a []) m b (k a .un b)
   |_=>False
  |_,_,_,_=>False
 | .call ⟨.value f,d,_⟩=>Tb P T G n a m o f d.toList k
 | .call ⟨.builtin .append,d,f⟩=>match d.toList,f.toList with
  |[x,y],[t,u]=>match fx T t,fx T u,ev a x,ev a y with
   |some ⟨.slice e,_,_⟩,some ⟨.slice _,_,_⟩,.c (.s s),.c (.s z)=>match fx T e with
    |some c=>bif c.tQ||Nat.beq c.bytes 0 then False else jb m e (c.sh.map Sh.zero) c.bytes s z λr b=>yY (LF n a []) m b (k a (.c (.s r)) b)
    |none=>False
   |_,_,_,_=>False
  |_,_=>False
 | .call ⟨.builtin .copy,d,f⟩=>match d.toList,f.toList with
  |[x,y],t::_=>match fx T t,ev a x,ev a y with
   |some ⟨.slice e,_,_⟩,.c (.s s),.c (.s z)=>match fx T e with
    |some c=>bif c.tQ then False else WM m c.sh.length s z λx b=>yY (LF n a []) m b (k a x b)
    |none=>False
   |_,_,_=>False
  |_,_=>False
 |_=>False
def GD(P:Program)(g:Nat):Bool:=
 match P.funcs[g]? with
 |some a=>!(a.name== "runtime.NumGoroutine")&&a.body.isSome
 |none=>false
def UE(P:Program)(G:List Nat):Prop:=G.all (GD P)=true
def PR(a:List Ce):∀(n i:Nat),i<n*a.length->(me a n)[i]? =a[i%a.length]?
 |0,i,h=>by simp at h
 |n+1,i,h=>by
  have c:0<a.length:=by
   rcases iS a.length with e|e
   .rw[e]at h;simp at h
   .exact e
  have e:me a (n+1)=a++me a n:=by simp[me,qj]
  rw[e,List.getElem?_append];split
  .rename_i b;rw[Nat.mod_eq_of_lt b]
  .rename_i b;rw[PR a n (i -a.length) (by rw[fY,Nat.one_mul]at h;omega)];congr 1;rw[Nat.mod_eq_sub_mod (by omega:i>=a.length)]
def mF(a:List Ce)(n:Nat):(me a n).length=n*a.length:=by
 simp[me]
def H9(a:List Ce)(z:Array Value)(d:z.toList=a.map Ce.v)(n:Nat):
 (Array.range (n*a.length)).map (λi=>z[i%z.size]!)=bD (me a n):=by
 apply Ay
 intro i
 have j:z.size=a.length:=by rw[<-Zr,d];simp
 by_cases b:i<n*a.length
 .have f:=PR a n i b
  have h:0<a.length:=by
   rcases iS a.length with e|e
   .rw[e]at b;simp at b
   .exact e
  have g:i%a.length<a.length:=Nat.mod_lt _ h
  have c:(bD (me a n))[i]? =((me a n)[i]?).map Ce.v:=by simp[bD]
  rw[c,f,<-bR,<-d]
  simp[b,j,g]
 .have c:(bD (me a n))[i]? =none:=by simp[bD,mF];omega
  rw[c]
  simp[b]
end Go.Vc
end
section
namespace Go.Vc
variable{c:SV}{l:List Ce}{t:TypeId}
variable{d:Program}{T:TT}{G:List Nat}
def Ce.Vb(c:Ce):c.v.oneCell'=true:=by
 cases c with
 |s y=>cases y<;>rfl
 |_=>rfl
def kC:∀(l:List Ce)(w:World)(b o:Nat),(w.setCells b o (l.map Ce.v)).heap=ai w.heap b o l
 |[],_,_,_=>rfl
 |c::r,w,b,o=>by
  simp only[cA,World.setCells,ai];rw[kC r,N7]
def qB:∀(l:List Value)(w:World)(a o:Nat),oK w (w.setCells a o l)
 |[],w,_,_=>oK.aF w
 |c::r,w,a,o=>by
  simp only[World.setCells];exact oK.trans (b:=w.setCell ⟨a,o,none⟩ c) ⟨rfl,rfl,rfl⟩ (qB r _ a (o+1))
def De(l:List Ce)(b o:Nat)(w:World)(h:fg w.heap b o l.length):
 (storeCells ⟨b,o,none⟩ (l.map Ce.v)).run d w=.ok () (w.setCells b o (l.map Ce.v)):=by
 have:=run_storeCells_cells (P:=d) b o (l.map Ce.v) 0 w
  (λj a=>by have:=(h j (by simpa using a)).1;rw[yD];simpa using this)
  (λj a=>by have:=(h j (by simpa using a)).2;rw[Qk];simpa using this)
  (λv a=>by obtain⟨c,_,rfl⟩:=List.mem_map.1 a;exact c.Vb)
 simpa using this
def Pv(l:List Ce)(b o:Nat)(a:World)(h:gP a.heap b o l):(loadCells ⟨b,o,none⟩ l.length).run d a=.ok (bD l) a:=by
 have:=run_loadCells_list (P:=d) (w:=a) ⟨b,o,none⟩ (l.map Ce.v) (λj v c=>by
  rw[uO,yD];rw[bR]at c;obtain⟨e,f,rfl⟩:=Option.map_eq_some_iff.1 c;exact h j e f)
 simpa[bD]using this
section
variable{n:Nat}{b:Fr}{a:Act}{m:E}{k:Fr->SV->E->Prop}{e:Option Tmp}{f:TypeId}{i:String}{g:Array Edge}{h:Option (Nat×Bool)}
def Ej(d:Program)(n:Nat)(a:Act)(m:E)(o:Oper)(k:Fr->SV->E->Prop):Prop:=
 ∀(w:World),w.heap=m->∀(f:Act->World->Prop)(Q:Exit->Act->World->Prop),
  (∀e c v b,k e c b.heap->jM n e a->Bx n e b.heap->c.Is v->oK w b->f (a.put o.dst v) b)->o.wp d a w f Q
def ju{o:Oper}{e:Fr}{v:Value}{w b:World}(h:jM n e a)(g:Bx n e b.heap)(p:c.Is v)(m:oK w b)(i:k e c b.heap)(l:(execOp a.eval o).run d w=.ok (.value v) b)
 {f:Act->World->Prop}{Q:Exit->Act->World->Prop}(j:∀e c v b,k e c b.heap->jM n e a->Bx n e b.heap->c.Is v->oK w b->f (a.put o.dst v) b):o.wp d a w f Q:=by
 unfold Oper.wp
 rw[l]
 exact j e c v b i h g p m
def MU{i:Option Nat}{t:Nat}(g:jM n b a)(f:Bx n b m)(h:RY n b i m t l k):
 ∃d c,jM n d a/\Bx n d (m.push (.cells (bD l) t))/\c.Is (.pointer (some ⟨m.size,0,none⟩))/\k d c (m.push (.cells (bD l) t)):=by
 unfold RY at h
 split at h
 .split at h
  .exact h.elim
  .rename_i e _ j
   exact⟨(n+e,.box m.size t l)::b,.c (.bp (n+e) m.size 0),g.cons _ (λ_=>trivial),f.new (Nat.le_add_right _ _) t l,rfl,h⟩
 .exact⟨b,.c (.p m.size 0),g,f.push _,rfl,h⟩
def PF(s:jM n b a)(g:Bx n b m)(h:Oi n b m c l k):
 ∃p d o,jM n p a/\Bx n p (ai m d o l)/\(∀v,c.Is v->v=.pointer (some ⟨d,o,none⟩))/\fg m d o l.length/\k p .un (ai m d o l):=by
 unfold Oi at h
 split at h
 .obtain⟨q,r⟩:=lP h.2
  exact⟨_,_,_,s,g.da q,λv e=>e,h.1,r⟩
 .split at h
  .rename_i w d o _ i j f u
   cases t:Nat.ble (o+l.length) f.length
   .rw[t]at h;exact h.elim
   .rw[t]at h
    obtain⟨rfl,h⟩:=h
    have x:cz m i j f:=g.az w i j f (Or.inl u)
    exact⟨(w,.box i j (iO f o l))::b,_,_,s.cons _ (λ_=>trivial),g.vI u o l,λv e=>e,x.fg (kZ t),h⟩
  .exact h.elim
  .obtain⟨q,r⟩:=lP h.2
   exact⟨_,_,_,s,g.da q,λv e=>e,h.1,r⟩
 .exact h.elim
def Qa(y:tG d T)(s:jM n b a)(q:Bx n b m)(j:wr d T G n b m e f k (.alloc t)):Ej d n a m ⟨e,.alloc t,f,i,g,h⟩ k:=by
 intro l D L Q B
 subst D;simp only[wr]at j;split at j
 .rename_i p C;cases o:p.tQ
  .rw[o]at j;obtain⟨I,F,H,K⟩:=vd y C o;have z:I.cells=bD (p.sh.map Sh.zero):=by apply Array.toList_inj.1;simp[F,bD]
   obtain⟨J,c,u,r,E,A⟩:=MU s q j;refine ju (w:=l) (c:=c) (v:=.pointer (some ⟨l.heap.size,0,none⟩)) (b:={l with heap:=l.heap.push (.cells (bD (p.sh.map Sh.zero)) t)}) u r E ⟨rfl,rfl,rfl⟩ A ?_ B;simp[execOp,Instr.alloc,H,newVar,newRow,z]
  .rw[o]at j;exact j.elim
 .exact j.elim
def Tf(p:jM n b a)(q:Bx n b m){c:Operand}(j:wr d T G n b m e f k (.box t c)):Ej d n a m ⟨e,.box t c,f,i,g,h⟩ k:=by
 intro o F L Q E
 subst F;simp only[wr]at j;split at j
 .rename_i l D;split at j
  .rename_i K A;obtain⟨y,s⟩:=pO A p q;obtain⟨B,z⟩:=oP D;obtain⟨J,I,u,r,H,C⟩:=MU y s j;refine ju (w:=o) (c:=I) (v:=.pointer (some ⟨o.heap.size,0,none⟩)) (b:={o with heap:=o.heap.push (.cells (bD l) t)}) u r H ⟨rfl,rfl,rfl⟩ C ?_ E;simp[execOp,Instr.box,newVar,newRow,p.eq rfl B,z,bD]
  .exact j.elim
 .exact j.elim
def LN(q:jM n b a)(y:Bx n b m){o:Fn}{first l:Array Operand}(j:wr d T G n b m e f k (.makeFunc o first l)):Ej d n a m ⟨e,.makeFunc o first l,f,i,g,h⟩ k:=by
 intro r D F Q C
 subst D;simp only[wr]at j;cases p:(first.toList.all (λc=>(ev b c).js)&&l.toList.all (λc=>(ev b c).js))
 .rw[p]at j;exact j.elim
 .rw[p]at j;simp only[bI]at p;obtain⟨u,x⟩:=p;have s:(first.toList.map λc=>(ev b c).v).toArray=first.map a.eval:=by
   apply Array.toList_inj.1;simp[AK q u]
  have t:(l.toList.map λc=>(ev b c).v).toArray=l.map a.eval:=by
   apply Array.toList_inj.1;simp[AK q x]
  simp only[jq]at j;split at j
  .rename_i E B;obtain⟨A,z⟩:=pO B q y;refine ju (w:=r) (b:=r) A z (v:=.func o (first.map a.eval) (l.map a.eval)) ?_ (oK.aF r) j ?_ C
   .show Value.func o (first.map a.eval) (l.map a.eval)=Value.func o _ _;rw[s,t]
   .simp[execOp,Instr.makeFunc]
  .exact j.elim
def Ix(p:jM n b a)(e:Nat):
 ∀(q:List (Nat×Operand))(d:List Ce)(k:List Ce->Prop),vY T b e d q k->
  ∃l,k l/\Instr.fill (λi=>some (i*e,e)) (d.map Ce.v).toArray (q.map λf=>(f.1,a.eval f.2))=some (l.map Ce.v).toArray
 |[],d,k,h=>⟨d,h,rfl⟩
 |(i,c)::z,d,k,h=>by
  simp only[vY]at h;split at h
  .rename_i f x;cases g:(Nat.beq f.length e&&Nat.ble (i*e+f.length) d.length)
   .rw[g]at h;exact h.elim
   .rw[g]at h;simp only[bI]at g;obtain⟨m,o⟩:=g;have m:=bq m;have o:=kZ o;obtain⟨l,u,w⟩:=Ix p e z (lI d (i*e) f) k h;refine⟨l,u,?_⟩;obtain⟨v,t⟩:=oP x;have y:a.eval c=(ev b c).v:=p.eq rfl v;simp only[cA,Instr.fill,y,t,CJ,dO,m];rw[ae bN,<-w];congr 1;apply Ay;intro j;have r:=MO (f.map Ce.v) 0 (i*e) (d.map Ce.v).toArray j;rw[<-aai,Zs];have s:=AP d (i*e) f j o;rw[show((List.map Ce.v (lI d (i*e) f)).toArray)[j]? =((lI d (i*e) f)[j]?).map Ce.v by simp,s];rw[r];simp;split<;>split<;>first|rfl|(exfalso;omega)|(congr 1;omega)
  .exact h.elim
def IH(B:tG d T)(D:jM n b a)(N:Bx n b m){j:Nat}{z:Array (Nat×Operand)}(o:wr d T G n b m e f k (.buildSlice t j z)):Ej d n a m ⟨e,.buildSlice t j z,f,i,g,h⟩ k:=by
 intro q U ad Z Q
 subst U;simp only[wr]at o;split at o
 .rename_i L sh aa S;split at o
  .rename_i p H;cases r:(p.tQ||!(Nat.ble (j*p.sh.length) 16777216))
   .rw[r]at o;simp only[bU,aaj]at r;have ab:=kZ r.2;have I:=(jO (B.xk S)).1;obtain⟨K,W,X,ac⟩:=vd B H r.1;have F:=λq=>jQ B H r.1 q;obtain⟨l,y,s⟩:=Ix D _ _ _ _ o;cases C:Ey b l with
    |none=>rw[C]at y;exact y.elim
    |some u=>
    rw[C]at y;obtain⟨P,O⟩:=pO C D N;refine ju (w:=q) (c:=.c (.s (.mk q.heap.size 0 j j))) (v:=.slice (some ⟨q.heap.size,0,none⟩) j j) (b:={q with heap:=q.heap.push (.cells (bD l) L)}) P (O.push _) rfl ⟨rfl,rfl,rfl⟩ y ?_ Q;have E:(z.map λu=>(u.1,a.eval u.2)).toList=z.toList.map λu=>(u.1,a.eval u.2):=aH;have Y:K.cells.toList=(p.sh.map Sh.zero).map Ce.v:=by simp[W]
    have J:(p.sh.map Sh.zero).length=p.sh.length:=aH;have k8:=H9 (p.sh.map Sh.zero) K.cells Y j;rw[J]at k8;by_cases A:j*p.sh.length=0
    .have R:me (p.sh.map Sh.zero) j=[]:=by
      apply List.length_eq_zero_iff.1;rw[mF,J,A]
     rw[R]at s;simp only[execOp,Instr.buildSlice,Sem.run_bind,run_underlying I,Result.andThen_ok,F,A];simp only[E];have M:(Array.map (λc=>(default:Value)) (Array.range 0))=#[]:=aH;simp at s⊢;rw[M,s];simp[newRow,bD]
    .simp only[execOp,Instr.buildSlice,Sem.run_bind,run_underlying I,Result.andThen_ok,F,A,mH];have:¬(j*p.sh.length>2^24):=V;simp only[this,mH,X,Sem.run_bind,Sem.run_pure,Result.andThen_ok,E];rw[k8];simp only[bD]at s⊢;simp[s,newRow]
   .rw[r]at o;exact o.elim
  .exact o.elim
 .exact o.elim
def Qb(C:tG d T)(q:jM n b a)(v:Bx n b m){c y:Operand}(j:wr d T G n b m e f k (.store t c y)):Ej d n a m ⟨e,.store t c y,f,i,g,h⟩ k:=by
 intro w R Y W K
 subst R;simp only[wr]at j;split at j
 .rename_i l s I Q;cases o:(s.tQ||!(Nat.beq l.length s.sh.length))
  .rw[o]at j;simp only[lV]at j;simp only[bU,aaj]at o;split at j
   .rename_i X E;obtain⟨B,z⟩:=pO E q v;obtain⟨u,p,r,A,x,S,L,F⟩:=PF B z j;have J:=bq o.2;obtain⟨H,D⟩:=oP I;have O:=λw=>jQ C Q o.1 w;unfold Oper.wp;have M:(execOp a.eval ⟨e,.store t c y,f,i,g,h⟩).run d w=.ok .skip (w.setCells p r (l.map Ce.v)):=by
     have N:=De (d:=d) l p r w L;have U:a.eval c=.pointer (some ⟨p,r,none⟩):=S _ (q.ev c);have V:(a.eval y).cells=(l.map Ce.v).toArray:=by rw[q.eq rfl H,D]
     simp only[execOp,Instr.storeAt,U,Instr.sureAddr,storeVar,Sem.run_bind,Sem.run_pure,Result.andThen_ok,O,V,CJ,dO,J];simp[N]
    rw[M];exact K u .un undef _ (by rw[kC];exact F) A (by rw[kC];exact x) rfl (qB _ _ _ _)
   .exact j.elim
  .rw[o]at j;exact j.elim
 .exact j.elim
end
end Go.Vc
end
section
namespace Go.Vc
variable{b y f:Operand}{t:TypeId}{e:Array TypeId}
variable{c:Program}{T:TT}{G:List Nat}
section
variable{n:Nat}{g:Fr}{a:Act}{m:E}{k:Fr->SV->E->Prop}{i:Option Tmp}{h:TypeId}{o:String}{j:Array Edge}{l:Option (Nat×Bool)}
def Ow{b:Int}(e: -9223372036854775808<=b)(f:b<=9223372036854775807):IntKind.i64.wrap b=b:=by
 have a:((2:Int)^IntKind.i64.bits)=18446744073709551616:=bh;have c:((2:Int)^(IntKind.i64.bits -1))=9223372036854775808:=bh;have d:IntKind.i64.signed=true:=rfl;simp only[IntKind.wrap,a,c,d,Nn,an];split<;>omega
def aQ{b:Int}(a: -9223372036854775808<=b)(c:b<=9223372036854775807):cQ b=b:=Ow a c
def J6(s:tG c T)(u:jM n g a)(F:Bx n g m)(e:wr c T G n g m i h k (.makeSlice t b y)):Ej c n a m ⟨i,.makeSlice t b y,h,o,j,l⟩ k:=by
 intro q U ah ad J
 subst U;simp only[wr]at e;split at e
 .rename_i D sh ae p d Q Y hy;split at e
  .rename_i f z;cases r:f.tQ
   .rw[r]at e;obtain⟨h0,h1,h2,h3,I⟩:=e;have S:=(jO (s.xk Q)).1;obtain⟨C,hz,ab,ag⟩:=vd s z r;obtain⟨ti,H,af,R,_⟩:=Fc s z r;have P:=λq=>jQ s z r q;refine ju (w:=q) (c:=.c (.s (.mk q.heap.size 0 p.toNat d.toNat))) (v:=.slice (some ⟨q.heap.size,0,none⟩) p.toNat d.toNat) (b:={q with heap:=q.heap.push (.cells (bD (me (f.sh.map Sh.zero) d.toNat)) D)}) u (F.push _) rfl ⟨rfl,rfl,rfl⟩ I ?_ J;have ac:C.cells.toList=(f.sh.map Sh.zero).map Ce.v:=by simp[hz]
    have B:(f.sh.map Sh.zero).length=f.sh.length:=aH;have k8:=H9 (f.sh.map Sh.zero) C.cells ac d.toNat;rw[B]at k8;have Z:a.eval b=.int .i64 p:=u.eq Y rfl;have aa:a.eval y=.int .i64 d:=u.eq hy rfl;have X:IntKind.i64.wrap p=p:=Ow V V;have W:IntKind.i64.wrap d=d:=Ow V V;have K:¬d<0:=V;have L:¬((f.bytes:Int)*d>2^48):=by
     have:(2:Int)^48=281474976710656:=bh;omega
    have M:¬p<0:=V;have N:¬p>d:=V;simp only[execOp,Instr.makeSlice,Sem.run_bind,run_underlying S,Result.andThen_ok,asInt,asIntOf,Z,aa,Sem.run_pure,R,X,W,H];simp only[K,L,M,N,decide_false,VB,fq,mH];simp only[Sem.run_bind,Sem.run_pure,Result.andThen_ok,run_askRoom,P];by_cases A:d.toNat*f.sh.length=0
    .have O:me (f.sh.map Sh.zero) d.toNat=[]:=by
      apply List.length_eq_zero_iff.1;rw[mF,B,A]
     rw[O];have E:(Array.map (λb=>(default:Value)) (Array.range 0))=#[]:=aH;simp[A,newRow,bD];rw[E]
    .simp only[A,mH,Sem.run_bind,ab,Result.andThen_ok,Sem.run_pure];rw[k8];simp[newRow]
   .rw[r]at e;exact e.elim
  .exact e.elim
 .exact e.elim
def J9:∀{c:List Sh}{k:List Ce->Prop},Uy c k->∃l,k l
 |[],_,h=>⟨_,h⟩
 |_::_,_,⟨b,h⟩=>let⟨_,a⟩:=J9 h;⟨_,a⟩
def Ez:∀{e:List Nat}{k:List AV->Prop},RQ T e k->∃l,k l
 |[],_,h=>⟨_,h⟩
 |t::e,k,h=>by
  simp only[RQ]at h;split at h
  .obtain⟨l,c⟩:=J9 h;obtain⟨d,a⟩:=Ez c;exact⟨_,a⟩
  .obtain⟨b,c⟩:=h;obtain⟨d,a⟩:=Ez c;exact⟨_,a⟩
  .obtain⟨b,c⟩:=h;obtain⟨d,a⟩:=Ez c;exact⟨_,a⟩
  .exact h.elim
def Sd{t:Nat}{v:Value}{k:SV->Prop}(h:Pt T t v k):∃b:SV,b.Is v/\k b:=by
 unfold Pt at h;split at h
 .exact⟨.iP,trivial,h⟩
 .obtain⟨l,c,a⟩:=Ez h;exact⟨.Xg l,c,a⟩
 .obtain⟨l,c,a⟩:=J9 h;exact⟨.agg l,c,a⟩
 .rename_i s _ _;obtain⟨b,c,a⟩:=h;exact⟨.c (s.mk b),c,a⟩
 .obtain⟨b,c,a⟩:=h;exact⟨.c (.s b),c,a⟩
 .exact h.elim
def J5(z:UE c G)(A:jM n g a){q:Fr}(B:jM n q a)(y:Bx n q m){d:Array Operand}{p:Nat}{first s:Array Value}(E:a.eval f=.func (.func p) first s)
 (H:G.elem p=true)(J:d.toList.all (λb=>(ev g b).js)=true)
 (x:aN c p (first.toList++(d.toList.map λb=>(ev g b).v)++s.toList) m λv r=>yY (LF n q []) m r (Pt T h v λb=>k q b r)):
 Ej c n a m ⟨i,.call ⟨.value f,d,e⟩,h,o,j,l⟩ k:=by
 intro w O V R K
 subst O
 have r:GD c p=true:=List.all_eq_true.1 z p (by simpa using H)
 have C:d.map a.eval=(d.toList.map λb=>(ev g b).v).toArray:=by
  apply Array.toList_inj.1;simp[<-AK A J]
 unfold GD at r
 split at r
 .rename_i u F
  simp only[bI,gC]at r
  have D:u.body.isNone=false:=by cases U:u.body<;>simp_all
  have L:(execOp a.eval ⟨i,.call ⟨.value f,d,e⟩,h,o,j,l⟩).run c w=
   .ok (.enter p (first.toList++(d.toList.map λb=>(ev g b).v)++s.toList).toArray) w:=by
   simp only[execOp,resolve,E,C,Deferred.ofValue,Sem.run_bind,Sem.run_pure,Result.andThen_ok,invoke,callFunc,run_program,F,r.1,D,fq,mH]
   simp
  unfold Oper.wp
  rw[L]
  show Calls c p _ w _
  refine(x w rfl).mono ?_
  rintro S Q ⟨v,rfl,M,t⟩
  obtain⟨N,t⟩:=lP t
  obtain⟨b,P,I⟩:=Sd t
  exact K q b v Q I B (y.da N) P M
 .simp at r
def RO(v:UE c G)(q:jM n g a)(y:Bx n g m){r:Array Operand}(d:wr c T G n g m i h k (.call ⟨.value f,r,e⟩)):Ej c n a m ⟨i,.call ⟨.value f,r,e⟩,h,o,j,l⟩ k:=by
 simp only[wr,Tb]at d;split at d
 .exact d.elim
 rename_i D z;obtain⟨w,u⟩:=pO z q y;split at d
 .rename_i s first x t
  cases p:(G.elem s&&r.toList.all (λb=>(ev g b).js))
  .rw[p]at d;exact d.elim
  .rw[p]at d;simp only[bI]at p;exact J5 v q w u (q.eq t rfl) p.1 p.2 d
 .rename_i x t;cases p:(r.toList.all (λb=>(ev g b).js))
  .rw[p]at d;exact d.elim
  .rw[p]at d;obtain⟨s,A,B,d⟩:=d;have C:a.eval f=.func (.func s) x.2.1 x.2.2:=by
    rw[<-A];exact q.eq t rfl
   exact J5 v q w u C B p d
 .exact d.elim
def rO(a:c.underlying t=some (.int .i64))(e:Bool)(b:Int)(w:World):(Instr.checkKey e 10000 t (.int .i64 b)).run c w=.ok () w:=by
 have:Instr.checkKey e 10000 t (.int .i64 b)=Instr.checkKey e (9999+1) t (.int .i64 b):=rfl;rw[this];generalize 9999=d;simp[Instr.checkKey,run_underlying a]
def yH(b:Int):∀(a:List MapEntry)(l:List (Int×Int))(i:Nat),a.map (λe=>(e.key,e.val))=l.map (λp=>(Value.int .i64 p.1,Value.int .i64 p.2))->
 (Instr.findNow (.int .i64) (.int .i64 b) a i=some none/\NX l b=0/\(∀v,Qx l b v=l++[(b,v)]))\/
 ∃j u,Instr.findNow (.int .i64) (.int .i64 b) a i=some (some (i+j,.int .i64 u))/\NX l b=u/\j<a.length/\l[j]? =some (b,u)/\∀v,Qx l b v=l.set j (b,v)
 |[],[],i,_=>Or.inl ⟨rfl,rfl,λv=>rfl⟩
 |[],_::_,i,h=>by simp at h
 |_::_,[],i,h=>by simp at h
 |e::a,(j,u)::l,i,h=>by
  simp only[cA,List.cons.injEq,Nq]at h;obtain⟨⟨r,s⟩,h⟩:=h;have k:Instr.sameNow (.int .i64) (.int .i64 b) e.key=some (b==j):=by rw[r];simp[Instr.sameNow]
  by_cases c:b=j
  .subst c;refine Or.inr ⟨0,u,?_,?_,aH,aH,?_⟩
   .simp[Instr.findNow,k,s]
   .simp[NX]
   .intro v;simp[Qx]
  .have m:(b==j)=false:=by simpa using c
   rcases yH b a l (i+1) h with⟨d,f,g⟩|⟨q,t,d,f,g,o,p⟩
   .refine Or.inl ⟨?_,?_,?_⟩
    .simp[Instr.findNow,k,m,d]
    .simp[NX,c,f]
    .intro v;simp[Qx,c,g]
   .refine Or.inr ⟨q+1,t,?_,?_,by simpa using g,by simpa using o,?_⟩
    .have n:i+1+q=i+(q+1):=V;simp[Instr.findNow,k,m,d,n]
    .simp[NX,c,f]
    .intro v;simp[Qx,c,p]
def NJ(f:jM n g a)(e:Bx n g m){r:Option Operand}(d:wr c T G n g m i h k (.makeMap t r)):Ej c n a m ⟨i,.makeMap t r,h,o,j,l⟩ k:=by
 intro b q s Q p
 subst q;cases r with
 |some r=>exact d.elim
 |none=>
  refine ju (w:=b) (c:=.c (.mp b.heap.size)) (v:=.map (some b.heap.size)) (b:={b with heap:=b.heap.push (.map #[] 0)}) f (e.push _) rfl ⟨rfl,rfl,rfl⟩ d ?_ p;simp[execOp,Instr.makeMap]
def OY(s:tG c T)(r:jM n g a)(L:Bx n g m){z:Bool}(d:wr c T G n g m i h k (.lookup t b y z)):Ej c n a m ⟨i,.lookup t b y z,h,o,j,l⟩ k:=by
 intro e W ag ad S
 subst W;cases z with
 |true=>exact d.elim
 |false=>
  simp only[wr]at d;split at d
  .rename_i kt et sh ae B f V X Y;split at d
   .rename_i b1 b2 R P;obtain⟨u,⟨C,J,O,N⟩,Q⟩:=d;have F:=(AT (s.xk V)).1;obtain⟨⟨K,hd,E⟩,_⟩:=nt (s.xk R);have M:K=.int .i64:=by
     unfold yV at E;split at E<;>simp_all
    subst M;obtain⟨A,Z,ac,ab⟩:=vd s P rfl;have aa:A=.int .i64 0:=by
     have:A.cells.toList=[Value.int .i64 0]:=Z;have U:=ab rfl;cases A<;>first|(simp[Value.cells]at this;done)|(simp[Value.cells]at this;rw[this.1,this.2])|exact absurd rfl (U _)
    have H:a.eval b=.map (some B):=r.eq X rfl;have I:a.eval y=.int .i64 f:=r.eq Y rfl;have D:(getObj B).run c e=.ok (.map C J) e:=by simp[getObj,Sem.run,O]
    refine ju (w:=e) (c:=.c (.i (NX u f))) (v:=.int .i64 (NX u f)) (b:=e) r L rfl (oK.aF e) Q ?_ S;rcases yH f C.toList u 0 N with⟨p,q,_⟩|⟨af,ah,p,q,_⟩
    .simp[execOp,Instr.lookup,run_underlying F,H,I,D,rO hd,Instr.findKey,run_underlying hd,p,ac,aa,q]
    .simp[execOp,Instr.lookup,run_underlying F,H,I,D,rO hd,Instr.findKey,run_underlying hd,p,q]
   .exact d.elim
  .exact d.elim
def J7(L:tG c T)(s:jM n g a)(K:Bx n g m){z:Operand}(r:wr c T G n g m i h k (.mapUpdate t b y z)):Ej c n a m ⟨i,.mapUpdate t b y z,h,o,j,l⟩ k:=by
 intro w hw ai ag Q
 subst hw;simp only[wr]at r;split at r
 .rename_i kt et sh ah e d v ht hx hy hz;split at r
  .rename_i b1 ae;obtain⟨Y,⟨p,q,E,x⟩,P⟩:=r;have U:=(AT (L.xk ht)).1;obtain⟨⟨Z,hd,R⟩,_⟩:=nt (L.xk ae);have aa:Z=.int .i64:=by
    unfold yV at R;split at R<;>simp_all
   subst aa;have V:a.eval b=.map (some e):=s.eq hx rfl;have W:a.eval y=.int .i64 d:=s.eq hy rfl;have X:a.eval z=.int .i64 v:=s.eq hz rfl;have N:(getObj e).run c w=.ok (.map p q) w:=by simp[getObj,Sem.run,E]
   have S:∀I,(setObj e I).run c w=.ok () {w with heap:=w.heap.setIfInBounds e I}:=λI=>by simp[setObj,Sem.run,E]
   have M:e<w.heap.size:=(Array.getElem?_eq_some_iff.1 E).1;unfold Oper.wp;rcases yH d p.toList Y 0 x with⟨C,h2,D⟩|⟨f,aj,C,h2,D,J,h5⟩
   .have H:(execOp a.eval ⟨i,.mapUpdate t b y z,h,o,j,l⟩).run c w=.ok .skip {w with heap:=w.heap.setIfInBounds e (.map (p.push {key:=.int .i64 d,val:=.int .i64 v,born:=q}) (q+1))}:=by
     simp[execOp,Instr.mapUpdate,run_underlying U,V,W,X,N,rO hd,Instr.findKey,run_underlying hd,C,S]
    rw[H];have u:=lP (P {w with heap:=w.heap.setIfInBounds e (.map (p.push {key:=.int .i64 d,val:=.int .i64 v,born:=q}) (q+1))}.heap ?_ aH ?_)
    .exact Q g .un undef _ u.2 s (K.da u.1) rfl ⟨rfl,rfl,rfl⟩
    .refine⟨_,_,by simp[M];exact⟨rfl,rfl⟩,?_⟩;rw[D];simp[x]
    .intro f F;simp[jB (kG F)]
   .have ad:(p[f]?).map (·.key)=some (.int .i64 d):=by
     have:=th (λA=>(A[f]?).map (·.1)) x;simpa[J]using this
    have af:(Instr.keyThatStays (.int .i64 d) (.int .i64 d)).run c w=.ok (.int .i64 d) w:=by
     simp[Instr.keyThatStays,Instr.sameBits]
    have H:(execOp a.eval ⟨i,.mapUpdate t b y z,h,o,j,l⟩).run c w=.ok .skip {w with heap:=w.heap.setIfInBounds e (.map (p.modify f λB=>{B with key:=.int .i64 d,val:=.int .i64 v}) q)}:=by
     simp only[execOp,Instr.mapUpdate,run_underlying U,V,W,X,N,rO hd,Instr.findKey,run_underlying hd,C,Sem.run_bind,Result.andThen_ok,Sem.run_pure,bE,ad,pE,af,S]
    rw[H];have u:=lP (P {w with heap:=w.heap.setIfInBounds e (.map (p.modify f λB=>{B with key:=.int .i64 d,val:=.int .i64 v}) q)}.heap ?_ aH ?_)
    .exact Q g .un undef _ u.2 s (K.da u.1) rfl ⟨rfl,rfl,rfl⟩
    .refine⟨_,_,by simp[M];exact⟨rfl,rfl⟩,?_⟩;rw[h5];apply eL;intro A;have B:=th (λ(q':List (Value×Value))=>q'[A]?) x;simp only[bR]at B;simp only[bR,ik,Xx,kX]at B⊢;by_cases O:f=A
     .subst O;have ac:f<Y.length:=(List.getElem?_eq_some_iff.1 J).1;have ab:f<p.size:=by simpa using D
      simp[ac,ab]
     .simp only[O,mH];exact B
    .intro f F;simp[jB (kG F)]
  .exact r.elim
 .exact r.elim
def sK(l:List Ce)(z:O)(a f:Nat)(d:l.length=a*f)(w:World)(h:gP w.heap z.az z.off l)(e:a<=z.len):
 (Builtin.firstCells f a z.v).run c w=.ok (bD l) w:=by
 cases z with
 |nil=>
  have b:a=0:=by simp at e;omega
  have:l=[]:=List.length_eq_zero_iff.1 (by rw[d,b];simp)
  subst this
  simp[Builtin.firstCells,O.v,bD]
 |CT g i j=>
  have b:a=0:=by simp at e;omega
  have:l=[]:=List.length_eq_zero_iff.1 (by rw[d,b];simp)
  subst this
  simp[Builtin.firstCells,O.v,bD,b,loadCells,loadCellsFrom]
 |mk b o i g=>
  simp only[Builtin.firstCells,O.v,<-d]
  exact Pv l b o w h
def Ox(a:List Ce)(z:Array Value)(b:z.toList=a.map Ce.v)(n:Nat):Builtin.zeroCells z n=bD (me a n):=by
 have c:z.size=a.length:=by rw[<-Zr,b];simp
 rw[<-H9 a z b n,Builtin.zeroCells,c]
def PK(l r:List Ce):bD (l++r)=bD l++bD r:=by simp[bD]
def OX(H:tG c T)(C:jM n g a)(L:Bx n g m){Z:Array Operand}(q:wr c T G n g m i h k (.call ⟨.builtin .append,Z,e⟩)):Ej c n a m ⟨i,.call ⟨.builtin .append,Z,e⟩,h,o,j,l⟩ k:=by
 intro d hw aM aE N
 subst hw;simp only[wr]at q;split at q
 .rename_i b y t aD am az;split at q
  .rename_i B sh aF e2 aN aG s z ht aA hx hy;split at q
   .rename_i f ac;cases u:(f.tQ||Nat.beq f.bytes 0)
    .rw[u]at q;simp only[bU]at u;obtain⟨A,Q,ar,ah,ai⟩:=q;have e1:Z=#[b,y]:=Array.toList_inj.1 (by simpa using am);have al:e=#[t,aD]:=Array.toList_inj.1 (by simpa using az);subst e1;subst al;have U:=(jO (H.xk ht)).1;have W:=(jO (H.xk aA)).1;obtain⟨zv,hz,ak,aL⟩:=vd H ac u.1;obtain⟨ti,hb,aK,af,_⟩:=Fc H ac u.1;have S:=λd=>jQ H ac u.1 d;have X:a.eval b=s.v:=C.eq hx rfl;have Y:a.eval y=z.v:=C.eq hy rfl;have E:(Builtin.lenOf z.v).run c d=.ok z.len d:=by cases z<;>simp[Builtin.lenOf,O.v,O.len]
     have aj:(f.sh.map Sh.zero).length=f.sh.length:=aH;rw[aj]at Q;simp only[aj]at ah ai;have M:∀r:World,r.heap=d.heap->(Builtin.firstCells f.sh.length z.len z.v).run c r=.ok (bD A) r:=λr ag=>
      sK A z z.len f.sh.length Q r (by rw[ag];exact ar) (ad _)
     have ay:=s.Xh;by_cases D:s.len+z.len<=s.cap
     .obtain⟨R,p⟩:=ah D;cases s with
      |nil=>
       simp only[O.NS,O.UR]at D R p;have J:z.len=0:=V;have:A=[]:=List.length_eq_zero_iff.1 (by rw[Q,J];simp);subst this;obtain⟨ab,p⟩:=lP p;refine ju (w:=d) (c:=.c (.s .nil)) (v:=.slice none 0 0) (b:=d) C L rfl (oK.aF d) p ?_ N;have I:a.eval b=.slice none 0 0:=X;have F:=M d rfl;simp only[execOp,resolve,Sem.run_bind,Sem.run_pure,Result.andThen_ok,invoke,builtin,Builtin.append_,mG,cA,fe,I,Y];rw[J]at E F;simp[run_underlying U,run_underlying W,S,E,F]
      |CT K o0 sp=>
       simp only[O.Rk,O.UQ]at D R p;have J:z.len=0:=V;have:A=[]:=List.length_eq_zero_iff.1 (by rw[Q,J];simp);subst this;obtain⟨ab,p⟩:=lP p;refine ju (w:=d) (c:=.c (.s (.CT K o0 sp))) (v:=.slice (some ⟨K,o0,some sp⟩) 0 0) (b:=d) C L rfl (oK.aF d) p ?_ N;have I:a.eval b=.slice (some ⟨K,o0,some sp⟩) 0 0:=X;have F:=M d rfl;simp only[execOp,resolve,Sem.run_bind,Sem.run_pure,Result.andThen_ok,invoke,builtin,Builtin.append_,mG,cA,fe,I,Y];rw[J]at E F;simp[run_underlying U,run_underlying W,S,E,F,bD,storeCells]
      |mk F K J aa=>
       simp only[O.dS,O.NH,O.fG,O.iY]at D R p;obtain⟨ab,p⟩:=lP p;refine ju (w:=d) (c:=.c (.s (.mk F K (J+z.len) aa))) (v:=.slice (some ⟨F,K,none⟩) (J+z.len) aa) (b:=d.setCells F (K+J*f.sh.length) (A.map Ce.v)) C (by rw[kC];exact L.da ab) rfl (qB _ _ _ _) (by rw[kC];exact p) ?_ N;have an:=De (d:=c) A F (K+J*f.sh.length) d R;have I:a.eval b=.slice (some ⟨F,K,none⟩) J aa:=X;simp only[execOp,resolve,Sem.run_bind,Sem.run_pure,Result.andThen_ok,invoke,builtin,Builtin.append_,mG,cA,fe,I,Y];simp[run_underlying U,run_underlying W,S,E,D,M d rfl,uO,bD,an]
     .obtain⟨ab,old,av,ax,p⟩:=ai V;have aI:=growslice_fits (need:=s.len+z.len) (old:=s.cap) (bytes:=f.bytes) V ab;have K:f.bytes≠0:=λB=>by rw[B]at u;simp at u
      have aJ:¬(((s.len+z.len:Nat):Int)>IntKind.i64.max/\f.bytes=0):=λhh=>K hh.2;have aw:∀r:World,r.heap=d.heap->(Builtin.firstCells f.sh.length s.len s.v).run c r=.ok (bD old) r:=λr ag=>
       sK old s s.len f.sh.length av r (by rw[ag];exact ax) (ad _)
      let I:Question:=.appendCap (s.len+z.len) s.cap B;let nc:=I.cut (d.tape d.drawn I);let J:World:={d with drawn:=d.drawn+1};have ap:s.len+z.len<=nc:=Nat.le_add_right _ _;refine ju (w:=d) (c:=.c (.s (.mk d.heap.size 0 (s.len+z.len) nc))) (v:=.slice (some ⟨d.heap.size,0,none⟩) (s.len+z.len) nc)
       (b:={J with heap:=d.heap.push (.cells (bD (old++A++me (f.sh.map Sh.zero) (nc -(s.len+z.len)))) B)}) C (L.push _) rfl ⟨rfl,rfl,rfl⟩ (lP (p nc ap)).2 ?_ N
      have aC:zv.cells.toList=(f.sh.map Sh.zero).map Ce.v:=by simp[hz]
      have aa:=Ox (f.sh.map Sh.zero) zv.cells aC (nc -(s.len+z.len));have an:I.forced=false:=rfl;have aq:¬(Builtin.nextslicecap (s.len+z.len) s.cap*f.bytes>2^48):=by
       have:(2:Nat)^48=281474976710656:=bh;omega
      simp only[execOp,resolve,Sem.run_bind,Sem.run_pure,Result.andThen_ok,invoke,builtin,Builtin.append_,mG,cA,fe,X,Y];have F:=aw J rfl;have R:=M J rfl;rw[ay]at F⊢;simp only[kY,rK,gH,Sem.run_bind,run_underlying U,run_underlying W,Result.andThen_ok,S,Sem.run_pure,E,fq,mH,D,af,hb,false_or];simp only[K,and_false,mH,aq,Sem.run_bind,run_choose,an,fq,Result.andThen_ok,af,run_askRoom,F,LC,LG,R,ak,aa,newRow,run_newObj,Sem.run_pure];simp[PK];rw[hb,ae V,ae (show¬(Question.appendCap (s.len+z.len) s.cap B).forced=true by simp[Question.forced])];have au:(Builtin.firstCells f.sh.length s.len (Value.slice s.cG s.len s.cap)).run c d.drew=.ok (bD old) d.drew:=F;have ao:(Builtin.firstCells f.sh.length z.len z.v).run c d.drew=.ok (bD A) d.drew:=R;simp only[af,Result.andThen_ok,au,ao,ak];have aB:Builtin.zeroCells zv.cells ((Question.appendCap (s.len+z.len) s.cap B).cut (d.tape d.drawn (Question.appendCap (s.len+z.len) s.cap B)) -(s.len+z.len))=bD (me (f.sh.map Sh.zero) (nc -(s.len+z.len))):=aa;rw[aB];rfl
    .rw[u]at q;exact q.elim
   .exact q.elim
  .exact q.elim
 .exact q.elim
end
end Go.Vc
end
section
namespace Go.Vc
variable{b:Program}{T:TT}{G:List Nat}
section
variable{n:Nat}{c:Fr}{a:Act}{m:E}{k:Fr->SV->E->Prop}{d:Option Tmp}{e:TypeId}{h:String}{f:Array Edge}{g:Option (Nat×Bool)}
def RP(M:tG b T)(t:jM n c a)(U:Bx n c m){r:Array Operand}{K:Array TypeId}(i:wr b T G n c m d e k (.call ⟨.builtin .copy,r,K⟩)):Ej b n a m ⟨d,.call ⟨.builtin .copy,r,K⟩,e,h,f,g⟩ k:=by
 intro j hw ah ae W
 subst hw;simp only[wr]at i;split at i
 .rename_i q R ad ai V ab;split at i
  .rename_i ag sh af s z ht hx hy;split at i
   .rename_i J aa;cases u:J.tQ
    .rw[u]at i;obtain⟨o,C,X,Y,y⟩:=i;obtain⟨Z,y⟩:=lP y;have S:r=#[q,R]:=Array.toList_inj.1 (by simpa using V);subst S;have E:K[0]? =some ad:=by rw[<-Xx,ab];rfl
     have F:=(jO (M.xk ht)).1;have D:=λj=>jQ M aa u j;have H:a.eval q=s.v:=t.eq hx rfl;have I:a.eval R=z.v:=t.eq hy rfl;have A:(Builtin.lenOf z.v).run b j=.ok z.len j:=by cases z<;>simp[Builtin.lenOf,O.v,O.len]
     have l:(Builtin.firstCells J.sh.length (Nat.min z.len s.len) z.v).run b j=.ok (bD o) j:=
      sK o z _ J.sh.length C j X (Nat.min_le_left _ _)
     refine ju (w:=j) (c:=.c (.i (Nat.min z.len s.len:Nat))) (v:=.int .i64 (Nat.min z.len s.len:Nat)) (b:=j.setCells s.az s.off (o.map Ce.v)) t (by rw[kC];exact U.da Z) rfl (qB _ _ _ _) (by rw[kC];exact y) ?_ W;cases s with
     |nil=>
      have B:Nat.min z.len O.nil.len=0:=aH;have:o=[]:=List.length_eq_zero_iff.1 (by rw[C,B];simp);subst this;have p:a.eval q=.slice none 0 0:=H;simp only[O.NS]at l⊢;simp only[execOp,resolve,Sem.run_bind,Sem.run_pure,Result.andThen_ok,invoke,builtin,Builtin.copy_,mG,cA,fe,p,I,E];simp only[kY,rK,gH,Sem.run_bind,run_underlying F,Result.andThen_ok,A,D,l,Sem.run_pure];rfl
     |CT L N Q=>
      have B:Nat.min z.len (O.CT L N Q).len=0:=aH;have:o=[]:=List.length_eq_zero_iff.1 (by rw[C,B];simp);subst this;have p:a.eval q=.slice (some ⟨L,N,some Q⟩) 0 0:=H;simp only[O.Rk]at l⊢;simp only[execOp,resolve,Sem.run_bind,Sem.run_pure,Result.andThen_ok,invoke,builtin,Builtin.copy_,mG,cA,fe,p,I,E];simp only[kY,rK,gH,Sem.run_bind,run_underlying F,Result.andThen_ok,A,D,l,Sem.run_pure,bD];rfl
     |mk B L ac N=>
      have Q:=De (d:=b) o B L j Y;have p:a.eval q=.slice (some ⟨B,L,none⟩) ac N:=H;simp only[O.dS]at l⊢;simp only[execOp,resolve,Sem.run_bind,Sem.run_pure,Result.andThen_ok,invoke,builtin,Builtin.copy_,mG,cA,fe,p,I,E];simp only[kY,rK,gH,Sem.run_bind,run_underlying F,Result.andThen_ok,A,D,l,Sem.run_pure,bD,Q];rfl
    .rw[u]at i;exact i.elim
   .exact i.elim
  .exact i.elim
 .exact i.elim
def PO(o:tG b T)(u:UE b G)(l:jM n c a)(j:Bx n c m)(p:Oper)(i:wr b T G n c m p.dst p.type k p.op):Ej b n a m p k:=by
 obtain⟨d,v,e,h,f,g⟩:=p;cases v with
 |alloc t=>exact Qa o l j i
 |box t x=>exact Tf l j i
 |buildSlice t q r=>exact IH o l j i
 |store t x y=>exact Qb o l j i
 |makeSlice t x y=>exact J6 o l j i
 |makeFunc r first q=>exact LN l j i
 |makeMap t w=>exact NJ l j i
 |lookup t x y q=>exact OY o l j i
 |mapUpdate t x y z=>exact J7 o l j i
 |call r=>
  obtain⟨s,t,x⟩:=r;cases s with
  |builtin q=>
   cases q with
   |append=>exact OX o l j i
   |copy=>exact RP o l j i
   |_=>exact i.elim
  |value q=>exact RO u l j i
  |invoke w q=>exact i.elim
 |_=>exact i.elim
end
end Go.Vc
end
section
namespace Go.Vc
variable{b:Array Bool}{j:Nat}{L:List (Nat×(World->Prop))}{a:Act}{w:World}
section
variable{P:Program}{eC:Array Oper}{Q:Exit->Act->World->Prop}{c:Region.Mode}{d:Nat->Nat->Bool}
def uE(P:Program)(c:Region.Mode)(eC:Array Oper)(Q:Exit->Act->World->Prop)(d:Nat->Nat->Bool)(L:List (Nat×(World->Prop))):Nat->Array Bool->Act->World->Prop
 |0,b,a,w=>Region.ready c eC b=[]/\Q .normal a w
 |g+1,b,a,w=>
  (Region.ready c eC b=[]->Q .normal a w)/\
  ∀i∈Region.ready c eC b,wpOp P eC Q i (λf e=>(∀x∈L,d i x.1=false->x.2 w->x.2 e)/\uE P c eC Q d L g (b.setIfInBounds i true) f e) a w
def Lz{L:List (Nat×(World->Prop))}:∀(e:Nat)(b:Array Bool)(a:Act)(w:World),uE P c eC Q d L e b a w->wpAny P c eC Q e b a w
 |0,_,_,_,h=>h
 |e+1,_,_,_,h=>⟨h.1,λj i=>wpOp_mono (λf k g=>Lz e _ f k g.2) (h.2 j i)⟩
def CH{L f:List (Nat×(World->Prop))}(i:∀x∈f,x∈L):∀(e:Nat)(b:Array Bool)(a:Act)(w:World),uE P c eC Q d L e b a w->uE P c eC Q d f e b a w
 |0,_,_,_,h=>h
 |e+1,_,_,_,h=>⟨h.1,λm k=>wpOp_mono (λj n g=>⟨λx l=>g.1 x (i x l),CH i e _ j n g.2⟩) (h.2 m k)⟩
def Gn(d:Nat->Nat->Bool)(b:Array Bool):Prop:=∀i,b.getD i false=true->∀r,d i r=true->b.getD r false=true
def UA(c:Region.Mode)(eC:Array Oper)(d:Nat->Nat->Bool):Prop:=
 ∀(i r:Nat)(o:Oper),eC[i]? =some o->d i r=true->∃e∈o.after,Region.binds c e=true/\(e.on=r\/d e.on r=true)
def wa(i:UA c eC d)(k:Gn d b)(m:j∈Region.ready c eC b){r:Nat}(o:d j r=true):b.getD r false=true:=by
 obtain⟨_,p,n,f⟩:=mem_ready.1 m;obtain⟨e,l,g,h⟩:=i j r p n o;have a:=f e l g;rcases h with rfl|h
 .exact a
 .exact k _ a r h
def Gn.set(h:UA c eC d)(a:Gn d b)(k:j∈Region.ready c eC b):Gn d (b.setIfInBounds j true):=by
 intro i e r g;by_cases f:j=i
 .subst f;exact getD_set_true (wa h a k g)
 .rw[getD_set_ne false f]at e;exact getD_set_true (a i e r g)
def Gk{i:Nat}{k:Oper}{E:Value}{S:World->Prop}(G:UA c eC d)(B:eC[i]? =some k)(N:∀(j:Nat)(O:Oper) p o,eC[j]? =some O->O.op≠.select p o)
 (U:∀e a w,Q (.panic e) (a.put k.dst E) w->Q (.panic e) a w):
 ∀(q:Nat)(b:Array Bool)(a:Act)(w:World),Gn d b->
  (∀j l,eC[j]? =some l->j≠i->b.getD j true=false->(∀e∈l.after,Region.binds c e=true->e.on≠i)->k.apart eC l=true)->
  i∈Region.ready c eC b->YieldsIf P eC S k E a->S w->
  uE P c eC Q d ((i,S)::L) q (b.setIfInBounds i true) (a.put k.dst E) w->uE P c eC Q d L (q+1) b a w:=by
 intro q
 induction q with
 |zero=>
  intro b a w _ _ g x v H
  refine⟨λh=>(by rw[h]at g;cases g),λj m=>?_⟩
  by_cases f:j=i
  .subst f;exact x.wpOp B v ⟨λy _ _ h=>h,H⟩
  .have:=ready_mono m f
   rw[H.1]at this
   cases this
 |succ q ih=>
  intro b a w I J g x v H
  refine⟨λh=>(by rw[h]at g;cases g),λj m=>?_⟩
  by_cases f:j=i
  .subst f;exact x.wpOp B v ⟨λy _ _ h=>h,CH (λy D=>ah _ D) _ _ _ _ H⟩
  .have t:=H.2 j (ready_mono m f)
   obtain⟨M,l,C,V⟩:=mem_ready.1 m
   have r:b.getD i false=false:=by
    have F:=(mem_ready.1 g).1;rcases aU i b.size with z|z
    .simp[z]at F⊢;exact F
    .simp[Ia z]
   have ac:∀e∈l.after,Region.binds c e=true->e.on≠i:=λe X A Y=>by
    have t:=V e X A;rw[Y,r]at t;cases t
   have W:d j i=false:=by
    cases A:d j i
    .rfl
    .have:=wa G I m A;rw[r]at this;cases this
   have T:=wpOp_putIf C (J j l C f M ac) (λp o=>N i k p o B) (λp o=>N j l p o C) U x t
   have Z:∀n s,eC[n]? =some s->n≠i->(b.setIfInBounds j true).getD n true=false->
    (∀e∈s.after,Region.binds c e=true->e.on≠i)->k.apart eC s=true:=λn s hk aa r ab=>by
    refine J n s hk aa ?_ ab
    by_cases K:j=n
    .subst K;exact M
    .rw[getD_set_ne true K]at r;exact r
   refine wpOp_mono (λR w' u=>⟨λy D=>u.2.1 y (ah _ D),
    ih (b.setIfInBounds j true) R w' (I.set G m) Z (ready_mono g (kG f)) u.1 (u.2.1 (i,S) aX W v) ?_⟩) T
   rw[Array.setIfInBounds_comm _ _ f]
   exact u.2.2
def QO{e:Nat}(j:Region.ready c eC b≠[])
 (h:∀i∈Region.ready c eC b,wpOp P eC Q i (λg f=>(∀x∈L,d i x.1=false->x.2 w->x.2 f)/\uE P c eC Q d L e (b.setIfInBounds i true) g f) a w):
 uE P c eC Q d L (e+1) b a w:=⟨λf=>absurd f j,h⟩
def PN(e:Region.ready c eC b=[])(h:Q .normal a w):
 ∀f,uE P c eC Q d L f b a w
 |0=>⟨e,h⟩
 |_+1=>⟨λ_=>h,by rw[e];simp⟩
end
end Go.Vc
end
section
namespace Go.Vc
variable{o:Oper}{a:Act}{m:E}
variable{b:Program}{T:TT}{G:List Nat}{n:Nat}
def Kp:Op->Bool
 | .alloc _| .box ..| .buildSlice ..| .store ..| .makeSlice ..| .makeMap ..| .lookup ..| .mapUpdate ..| .makeFunc ..=>true
 | .call ⟨.builtin .append,_,_⟩| .call ⟨.builtin .copy,_,_⟩=>true
 | .call ⟨.builtin _,_,_⟩=>false
 | .call _=>true
 |_=>false
def rC(n:Nat):Option Nat->Bool
 |none=>true
 |some d=>Nat.blt d n
def Ki(eC:List Oper)(j:Nat):Option Nat:=
 match GZ eC j with
 |some o=>o.dst
 |none=>none
def gd(eC:List Oper)(a:Fr)(g:Option (Nat×Bool))(OD b:Fr->Prop):Prop:=
 match g with
 |none=>OD a
 |some (j,c)=>match Ki eC j with
  |none=>False
  |some d=>match gL a d with
   | .tt=>bif c then OD a else b a
   | .ff=>bif c then b a else OD a
   | .un=>b a
   | .c (.t x)=>(x=true->bif c then OD ((d,.tt)::a)else b ((d,.tt)::a))/\(x=false->bif c then b ((d,.ff)::a)else OD ((d,.ff)::a))
   |_=>False
def rJ(b:Program)(T:TT)(G:List Nat)(n:Nat)(eC:List Oper):List Oper->Fr->E->(Fr->E->Prop)->Prop
 |[],a,m,k=>k a m
 |o::ka,a,m,k=>
  bif rC n o.dst then
   gd eC a o.guard
    (λa=>bif Kp o.op then wr b T G n a m o.dst o.type (λc x d=>rJ b T G n eC ka (tp c o.dst x) d k) o.op
     else rd T a m (λx=>rJ b T G n eC ka (tp a o.dst x) m k) o.op)
    (λa=>rJ b T G n eC ka (tp a o.dst .un) m k)
  else False
def yF:List Oper->List Nat
 |[]=>[]
 |o::r=>match o.dst with
  |some d=>d::yF r
  |none=>yF r
def lS(M:List Nat)(a b:Act):Prop:=∀t,t∉M->b.tmps.getD t undef=a.tmps.getD t undef
def lS.aF(M:List Nat)(a:Act):lS M a a:=λ_ _=>rfl
def lS.trans{M:List Nat}{a b c:Act}(h:lS M a b)(k:lS M b c):lS M a c:=λt d=>(k t d).trans (h t d)
def lS.put{M:List Nat}{d:Option Nat}(hd:∀t,d=some t->t∈M)(v:Value)(a:Act):lS M a (a.put d v):=by
 cases d with
 |none=>exact lS.aF M a
 |some d=>
  intro t c;have b:d≠t:=λe=>c (e▸hd d rfl);simp[Act.put,jB b]
def Ku{d:Nat}(hd:o.dst=some d):∀(eC:List Oper),o∈eC->d∈yF eC:=by
 intro eC;induction eC with
 |nil=>intro h;cases h
 |cons x r b=>
  intro h;rcases List.mem_cons.1 h with a|a
  .subst a;simp only[yF,hd];exact aX
  .have:=b a;unfold yF;cases x.dst with
   |none=>exact this
   |some e=>exact ah _ this
def CS{d:Option Nat}(h:rC n d=true):∀t,d=some t->t<n:=by
 rintro t rfl;have:Nat.blt t n=true:=h;simpa[Nat.blt,Nat.succ_le_iff]using this
def H4(k:Array Oper){d:Fr}(f:jM n d a)(e:Bx n d m)(o:Oper){OD z:Fr->Prop}(h:gd k.toList d o.guard OD z):
 (Region.wanted o (yielded k a.tmps)=true/\∃b,OD b/\jM n b a/\Bx n b m)\/
 (Region.wanted o (yielded k a.tmps)=false/\∃b,z b/\jM n b a/\Bx n b m):=by
 unfold gd at h
 cases b:o.guard with
 |none=>
  rw[b]at h
  exact Or.inl ⟨by simp[Region.wanted,b],d,h,f,e⟩
 |some C=>
  obtain⟨r,v⟩:=C
  rw[b]at h
  simp only at h
  split at h
  .exact h.elim
  .rename_i g hd
   have y:(k[r]?).bind (·.dst)=some g:=by
    unfold Ki at hd;rw[oX]at hd;have B:k.toList[r]? =k[r]? :=aH;rw[B]at hd;split at hd
    .rename_i i c;rw[c];exact hd
    .simp at hd
   have i:=f.aO g
   have w:∀j:Bool,a.tmps.getD g undef=.bool j->yielded k a.tmps r=some j:=by
    intro j l;have:a.tmps[g]? =some (.bool j):=by
     cases q:a.tmps[g]? with
     |none=>rw[yr,q]at l;simp[undef]at l
     |some t=>rw[yr,q]at l;simp at l;rw[l]
    simp[yielded,y,this]
   split at h
   .rename_i p
    rw[p]at i
    have c:=w true i
    cases v
    .exact Or.inr ⟨by simp[Region.wanted,b,c],d,h,f,e⟩
    .exact Or.inl ⟨by simp[Region.wanted,b,c],d,h,f,e⟩
   .rename_i p
    rw[p]at i
    have c:=w false i
    cases v
    .exact Or.inl ⟨by simp[Region.wanted,b,c],d,h,f,e⟩
    .exact Or.inr ⟨by simp[Region.wanted,b,c],d,h,f,e⟩
   .rename_i p
    rw[p]at i
    have c:yielded k a.tmps r=none:=by
     have s:a.tmps.getD g undef=undef:=i;rw[yr]at s;unfold yielded;rw[y];cases q:a.tmps[g]? with
     |none=>simp[q]
     |some t=>rw[q]at s;simp at s;subst s;simp[q,undef]
    exact Or.inr ⟨by simp[Region.wanted,b,c],d,h,f,e⟩
   .rename_i x p
    rw[p]at i
    have c:=w x i
    have u:∀j:Bool,x=j->jM n ((g,if j then SV.tt else SV.ff)::d) a:=by
     rintro j rfl;refine⟨f.size,f.defers,λA=>?_⟩;simp only[gL];cases l:Nat.beq g A
     .exact f.aO A
     .have:=bq l;subst this;cases x<;>exact i
    obtain⟨s,t⟩:=h
    cases x
    .have t:=t rfl
     cases v
     .exact Or.inl ⟨by simp[Region.wanted,b,c],_,t,u false rfl,e.iP aH⟩
     .exact Or.inr ⟨by simp[Region.wanted,b,c],_,t,u false rfl,e.iP aH⟩
    .have s:=s rfl
     cases v
     .exact Or.inr ⟨by simp[Region.wanted,b,c],_,s,u true rfl,e.iP aH⟩
     .exact Or.inl ⟨by simp[Region.wanted,b,c],_,s,u true rfl,e.iP aH⟩
   .exact h.elim
def YA(g:tG b T){c:Fr}(f:jM n c a)(e:Bx n c m){k:SV->Prop}(h:rd T c m k o.op){w:World}(p:w.heap=m)
 {d:Act->World->Prop}{Q:Exit->Act->World->Prop}(j:∀x v,k x->x.Is v->d (a.put o.dst v) w):o.wp b a w d Q:=by
 obtain⟨x,v,i,q,l⟩:=KG (P:=b) g f e o h
 unfold Oper.wp
 rw[l w (λr _=>by rw[p])]
 exact j x v i q
def uf(l:tG b T)(s:UE b G)(c:Array Oper){Q:Exit->Act->World->Prop}{K:World}{H:Act}:
 ∀(ka:List Oper)(d:Fr)(m:E)(k:Fr->E->Prop)(a:Act)(w:World),(∀o∈ka,o∈c.toList)->rJ b T G n c.toList ka d m k->jM n d a->Bx n d m->w.heap=m->oK K w->
  lS (yF c.toList) H a->
  (∀g e f,k g f.heap->jM n g e->Bx n g f.heap->oK K f->lS (yF c.toList) H e->Q .normal e f)->wpList b c Q ka a w
 |[],d,m,k,a,w,_,h,y,v,e,r,p,q=>by
  subst e;exact q d a w h y v r p
 |o::ka,d,m,k,a,w,I,h,y,v,e,r,p,q=>by
  simp only[rJ]at h;cases hd:rC n o.dst
  .rw[hd]at h;exact h.elim
  .rw[hd]at h;simp only[jq]at h;have z:=CS hd;have A:∀u,o.dst=some u->u∈yF c.toList:=λu N=>Ku N _ (I o aX);have B:=λS P=>I S (ah _ P);unfold wpList;rcases H4 c y v o h with⟨D,g,t,j,i⟩|⟨D,g,O,j,i⟩
   .rw[ak D];refine .inl ?_;cases J:Kp o.op
    .simp only[J,lV]at t;refine YA l j i t e λV U F C=>?_;exact uf l s c ka _ m k _ w B F (j.put C z) (i.put _ _) e r (p.trans (lS.put A _ _)) q
    .simp only[J,jq]at t;refine PO l s j i o t w e _ _ λW V U f F M L C R=>?_;exact uf l s c ka _ _ k _ f B F (M.put C z) (L.put _ _) rfl (r.trans R) (p.trans (lS.put A _ _)) q
   .rw[ae (by rw[D];simp)];exact uf l s c ka _ m k _ w B O (j.put (x:=.un) rfl z) (i.put _ _) e r (p.trans (lS.put A _ _)) q
end Go.Vc
end
section
namespace Go.Vc
variable{P:Program}{T:TT}{G:List Nat}{n:Nat}
def tq:List Nat->Nat->Nat
 |[],_=>0
 |x::_,0=>x
 |_::r,n+1=>tq r n
def kT:List Edge->Nat
 |[]=>0
 |e::r=>bif Region.binds .any e then 2^e.on|||kT r else kT r
def ny(a:List Nat):List Edge->Nat
 |[]=>0
 |e::r=>bif Region.binds .any e then(2^e.on|||tq a e.on)|||ny a r else ny a r
def kK(a:List Nat):List Oper->List Nat->List Nat->Bool
 |[],[],[]=>true
 |o::eC,p::d,b::c=>Nat.beq p (kT o.after.toList)&&Nat.beq b (ny a o.after.toList)&&kK a eC d c
 |_,_,_=>false
def Rp:Op->List Operand
 | .alloc _| .ready _| .waits _=>[]
 | .move x| .assign x| .box _ x| .load _ x| .nilCheck x| .unOp _ _ x| .convert _ _ x| .sliceToArrayPointer _ x| .makeInterface _ x
 | .makeChan _ x| .fieldAddr _ x _| .field _ x _| .range _ x| .next x _| .entry x| .typeAssert x _ _ _| .extract x _| .panic x| .recv _ x _=>[x]
 | .pick c a b=>[c,a,b]
 | .build _ b| .buildSlice _ _ b=>b.toList.map (·.2)
 | .store _ a v| .binOp _ _ a v _| .makeSlice _ a v| .indexAddr _ a v| .index _ a v| .lookup _ a v _| .mapEntry _ a v| .send a v=>[a,v]
 | .makeFunc _ first a=>first.toList++a.toList
 | .makeMap _ r=>r.toList
 | .slice _ x l h m=>[x]++l.toList++h.toList++m.toList
 | .mapUpdate _ m k v| .entryStore _ m k v| .insert _ m k v=>[m,k,v]
 | .call ⟨.value f,a,_⟩| .go ⟨.value f,a,_⟩| .defer ⟨.value f,a,_⟩=>f::a.toList
 | .call ⟨.invoke f _,a,_⟩| .go ⟨.invoke f _,a,_⟩| .defer ⟨.invoke f _,a,_⟩=>f::a.toList
 | .call ⟨.builtin _,a,_⟩| .go ⟨.builtin _,a,_⟩| .defer ⟨.builtin _,a,_⟩=>a.toList
 | .select a _=>(a.flatMap λc=>#[c.chan]++c.send.toArray).toList
def TW(a:Op):a.operands.toList=Rp a:=by
 cases a<;>try (simp[Op.operands,Rp];done)
 all_goals
  rename_i c
  obtain⟨b,d,e⟩:=c
  cases b<;>simp[Op.operands,Rp,Call.operands]
def ID(d:Nat):List Operand->Bool
 |[]=>false
 | .tmp t::r=>Nat.beq t d||ID d r
 |_::r=>ID d r
def NV(eC:List Oper)(o:Oper)(d:Nat):Bool:=
 ID d (Rp o.op)||(match o.guard with
  |some (g,_)=>(match Ki eC g with|some t=>Nat.beq t d|none=>false)
  |none=>false)
def NC(eC:List Oper)(x y:Oper):Bool:=
 (match x.dst with
  |some d=>!NV eC y d&&(match y.dst with|some e=>!Nat.beq d e|none=>true)
  |none=>true)&&
 (match y.dst with
  |some d=>!NV eC x d
  |none=>true)
def Xe:Op->Bool
 | .select ..=>true
 |_=>false
def yA(b:List Oper)(i:Nat)(a:Nat)(o:Oper):Nat->List Oper->List Nat->Bool
 |_,[],_=>true
 |_,_,[]=>true
 |j,x::eC,p::c=>(Nat.beq j i||Nat.testBit p i||Nat.testBit a j||NC b o x)&&yA b i a o (j+1) eC c
def En(a:List Oper)(b:List Nat):Nat->List Oper->List Nat->Bool
 |_,[],_=>true
 |_,_,[]=>true
 |i,o::eC,c::d=>!Xe o.op&&(Kp o.op||yA a i c o 0 a b)&&En a b (i+1) eC d
def jZ(done p i:Nat):Bool:=!(Nat.testBit done i)&&Nat.beq (p&&&done) p
def vR(done:Nat):Nat->List Oper->List Nat->Option Nat
 |_,[],_=>none
 |_,_,[]=>none
 |i,o::eC,p::a=>bif jZ done p i&&!(Kp o.op)then some i else vR done (i+1) eC a
def oY(done:Nat):Nat->List Oper->List Nat->List Nat
 |_,[],_=>[]
 |_,_,[]=>[]
 |i,_::eC,p::a=>bif jZ done p i then i::oY done (i+1) eC a else oY done (i+1) eC a
def KM(m a:E):List (Nat×Nat)->Prop->Prop
 |[],k=>k
 |(b,o)::r,k=>af a b o=af m b o/\KM m a r k
def CA(a:Nat)(m b:E):List (Nat×List (Nat×Nat))->Prop->Prop
 |[],k=>k
 |(r,c)::L,k=>bif Nat.testBit a r then CA a m b L k else KM m b c (CA a m b L k)
def NB:List Nat->(Nat->Prop)->Prop
 |[],_=>True
 |[i],f=>f i
 |i::r,f=>f i/\NB r f
def nU(P:Program)(T:TT)(G:List Nat)(n:Nat)(eC:List Oper)(b c:List Nat):Nat->Nat->Fr->E->List (Nat×List (Nat×Nat))->(Fr->E->Prop)->Prop
 |0,done,a,m,_,k=>match oY done 0 eC b with
  |[]=>k a m
  |_=>False
 |d+1,done,a,m,L,k=>
  match vR done 0 eC b with
  |some i=>match GZ eC i with
   |some o=>bif rC n o.dst then
    gd eC a o.guard
     (λa=>rd T a m (λx=>nU P T G n eC b c d (done|||2^i) (tp a o.dst x) m ((i,Sr T a o.op)::L) k) o.op)
     (λa=>nU P T G n eC b c d (done|||2^i) (tp a o.dst .un) m L k)
    else False
   |none=>False
  |none=>match oY done 0 eC b with
   |[]=>k a m
   |g=>NB g λi=>match GZ eC i with
    |some o=>bif rC n o.dst then
     gd eC a o.guard
      (λa=>wr P T G n a m o.dst o.type (λf x e=>CA (tq c i) m e L (nU P T G n eC b c d (done|||2^i) (tp f o.dst x) e L k)) o.op)
      (λa=>nU P T G n eC b c d (done|||2^i) (tp a o.dst .un) m L k)
     else False
    |none=>False
def mL(r:Nat):∀(a:List Edge),Nat.testBit (kT a) r=true<->∃e∈a,Region.binds .any e=true/\e.on=r
 |[]=>by simp[kT]
 |e::a=>by
  have c:=mL r a;simp only[kT];cases b:Region.binds .any e
  .simp only[lV,c,aV,exists_eq_or_imp,b];simp
  .simp only[jq,Us,cB,c,aV,exists_eq_or_imp,b,true_and,My,an]
def xh(b:List Nat)(r:Nat):∀(a:List Edge),Nat.testBit (ny b a) r=true->∃e∈a,Region.binds .any e=true/\(e.on=r\/Nat.testBit (tq b e.on) r=true)
 |[],h=>by simp[ny]at h
 |e::a,h=>by
  have i:=xh b r a;simp only[ny]at h;cases f:Region.binds .any e
  .simp only[f,lV]at h;obtain⟨c,g,d⟩:=i h;exact⟨c,ah _ g,d⟩
  .simp only[f,jq,Us,cB,My,an]at h;rcases h with h|h
   .exact⟨e,aX,f,h⟩
   .obtain⟨c,g,d⟩:=i h;exact⟨c,ah _ g,d⟩
def lz(c:List Nat):∀{eC:List Oper}{e a:List Nat},kK c eC e a=true->∀(i:Nat)(o:Oper),eC[i]? =some o->
 e[i]? =some (kT o.after.toList)/\tq a i=ny c o.after.toList/\∃b,a[i]? =some b
 |[],[],[],_,i,o,h=>by simp at h
 |x::eC,p::e,b::a,h,i,o,d=>by
  simp only[kK,bI]at h;obtain⟨⟨f,g⟩,j⟩:=h;cases i with
  |zero=>
   simp at d;subst d;exact⟨by simp[bq f],by simp[tq,bq g],b,aH⟩
  |succ i=>
   have:=lz c j i o (by simpa using d);simpa[tq]using this
 |[],[],_::_,h,_,_,_=>by simp[kK]at h
 |[],_::_,_,h,_,_,_=>by simp[kK]at h
 |_::_,[],_,h,_,_,_=>by simp[kK]at h
 |_::_,_::_,[],h,_,_,_=>by simp[kK]at h
def Iq(c:List Nat):∀{eC:List Oper}{b a:List Nat},kK c eC b a=true->b.length=eC.length/\a.length=eC.length
 |[],[],[],_=>⟨rfl,rfl⟩
 |x::eC,p::b,d::a,h=>by
  simp only[kK,bI]at h;have:=Iq c h.2;simp[this.1,this.2]
 |[],[],_::_,h=>by simp[kK]at h
 |[],_::_,_,h=>by simp[kK]at h
 |_::_,[],_,h=>by simp[kK]at h
 |_::_,_::_,[],h=>by simp[kK]at h
end Go.Vc
end
section
namespace Go.Vc
variable{N a:Nat}{b:Array Bool}
variable{P:Program}{T:TT}{G:List Nat}{n:Nat}
def sZ{d:Nat}:∀{a:List Operand},ID d a=false->d∉(a.filterMap λ| .tmp t=>some t|_=>none)
 |[],_=>aH
 |x::r,h=>by
  cases x with
  |tmp t=>
   simp only[ID,bU]at h;have b:=sZ h.2;have:t≠d:=λe=>by subst e;simp at h
   simp only[List.filterMap_cons,aV,uH];exact⟨λe=>this e.symm,b⟩
  |const v=>simpa using sZ (a:=r) (by simpa[ID]using h)
  |global g=>simpa using sZ (a:=r) (by simpa[ID]using h)
  |func f=>simpa using sZ (a:=r) (by simpa[ID]using h)
def Tz(a:Array Oper)(g:Nat):Ki a.toList g=(a[g]?).bind (·.dst):=by
 unfold Ki;rw[oX];have e:a.toList[g]? =a[g]? :=aH;rw[e];cases a[g]? <;>rfl
def Io(b:Array Oper){o:Oper}{d:Nat}(h:NV b.toList o d=false):d∉o.looksAt b:=by
 simp only[NV,bU]at h;unfold Oper.looksAt;rw[TW,lE,uH];refine⟨sZ h.1,?_⟩;have a:=h.2;cases c:o.guard with
 |none=>simp
 |some p=>
  obtain⟨g,f⟩:=p;rw[c]at a;simp only at a⊢;rw[Tz]at a;cases hd:(b[g]?).bind (·.dst)with
  |none=>simp
  |some t=>
   rw[hd]at a;simp only at a;simp only[Option.toList_some,fN];intro e;subst e;simp at a
def OQ(b:Array Oper){x y:Oper}(h:NC b.toList x y=true):x.apart b y=true:=by
 simp only[NC,bI]at h;obtain⟨a,d⟩:=h;unfold Oper.apart;simp only[bI];constructor
 .cases i:x.dst with
  |none=>rfl
  |some f=>
   rw[i]at a;simp only[bI,gC]at a⊢;refine⟨?_,?_⟩
   .have:=Io b a.1;simpa using this
   .have c:=a.2;cases e:y.dst with
    |none=>simp
    |some j=>
     rw[e]at c;simp only[gC]at c;simp only[uF,ne_eq,CK];intro g;subst g;simp at c
 .cases e:y.dst with
  |none=>rfl
  |some f=>
   rw[e]at d;simp only[gC]at d⊢;have:=Io b d;simpa using this
def Cn(g:List Oper)(a d:Nat)(o:Oper):∀{eC:List Oper}{i:List Nat}{c:Nat},yA g a d o c eC i=true->∀(j:Nat)(x:Oper)(p:Nat),eC[j]? =some x->i[j]? =some p->
 c+j=a\/Nat.testBit p a=true\/Nat.testBit d (c+j)=true\/NC g o x=true
 |[],_,_,_,j,x,p,h,_=>by simp at h
 |_::_,[],_,_,j,x,p,_,h=>by simp at h
 |y::eC,q::i,c,h,j,x,p,f,e=>by
  simp only[yA,bI,cB]at h;obtain⟨b,l⟩:=h;cases j with
  |zero=>
   simp at f e;subst f;subst e;rcases b with((b|b)|b)|b
   .exact Or.inl (by simpa using bq b)
   .exact Or.inr (Or.inl b)
   .exact Or.inr (Or.inr (Or.inl (by simpa using b)))
   .exact Or.inr (Or.inr (Or.inr b))
  |succ j=>
   have:=Cn g a d o l j x p (by simpa using f) (by simpa using e);have k:c+1+j=c+(j+1):=V;rw[k]at this;exact this
def vK(d:List Oper)(i:List Nat):∀{eC:List Oper}{e:List Nat}{c:Nat},En d i c eC e=true->∀(a:Nat)(o:Oper)(b:Nat),eC[a]? =some o->e[a]? =some b->
 Xe o.op=false/\(Kp o.op=true\/yA d (c+a) b o 0 d i=true)
 |[],_,_,_,a,o,b,h,_=>by simp at h
 |_::_,[],_,_,a,o,b,_,h=>by simp at h
 |y::eC,q::e,c,h,a,o,b,g,f=>by
  simp only[En,bI,cB,gC]at h;obtain⟨⟨k,l⟩,m⟩:=h;cases a with
  |zero=>simp at g f;subst g;subst f;exact⟨k,by simpa using l⟩
  |succ a=>
   have:=vK d i m a o b (by simpa using g) (by simpa using f);have j:c+1+a=c+(a+1):=V;rw[j]at this;exact this
def Im(p d:Nat):Nat.beq (p&&&d) p=true<->∀r,Nat.testBit p r=true->Nat.testBit d r=true:=by
 constructor
 .intro h r a;have e:=bq h;rw[<-e,Nat.testBit_and]at a;simp only[bI]at a;exact a.2
 .intro h;have:p&&&d=p:=by
   apply Nat.eq_of_testBit_eq;intro r;rw[Nat.testBit_and];cases a:Nat.testBit p r
   .rfl
   .simp[h r a]
  rw[this];simp
structure Ns(N done:Nat)(b:Array Bool):Prop where
 size:b.size=N
 XW:∀a,b.getD a false=Nat.testBit done a
def Ns.un{done:Nat}(h:Ns N done b)(c:a<N):b.getD a true=Nat.testBit done a:=by
 rw[<-h.XW a];have:a<b.size:=by rw[h.size];exact c
 simp[this]
def Ns.set{done:Nat}(h:Ns N done b)(c:a<N):Ns N (done|||2^a) (b.setIfInBounds a true):=by
 refine⟨by simp[h.size],λj=>?_⟩;have d:a<b.size:=by rw[h.size];exact c
 rw[Us,My];by_cases e:a=j
 .subst e;simp[d]
 .rw[getD_set_ne false e,h.XW j];simp[e]
def Hd(d:Array Oper){q h r:List Nat}(n:kK h d.toList q r=true){done:Nat}(g:Ns d.size done b)(a:Nat):
 a∈Region.ready .any d b<->∃o p,d[a]? =some o/\q[a]? =some p/\jZ done p a=true:=by
 rw[mem_ready]
 constructor
 .rintro⟨m,o,c,s⟩
  have k:a<d.size:=(Array.getElem?_eq_some_iff.1 c).1
  have l:=(lz h n a o (by simpa using c)).1
  refine⟨o,_,c,l,?_⟩
  simp only[jZ,bI,gC]
  refine⟨by rw[<-g.un k];exact m,(Im _ _).2 λt e=>?_⟩
  obtain⟨f,j,i,rfl⟩:=(mL t _).1 e
  rw[<-g.XW]
  exact s f (Array.mem_toList_iff.1 j) i
 .rintro⟨o,p,c,l,e⟩
  have k:a<d.size:=(Array.getElem?_eq_some_iff.1 c).1
  have m:=(lz h n a o (by simpa using c)).1
  rw[l]at m
  simp only[CK]at m
  subst m
  simp only[jZ,bI,gC]at e
  refine⟨by rw[g.un k];exact e.1,o,c,λf j i=>?_⟩
  rw[g.XW]
  exact(Im _ _).1 e.2 f.on ((mL _ _).2 ⟨f,Array.mem_toList_iff.2 j,i,rfl⟩)
def Kv(done:Nat):∀{eC:List Oper}{d:List Nat}{b a:Nat},a∈oY done b eC d<->∃j o p,a=b+j/\eC[j]? =some o/\d[j]? =some p/\jZ done p a=true
 |[],_,_,_=>by simp[oY]
 |_::_,[],_,_=>by simp[oY]
 |x::eC,q::d,b,a=>by
  have g:=Kv done (eC:=eC) (d:=d) (b:=b+1) (a:=a);have h:(∃j o p,a=b+j/\(x::eC)[j]? =some o/\(q::d)[j]? =some p/\jZ done p a=true)<->
   ((a=b/\jZ done q b=true)\/∃j o p,a=b+1+j/\eC[j]? =some o/\d[j]? =some p/\jZ done p a=true):=by
   constructor
   .rintro⟨j,o,p,rfl,f,e,c⟩
    cases j with
    |zero=>simp at e;subst e;exact Or.inl ⟨rfl,by simpa using c⟩
    |succ j=>exact Or.inr ⟨j,o,p,V,by simpa using f,by simpa using e,by rwa[show b+(j+1)=b+(j+1)from rfl]at c⟩
   .rintro(⟨rfl,c⟩|⟨j,o,p,rfl,f,e,c⟩)
    .exact⟨0,x,q,rfl,aH,aH,c⟩
    .exact⟨j+1,o,p,V,by simpa using f,by simpa using e,c⟩
  rw[h,<-g];simp only[oY];cases c:jZ done q b
  .simp
  .simp
def Ig(done:Nat):∀{eC:List Oper}{d:List Nat}{c a:Nat},vR done c eC d=some a->∃j o p,a=c+j/\eC[j]? =some o/\d[j]? =some p/\jZ done p a=true/\Kp o.op=false
 |[],_,_,_,h=>by simp[vR]at h
 |_::_,[],_,_,h=>by simp[vR]at h
 |x::eC,q::d,c,a,h=>by
  simp only[vR]at h;cases b:(jZ done q c&&!(Kp x.op))
  .rw[b]at h;obtain⟨j,o,p,rfl,e,f,g,i⟩:=Ig done h;exact⟨j+1,o,p,V,by simpa using e,by simpa using f,g,i⟩
  .rw[b]at h;simp at h;subst h;simp only[bI,gC]at b;exact⟨0,x,q,rfl,aH,aH,b.1,b.2⟩
def MD:∀{l:List Nat}{f:Nat->Prop},NB l f->∀a∈l,f a
 |[a],f,h,j,b=>by simp at b;subst b;exact h
 |a::c::r,f,h,j,b=>by
  rcases List.mem_cons.1 b with rfl|b
  .exact h.1
  .exact MD h.2 j b
def KN{m b:E}:∀{l:List (Nat×Nat)}{k:Prop},KM m b l k->k/\∀q∈l,af b q.1 q.2=af m q.1 q.2
 |[],k,h=>⟨h,aH⟩
 |(e,o)::r,k,h=>by
  obtain⟨c,d⟩:=KN h.2;refine⟨c,λq a=>?_⟩;rcases List.mem_cons.1 a with rfl|a
  .exact h.1
  .exact d q a
def Ea{c:Nat}{m g:E}:∀{L:List (Nat×List (Nat×Nat))}{k:Prop},CA c m g L k->k/\∀x∈L,Nat.testBit c x.1=false->∀q∈x.2,af g q.1 q.2=af m q.1 q.2
 |[],k,h=>⟨h,aH⟩
 |(r,l)::L,k,h=>by
  simp only[CA]at h;cases f:Nat.testBit c r
  .rw[f]at h;obtain⟨i,j⟩:=KN h;obtain⟨d,e⟩:=Ea i;refine⟨d,λx a b=>?_⟩;rcases List.mem_cons.1 a with rfl|a
   .exact j
   .exact e x a b
  .rw[f]at h;obtain⟨d,e⟩:=Ea h;refine⟨d,λx a b=>?_⟩;rcases List.mem_cons.1 a with rfl|a
   .rw[f]at b;cases b
   .exact e x a b
def ZB(L:List (Nat×List (Nat×Nat)))(b:List (Nat×(World->Prop))):Prop:=
 ∀x∈b,(∀w,x.2 w)\/∃(a:List (Nat×Nat))(c:Nat×Nat->Option Value),(x.1,a)∈L/\x.2=λw=>∀q∈a,af w.heap q.1 q.2=c q
end Go.Vc
end
section
namespace Go.Vc
variable{a:Program}{T:TT}{G:List Nat}{n:Nat}
def Ov(hT:tG a T)(hG:UE a G)(b:Array Oper)(U f:List Nat)(z:kK f b.toList U f=true)(ao:En b.toList U 0 b.toList f=true)
 {ag:Exit->Act->World->Prop}(hQ:∀N g w,¬ag (.panic N) g w){w0:World}{a0:Act}:
 ∀(F done:Nat)(D:Fr)(ac:E)(L:List (Nat×List (Nat×Nat)))(B:Fr->E->Prop)(M:List (Nat×(World->Prop)))(c:Array Bool)(g:Act)(w:World),
  nU a T G n b.toList U f F done D ac L B->ZB L M->Ns b.size done c->Gn (λi K=>Nat.testBit (tq f i) K) c->jM n D g->Bx n D ac->w.heap=ac->oK w0 w->
  lS (yF b.toList) a0 g->
  (∀s d k,B s k.heap->jM n s d->Bx n s k.heap->oK w0 k->lS (yF b.toList) a0 d->ag .normal d k)->
  uE a .any b ag (λi K=>Nat.testBit (tq f i) K) M F c g w:=by
 have H:UA .any b (λi K=>Nat.testBit (tq f i) K):=by
  intro i K o d p;have X:=(lz f z i o (by simpa using d)).2.1;simp only[X]at p;obtain⟨e,he,hb,h⟩:=xh f K _ p;exact⟨e,Array.mem_toList_iff.1 he,hb,h⟩
 have aF:=Iq f z
 have av:∀(j:Nat)(o:Oper) cs r,b[j]? =some o->o.op≠.select cs r:=by
  intro j o cs r d e;obtain⟨_,_,bj,ay⟩:=lz f z j o (by simpa using d);have:=(vK _ _ ao j o bj (by simpa using d) ay).1;rw[e]at this;simp[Xe]at this
 have am:∀{done:Nat}{c:Array Bool},Ns b.size done c->∀i,i∈Region.ready .any b c<->i∈oY done 0 b.toList U:=by
  intro done c hD i;rw[Hd b z hD i,Kv];constructor
  .rintro⟨o,R,d,O,p⟩;exact⟨i,o,R,V,by simpa using d,O,p⟩
  .rintro⟨j,o,R,e,d,O,p⟩;have:i=j:=V;subst this;exact⟨o,R,by simpa using d,O,p⟩
 have au:∀{done:Nat}{c:Array Bool},Ns b.size done c->oY done 0 b.toList U=[]->Region.ready .any b c=[]:=by
  intro done c hD h;apply List.eq_nil_iff_forall_not_mem.2;intro i m;rw[am hD i,h]at m;cases m
 intro F
 induction F with
 |zero=>
  intro done D ac L B M c g w h hL hD hC hR hB hw hs hk hq
  subst hw
  simp only[nU]at h
  split at h
  .rename_i h0
   exact⟨au hD h0,hq D g w h hR hB hs hk⟩
  .exact h.elim
 |succ F Q=>
  intro done D ac L B M c g w h hL hD hC hR hB hw hs hk hq
  subst hw
  simp only[nU]at h
  split at h
  · -- a reading is taken first
   rename_i i m
   obtain⟨j,o,R,e,d,O,p,aD⟩:=Ig done m
   have:i=j:=V
   subst this
   rw[oX,d]at h
   simp only at h
   have A:b[i]? =some o:=by simpa using d
   have aa:i<b.size:=(Array.getElem?_eq_some_iff.1 A).1
   have ab:i∈Region.ready .any b c:=(Hd b z hD i).2 ⟨o,R,A,O,p⟩
   cases hd:rC n o.dst
   .rw[hd]at h;exact h.elim
   .rw[hd]at h
    simp only[jq]at h
    have Y:=CS hd
    have Z:∀C,o.dst=some C->C∈yF b.toList:=λC ai=>Ku ai _ (iV d)
    have aq:∀j I,b[j]? =some I->j≠i->c.getD j true=false->(∀e∈I.after,Region.binds .any e=true->e.on≠i)->o.apart b I=true:=by
     intro j I al aA ar aB;have az:j<b.size:=(Array.getElem?_eq_some_iff.1 al).1;obtain⟨_,aE,bi,ap⟩:=lz f z i o d;rcases(vK _ _ ao i o bi d ap).2 with t|t
     .rw[aD]at t;cases t
     .have W:=(lz f z j I (by simpa using al)).1;have u:tq f i=bi:=by
       have:∀(l:List Nat)(i r:Nat),l[i]? =some r->tq l i=r:=by
        intro l;induction l with
        |nil=>intro i r h;simp at h
        |cons ad l Q=>intro i r h;cases i with
         |zero=>simpa[tq]using h
         |succ i=>simpa[tq]using Q i r (by simpa using h)
       exact this f i bi ap
      rcases Cn _ _ _ _ t j I _ (by simpa using al) W with e|e|e|e
      .exact absurd V aA
      .rw[bE]at e;obtain⟨q,y,hb,J⟩:=(mL i _).1 e;exact absurd J (aB q (Array.mem_toList_iff.1 y) hb)
      .rw[bE,<-u]at e;have:=wa H hC ab e;rw[hD.XW]at this;rw[hD.un az,this]at ar;cases ar
      .exact OQ b e
    rcases H4 b hR hB o h with⟨J,s,an,y,u⟩|⟨J,s,aj,y,u⟩
    .obtain⟨ad,aw,hx,hv,aC⟩:=KG (P:=a) hT y u o an
     let ax:World->Prop:=λk=>∀q∈Sr T s o.op,af k.heap q.1 q.2=af w.heap q.1 q.2
     refine Gk (S:=ax) H A av (λN g w hc=>absurd hc (hQ _ _ _)) F c g w hC aq ab (E:=aw) (Or.inl ⟨J,λk l=>aC k l⟩) (λq _=>rfl) ?_
     refine Q _ _ _ _ B _ _ _ w hx ?_ (hD.set aa) (hC.set H ab) (y.put hv Y) (u.put _ _) rfl hs (hk.trans (lS.put Z _ _)) hq
     intro W l
     rcases List.mem_cons.1 l with rfl|l
     .exact Or.inr ⟨_,λq=>af w.heap q.1 q.2,aX,rfl⟩
     .rcases hL W l with t|⟨As,N,X,h2⟩
      .exact Or.inl t
      .exact Or.inr ⟨As,N,ah _ X,h2⟩
    .refine Gk (S:=λ_=>True) H A av (λN g w hc=>absurd hc (hQ _ _ _)) F c g w hC aq ab (E:=undef) (Or.inr ⟨J,rfl⟩) trivial ?_
     refine Q _ _ _ _ B _ _ _ w aj ?_ (hD.set aa) (hC.set H ab) (y.put (x:=.un) rfl Y) (u.put _ _) rfl hs (hk.trans (lS.put Z _ _)) hq
     intro W l
     rcases List.mem_cons.1 l with rfl|l
     .exact Or.inl λ_=>trivial
     .exact hL W l
  .split at h
   .rename_i h0
    exact PN (au hD h0) (hq D g w h hR hB hs hk) _
   .rename_i rs ax
    have ar:=MD h
    refine QO ?_ ?_
    .intro e
     apply ax
     cases I:oY done 0 b.toList U with
     |nil=>rfl
     |cons ad xs=>
      have:ad∈Region.ready .any b c:=(am hD ad).2 (by rw[I];exact aX)
      rw[e]at this
      cases this
    .intro i m
     have I:=ar i ((am hD i).1 m)
     obtain⟨o,R,A,O,p⟩:=(Hd b z hD i).1 m
     have d:b.toList[i]? =some o:=by simpa using A
     have aa:i<b.size:=(Array.getElem?_eq_some_iff.1 A).1
     rw[oX,d]at I
     simp only at I
     cases hd:rC n o.dst
     .rw[hd]at I;exact I.elim
     .rw[hd]at I
      simp only[jq]at I
      have Y:=CS hd
      have Z:∀C,o.dst=some C->C∈yF b.toList:=λC ai=>Ku ai _ (iV d)
      unfold wpOp
      simp only[A]
      rcases H4 b hR hB o I with⟨J,s,an,y,u⟩|⟨J,s,aj,y,u⟩
      .rw[ak J]
       refine .inl (PO hT hG y u o an w rfl _ _ λaD ad aw k hx aq ap hv az=>?_)
       obtain⟨aA,aB⟩:=Ea hx
       refine⟨λW l aC ab=>?_,Q _ _ _ L B M _ _ k aA hL (hD.set aa) (hC.set H m) (aq.put hv Y) (ap.put _ _) rfl (hs.trans az) (hk.trans (lS.put Z _ _)) hq⟩
       rcases hL W l with t|⟨As,N,X,h2⟩
       .exact t k
       .rw[h2]at ab⊢
        intro q al
        rw[aB _ X aC q al,ab q al]
      .rw[ae (by rw[J];simp)]
       exact⟨λW l _ ab=>ab,Q _ _ _ L B M _ _ w aj hL (hD.set aa) (hC.set H m) (y.put (x:=.un) rfl Y) (u.put _ _) rfl hs (hk.trans (lS.put Z _ _)) hq⟩
end Go.Vc
end
section
namespace Go.Vc
variable{M:List Nat}{a:Act}{s:Sh}{y:s.ty}
variable{P:Program}{T:TT}{G:List Nat}{b:Nat}
structure Oz where
 TG:List (Nat×List (Nat×Sh))
 UY:List (Nat×List (Nat×Sh))
 fS:List (Nat×List Nat)
def lk{α:Type}:List (Nat×α)->Nat->Option α
 |[],_=>none
 |(u,x)::r,t=>bif Nat.beq u t then some x else lk r t
def Cs:Code->Option Nat
 | .region id _ _=>some id
 | .seq a b=>match Cs a with
  |some i=>some i
  |none=>Cs b
 | .cond _ a b=>match Cs a with
  |some i=>some i
  |none=>Cs b
 | .block _ c=>Cs c
 | .loop c=>Cs c
 | .scope c=>Cs c
 |_=>none
def V1{α:Type}(l:List (Nat×α))(c:Code):Option α:=
 match Cs c with
 |some i=>lk l i
 |none=>none
def Gu:List (Nat×Sh)->Type
 |[]=>E->Prop
 |(_,s)::r=>s.ty->Gu r
def Nx:List (Nat×Sh)->Type
 |[]=>E->Nat
 |(_,s)::r=>s.ty->Nx r
def Qn:(s:Sh)->SV->Option s.ty
 | .I,.c (.i b)=>some b
 | .U k,.c (.u c b)=>if k=c then some b else none
 | .T,.c (.t c)=>some c
 | .T,.tt=>some true
 | .T,.ff=>some false
 | .S,.c (.s x)=>some x
 | .P,.c (.p c o)=>some (c,o)
 | .P,.c (.bp _ c o)=>some (c,o)
 | .F,.c (.fn f a d)=>some (f,a,d)
 | .F,.c (.fv q)=>some q
 | .M,.c (.mp c)=>some c
 |_,_=>none
def Gx:(l:List (Nat×Sh))->Gu l->Fr->E->Prop
 |[],I,_,m=>I m
 |(t,s)::r,I,a,m=>match Qn s (gL a t)with
  |some x=>Gx r (I x) a m
  |none=>False
def ND:(l:List (Nat×Sh))->Gu l->Nx l->Fr->E->Nat->Prop
 |[],I,μ,_,m,N=>I m/\μ m<N
 |(t,s)::r,I,μ,a,m,N=>match Qn s (gL a t)with
  |some x=>ND r (I x) (μ x) a m N
  |none=>False
def ON:(l:List (Nat×Sh))->Gu l->Fr->(Fr->(E->Prop)->Prop)->Prop
 |[],I,a,k=>k a I
 |(t,s)::r,I,a,k=>∀x:s.ty,ON r (I x) ((t,.c (s.mk x))::a) k
def OO:(l:List (Nat×Sh))->Gu l->Nx l->Fr->(Fr->(E->Prop)->(E->Nat)->Prop)->Prop
 |[],I,μ,a,k=>k a I μ
 |(t,s)::r,I,μ,a,k=>∀x:s.ty,OO r (I x) (μ x) ((t,.c (s.mk x))::a) k
def mT:List Nat->Fr->Fr
 |[],a=>a
 |t::r,a=>(t,.iP)::mT r a
def nO:Code->List Nat
 | .region _ eC _=>yF eC.toList
 | .seq a b=>nO a++nO b
 | .cond _ a b=>nO a++nO b
 | .block _ c=>nO c
 | .loop c=>nO c
 |_=>[]
def pd(M:List Nat):List (Nat×Sh)->Bool
 |[]=>true
 |(t,_)::r=>uq t M&&pd M r
def Yl(x y:SV)(k:Prop):Prop:=x=y/\k
def aD(x:SV)(k:Prop):Yl x x k=k:=by simp[Yl]
def kJ(A:Oz)(c:Code):List Nat:=
 match V1 A.fS c with
 |some K=>K
 |none=>[]
def Co(b:Nat)(K:List Nat):Fr->List Nat
 |[]=>[]
 |(q,_)::r=>bif Nat.ble b q&&!uq q K then q::Co b K r else Co b K r
def tJ(b:Nat)(K:List Nat)(a:Fr):Fr:=mT (Co b K a) a
def Ux(a b:Fr):List Nat->Prop->Prop
 |[],k=>k
 |q::K,k=>Yl (gL b q) (gL a q) (Ux a b K k)
def KE(c:Fr):Op->Option SV
 | .move x| .assign x=>match ev c x with
  | .iP=>none
  |y=>some y
 | .binOp d _ x y _=>match ev c x,ev c y with
  | .c (.i a),.c (.i b)=>match d with
   | .eql=>some (.c (.t (a==b)))
   | .neq=>some (.c (.t (a !=b)))
   | .lss=>some (.c (.t (decide (a<b))))
   | .leq=>some (.c (.t (decide (a<=b))))
   | .gtr=>some (.c (.t (decide (a>b))))
   | .geq=>some (.c (.t (decide (a>=b))))
   |_=>none
  |_,_=>none
 |_=>none
def qy(b:Nat):List Oper->Fr->Option Fr
 |[],a=>some a
 |o::r,a=>bif rC b o.dst then
  match o.guard with
  |none=>match KE a o.op with
   |some x=>qy b r (tp a o.dst x)
   |none=>none
  |some _=>none
  else none
def V3(A:Oz)(b t:Nat):Code->Fr->Option Bool
 | .region _ eC false,d=>match qy b eC.toList d with
  |some a=>kP (gL a t)
  |none=>none
 | .seq (.region _ eC false) (.cond (.tmp u) .skip c),d=>
  match V1 A.UY (.cond (.tmp u) .skip c)with
  |some _=>none
  |none=>bif Nat.beq u t&&uq t (nO c)then
   match qy b eC.toList d with
   |some a=>match kP (gL a t),V3 A b t c a with
    |some x,some y=>some (x||y)
    |_,_=>none
   |none=>none
   else none
 |_,_=>none
def Yy(A:Oz)(b:Nat)(d:Operand)(a c:Code)(e:Fr):Option (Nat×Bool):=
 match d,a with
 | .tmp t,.skip=>bif uq t (nO c)then
  match V3 A b t c e with
  |some y=>some (t,y)
  |none=>none
  else none
 |_,_=>none
def tT(a:Fr)(c:Operand)(v:SV):Fr:=
 match c with
 | .tmp t=>(t,v)::a
 |_=>a
def Vi:List Oper->List Nat
 |[]=>[]
 |o::r=>kT o.after.toList::Vi r
def SZ:List Nat->List Oper->List Nat
 |a,[]=>a
 |a,o::r=>SZ (a++[ny a o.after.toList]) r
def pN:Code->Bool
 | .region _ eC b=>!b||(kK (SZ [] eC.toList) eC.toList (Vi eC.toList) (SZ [] eC.toList)&&En eC.toList (Vi eC.toList) 0 eC.toList (SZ [] eC.toList))
 | .seq a b=>pN a&&pN b
 | .cond _ a b=>pN a&&pN b
 | .block _ c=>pN c
 | .loop c=>pN c
 |_=>true
def vc(P:Program)(T:TT)(G:List Nat)(b:Nat)(A:Oz):Code->Fr->E->(Exit->Fr->E->Prop)->Prop
 | .skip,c,m,Q=>Q .normal c m
 | .region id eC d,c,m,Q=>
  bif d then nU P T G b eC.toList (Vi eC.toList) (SZ [] eC.toList) eC.toList.length 0 c m [] (λc m=>Q .normal c m)
  else rJ P T G b eC.toList eC.toList c m (λc m=>Q .normal c m)
 | .seq a g,c,m,Q=>match V1 A.UY g with
  |none=>vc P T G b A a c m λ
   | .normal,e,d=>vc P T G b A g e d Q
   |h,e,d=>Q h e d
  |some l=>bif pd (nO a) l then∃K:Gu l,(vc P T G b A a c m λ
   | .normal,e,d=>Ux c e (kJ A g) (Gx l K e d)
   |h,e,d=>Q h e d)/\
   (ON l K (mT (nO a) (tJ b (kJ A g) c)) λe f=>∀d,f d->vc P T G b A g e d Q)else False
 | .cond f a g,c,m,Q=>match ev c f with
  | .tt=>vc P T G b A a c m Q
  | .ff=>vc P T G b A g c m Q
  | .c (.t x)=>match Yy A b f a g c with
   |some (t,y)=>Q .normal ((t,.c (.t (x||y)))::mT (nO g) c) m
   |none=>(x=true->vc P T G b A a (tT c f .tt) m Q)/\(x=false->vc P T G b A g (tT c f .ff) m Q)
  |_=>False
 | .block id f,c,m,Q=>vc P T G b A f c m λ
  | .exit i,e,d=>bif Nat.beq i id then Q .normal e d else Q (.exit i) e d
  |h,e,d=>Q h e d
 | .loop f,c,m,Q=>match V1 A.TG f with
  |none=>False
  |some l=>bif pd (nO f) l then∃(I:Gu l)(μ:Nx l),Gx l I c m/\
   (OO l I μ (mT (nO f) (tJ b (kJ A f) c)) λe j μ'=>∀d,j d->vc P T G b A f e d λ
    | .normal,g,i=>Ux c g (kJ A f) (ND l I μ g i (μ' d))
    |h,g,i=>Q h g i)else False
 | .exit id,c,m,Q=>Q (.exit id) c m
 | .ret,c,m,Q=>Q .ret c m
 |_,_,_,_=>False
def lS.mono{b:List Nat}{c:Act}(h:lS M a c)(e:∀t∈M,t∈b):lS b a c:=λt f=>h t λd=>f (e t d)
def AI:∀(M:List Nat)(a:Fr)(t:Nat),(t∈M/\gL (mT M a) t=.iP)\/(t∉M/\gL (mT M a) t=gL a t)
 |[],_,_=>Or.inr ⟨aH,rfl⟩
 |u::M,a,t=>by
  simp only[mT,gL];cases d:Nat.beq u t
  .have f:u≠t:=λe=>by subst e;simp at d
   rcases AI M a t with⟨b,c⟩|⟨b,c⟩
   .exact Or.inl ⟨ah _ b,c⟩
   .exact Or.inr ⟨by simp only[aV,uH];exact⟨λe=>f e.symm,b⟩,c⟩
  .have:=bq d;subst this;exact Or.inl ⟨aX,rfl⟩
def yX{d:Fr}{c:Act}(g:jM b d a)(j:c.tmps.size=b)(hd:c.defers=[])(i:lS M a c):jM b (mT M d) c:=by
 refine⟨j,hd,λt=>?_⟩;rcases AI M d t with⟨_,h⟩|⟨e,f⟩
 .rw[h];trivial
 .rw[f,i t e];exact g.aO t
def jM.mT{c:Fr}{a:Act}(d:jM b c a):∀(M:List Nat),jM b (mT M c) a
 |[]=>d
 |t::M=>(jM.mT d M).iP t
def Bx.mT{a:Fr}{m:E}(h:Bx b a m):∀(M:List Nat),Bx b (mT M a) m
 |[]=>h
 |t::M=>(Bx.mT h M).iP aH
def MI{K:List Nat}{q:Nat}(d:b<=q)(c:q∉K):∀{a:Fr},q∈Co b K a\/gL a q=.iP
 |[]=>Or.inr rfl
 |(u,x)::r=>by
  simp only[Co,gL];cases i:Nat.beq u q
  .rcases MI d c (a:=r)with h|h
   .left;cases(Nat.ble b u&&!uq u K)
    .exact h
    .exact ah _ h
   .exact Or.inr h
  .have:=bq i;subst this;have f:uq u K=false:=by
    cases g:uq u K
    .rfl
    .exact absurd (GX g) c
   have e:Nat.ble b u=true:=Xz d;simp[f,e]
def J8{b c:Fr}:∀{K:List Nat}{k:Prop},Ux b c K k->(∀q∈K,gL c q=gL b q)/\k
 |[],k,h=>⟨aH,h⟩
 |q::K,k,h=>by
  obtain⟨d,e⟩:=J8 h.2;refine⟨λu a=>?_,e⟩;rcases List.mem_cons.1 a with rfl|a
  .exact h.1
  .exact d u a
def Bx.kJ{K:List Nat}{c j:Fr}{v p:E}(h:Bx b c v)(r:Bx b j p)(s:∀q∈K,gL j q=gL c q):Bx b (Vc.mT M (tJ b K c)) p:=by
 have i:∀{q d e l},lj (Vc.mT M (tJ b K c)) q d e l->lj c q d e l/\lj j q d e l:=by
  intro q d e l a;have f:gL (Vc.mT M (tJ b K c)) q=gL (tJ b K c) q\/gL (Vc.mT M (tJ b K c)) q=.iP:=by
   rcases AI M (tJ b K c) q with⟨_,h⟩|⟨_,h⟩
   .exact Or.inr h
   .exact Or.inl h
  unfold lj at a;rcases f with f|f
  .rw[f]at a;unfold tJ at a;rcases AI (Co b K c) c q with⟨_,g⟩|⟨k,g⟩
   .rw[g]at a;simp at a
   .rw[g]at a;have t:b<=q:=h.key q d e l a;by_cases o:q∈K
    .refine⟨a,?_⟩;unfold lj;rw[s q o];exact a
    .rcases MI (b:=b) t o (a:=c)with m|m
     .exact absurd m k
     .rw[m]at a;simp at a
  .rw[f]at a;simp at a
 exact⟨λq d e l a=>r.az q d e l (i a).2,λq w d e l m o u t k g=>h.NI q w d e l m o u t (i k).1 (i g).1,λq d e l a=>h.key q d e l (i a).1⟩
def RS{x:SV}(h:Qn s x=some y):x.js=true/\x.v=(s.mk y).v:=by
 unfold Qn at h;split at h<;>first|(simp at h;subst h;exact⟨rfl,rfl⟩)|skip
 .split at h
  .rename_i a;subst a;simp at h;subst h;exact⟨rfl,rfl⟩
  .simp at h
 .simp at h
def KK{d cG:Fr}{t:Nat}(g:jM b d a)(c:jM b cG a)(h:Qn s (gL d t)=some y):jM b ((t,.c (s.mk y))::cG) a:=by
 refine⟨c.size,c.defers,λu=>?_⟩;simp only[gL];cases i:Nat.beq t u
 .exact c.aO u
 .have:=bq i;subst this;have e:=g.aO t;obtain⟨j,k⟩:=RS h;have f:=e.eq j;show _=_;rw[f,k];rfl
def SD:(l:List (Nat×Sh))->Gu l->Nx l->Fr->Fr->(E->Prop)->(E->Nat)->Prop
 |[],I,μ,b,c,a,μ'=>c=b/\a=I/\μ'=μ
 |(t,s)::r,I,μ,b,c,a,μ'=>∃x:s.ty,SD r (I x) (μ x) ((t,.c (s.mk x))::b) c a μ'
def ME:∀{l:List (Nat×Sh)}{I:Gu l}{μ:Nx l}{b:Fr}{k:Fr->(E->Prop)->(E->Nat)->Prop},OO l I μ b k->∀{fr' I' μ'},SD l I μ b fr' I' μ'->k fr' I' μ'
 |[],_,_,_,_,h,_,_,_,a=>by obtain⟨rfl,rfl,rfl⟩:=a;exact h
 |(t,s)::r,_,_,_,_,h,_,_,_,a=>by obtain⟨x,a⟩:=a;exact ME (h x) a
def Sh.TP(s:Sh)(x:s.ty)(b e:Nat)(l:List Ce):SV.c (s.mk x)≠.box b e l/\SV.c (s.mk x)≠.yB b e l:=⟨aH,aH⟩
def MH{a:Act}{g:Fr}(i:jM b g a):∀{l:List (Nat×Sh)}{I:Gu l}{μ:Nx l}{cG:Fr}{m:E}{N:Nat},jM b cG a->Bx b cG m->ND l I μ g m N->
 ∃c d μ',SD l I μ cG c d μ'/\jM b c a/\Bx b c m/\d m/\μ' m<N
 |[],I,μ,cG,_,_,f,e,h=>⟨cG,I,μ,⟨rfl,rfl,rfl⟩,f,e,h.1,h.2⟩
 |(t,s)::r,I,μ,cG,m,N,f,e,h=>by
  simp only[ND]at h;split at h
  .rename_i x p;obtain⟨c,d,μ',j,k,n,o⟩:=MH i (KK i f p) (e.iP (s.TP x)) h;exact⟨c,d,μ',⟨x,j⟩,k,n,o⟩
  .exact h.elim
def MG{a:Act}{g:Fr}(i:jM b g a):∀{l:List (Nat×Sh)}{I:Gu l}{μ:Nx l}{cG:Fr}{m:E},jM b cG a->Bx b cG m->Gx l I g m->
 ∃c d μ',SD l I μ cG c d μ'/\jM b c a/\Bx b c m/\d m
 |[],I,μ,cG,_,f,e,h=>⟨cG,I,μ,⟨rfl,rfl,rfl⟩,f,e,h⟩
 |(t,s)::r,I,μ,cG,m,f,e,h=>by
  simp only[Gx]at h;split at h
  .rename_i x o;obtain⟨c,d,μ',j,k,n⟩:=MG i (KK i f o) (e.iP (s.TP x)) h;exact⟨c,d,μ',⟨x,j⟩,k,n⟩
  .exact h.elim
def OR{a:Act}{i:Fr}(j:jM b i a):∀{l:List (Nat×Sh)}{I:Gu l}{cG:Fr}{m:E}{k:Fr->(E->Prop)->Prop},jM b cG a->Bx b cG m->Gx l I i m->ON l I cG k->
 ∃c g,k c g/\jM b c a/\Bx b c m/\g m
 |[],I,cG,_,_,e,d,h,f=>⟨cG,I,f,e,d,h⟩
 |(t,s)::r,I,cG,m,k,e,d,h,f=>by
  simp only[Gx]at h;split at h
  .rename_i x n;exact OR j (KK j e n) (d.iP (s.TP x)) h (f x)
  .exact h.elim
def Sk{l:Code}{Q:Exit->Act->World->Prop}(b:Nat->Act->World->Prop)
 (r:∀N a w,b N a w->l.wp P (Exit.then (λg k=>∃d,d<N/\b d g k) Q) a w):∀N a w,b N a w->(Code.loop l).wp P Q a w:=by
 have q:∀N a w,b N a w->∃M,b M a w/\∀c,c<M->¬b c a w:=by
  intro N;induction N using Nat.strongRecOn with
  |_ N j=>
   intro a w h;by_cases e:∃c,c<N/\b c a w
   .obtain⟨c,f,i⟩:=e;exact j c f a w i
   .exact⟨N,h,λc i f=>e ⟨c,i,f⟩⟩
 intro N a w o
 classical
 let μ:Act->World->Nat:=λa w=>if h:∃M,b M a w/\∀c,c<M->¬b c a w then Classical.choose h else 0
 have hμ:∀a w N,b N a w->b (μ a w) a w/\μ a w<=N:=by
  intro a w N h;have e:=q N a w h;have i:μ a w=Classical.choose e:=Su e;have n:=fy e;rw[i];refine⟨n.1,?_⟩;rcases aU N (Classical.choose e)with j|p
  .exact absurd h (n.2 N j)
  .exact p
 refine wp_loop (λa w=>∃N,b N a w) μ ⟨N,o⟩ ?_
 rintro a w ⟨N,h⟩
 refine Code.wp_mono ?_ (r (μ a w) a w (hμ a w N h).1)
 intro i g k m
 cases i with
 |normal=>
  obtain⟨d,j,f⟩:=m
  exact⟨⟨d,f⟩,mW (hμ g k d f).2 j⟩
 |_=>exact m
end Go.Vc
end
section
namespace Go.Vc
variable{i w:World}{j p:List Nat}{l a:Act}{f:Exit->Fr->E->Prop}{e:Exit}{b:E}
variable{g:Program}{h:TT}{G:List Nat}{d:Nat}{o:Oz}
def jP(d:Nat)(i:World)(j:List Nat)(l:Act)(f:Exit->Fr->E->Prop):Exit->Act->World->Prop
 | .panic _,_,_=>False
 | .outgrown,_,_=>False
 |e,a,w=>∃b,jM d b a/\Bx d b w.heap/\oK i w/\lS j l a/\f e b w.heap
def jP.mk{b:Fr}(g:(∀c,e≠.panic c)/\e≠.outgrown)
 (k:jM d b a)(h:Bx d b w.heap)(o:oK i w)(m:lS j l a)(n:f e b w.heap):jP d i j l f e a w:=by
 cases e with
 |panic c=>exact absurd rfl (g.1 c)
 |outgrown=>exact absurd rfl g.2
 |_=>exact⟨b,k,h,o,m,n⟩
def jP.bB(h:jP d i j l f e a w):
 ((∀c,e≠.panic c)/\e≠.outgrown)/\∃b,jM d b a/\Bx d b w.heap/\oK i w/\lS j l a/\f e b w.heap:=by
 cases e with
 |panic c=>exact h.elim
 |outgrown=>exact h.elim
 |_=>exact⟨⟨aH,aH⟩,h⟩
def jP.left(h:jP d i j l f e a w):jP d i (j++p) l f e a w:=by
 obtain⟨g,q,c,b,n,k,m⟩:=h.bB;exact jP.mk g c b n (k.mono (λt o=>bu _ o)) m
def jP.right(h:jP d i j l f e a w):jP d i (p++j) l f e a w:=by
 obtain⟨g,q,c,b,n,k,m⟩:=h.bB;exact jP.mk g c b n (k.mono (λt o=>dv _ o)) m
def Sa{f:Fr}{e:Op}{x:SV}{k:SV->Prop}(c:KE f e=some x)(d:k x):Kp e=false/\rd h f b k e:=by
 unfold KE at c;split at c
 .split at c
  .simp at c
  .simp at c;subst c;exact⟨rfl,d⟩
 .split at c
  .simp at c
  .simp at c;subst c;exact⟨rfl,d⟩
 .rename_i o t y z l;split at c
  .rename_i a j g i;refine⟨rfl,?_⟩;simp only[rd,g,i];split at c<;>simp at c<;>subst c<;>exact d
  .simp at c
 .simp at c
def Dc(j:List Oper){b:E}{i:Fr->E->Prop}:∀{eC:List Oper}{c e:Fr},qy d eC c=some e->i e b->rJ g h G d j eC c b i
 |[],c,e,a,f=>by simp[qy]at a;subst a;exact f
 |o::r,c,e,a,f=>by
  simp only[qy]at a;simp only[rJ];cases hd:rC d o.dst
  .rw[hd]at a;simp at a
  .rw[hd]at a;simp only[jq]at a⊢;cases l:o.guard with
   |some n=>rw[l]at a;simp at a
   |none=>
    rw[l]at a;simp only[gd]at a⊢;split at a
    .rename_i x q;obtain⟨n,p⟩:=Sa (h:=h) (b:=b) (k:=λx=>rJ g h G d j r (tp c o.dst x) b i) q (Dc j a f);rw[n];exact p
    .simp at a
def TX(p:Nat){b:E}{f:Exit->Fr->E->Prop}:∀(k:Code)(n:Fr)(y:Bool),V3 o d p k n=some y->(∀i,kP (gL i p)=some y->f .normal i b)->vc g h G d o k n b f
 | .region id eC e,n,y,a,m=>by
  cases e
  .simp only[V3]at a;simp only[vc,lV];split at a
   .rename_i i q;exact Dc _ q (m i a)
   .simp at a
  .simp[V3]at a
 | .seq (.region id eC false) (.cond (.tmp u) .skip k),n,y,a,m=>by
  simp only[V3]at a;split at a
  .simp at a
  .rename_i w;cases l:(Nat.beq u p&&uq p (nO k))
   .rw[l]at a;simp at a
   .rw[l]at a;simp only[jq]at a;simp only[bI]at l;have z:=bq l.1;subst z;split at a
    .rename_i i q;split at a
     .rename_i B A e r;simp at a;subst a;rw[vc,w];simp only;rw[vc];simp only[lV];refine Dc _ q ?_;rw[vc];have x:ev i (.tmp u)=(gL i u).nb:=rfl;rw[x];cases j:gL i u with
      |tt=>
       rw[j]at e;simp[kP]at e;subst e;simp only[SV.nb,vc];exact m i (by rw[j];simp[kP])
      |ff=>
       rw[j]at e;simp[kP]at e;subst e;simp only[SV.nb];exact TX u k i A r (λs v=>m s (by simpa using v))
      |c s=>
       cases s with
       |t v=>
        rw[j]at e;simp[kP]at e;subst e;simp only[SV.nb,Yy,l.2,jq,r];exact m _ (by simp[gL,kP])
       |_=>rw[j]at e;simp[kP]at e
      |_=>rw[j]at e;simp[kP]at e
     .simp at a
    .simp at a
def Uk(hT:tG g h)(hG:UE g G)(au:g.follows .mixedOrders=true)(i:World):∀(D:Code),pN D=true->∀(l:Fr)(b:E)(f:Exit->Fr->E->Prop)(a:Act)(w:World),
 vc g h G d o D l b f->jM d l a->Bx d l b->w.heap=b->oK i w->D.wp g (jP d i (nO D) a f) a w:=by
 intro D
 induction D with
 |skip=>
  intro hd l b f a w c k s x t
  subst x
  exact wp_skip ⟨l,k,s,t,lS.aF _ _,c⟩
 |region id eC q=>
  intro hd l b f a w c k s x t
  simp only[vc]at c
  cases q
  .simp only[lV]at c
   refine wp_region_list ?_
   exact uf hT hG eC eC.toList l b (f .normal) a w (λ_ c=>c) c k s x t (lS.aF _ _) λB I S j r v u p=>⟨B,r,v,u,p,j⟩
  .simp only[jq]at c
   simp only[pN,Nm,VA,bI]at hd
   refine wp_region_any au (Lz (d:=λy z=>Nat.testBit (tq (SZ [] eC.toList) y) z) (L:=[]) _ _ _ _ ?_)
   have z:eC.toList.length=eC.size:=aH
   rw[z]at c
   refine Ov hT hG eC _ _ hd.1 hd.2 (λD a w hx=>hx) (w0:=i) (a0:=a) eC.size 0 l b [] (f .normal) [] _ a _ c (λC hx=>by cases hx) ⟨aH,λy=>by simp[Vz];split<;>rfl⟩ (λy hi=>by simp[Vz]at hi;split at hi<;>simp at hi) k s x ⟨t.os,t.tape,t.output⟩ (lS.aF _ _) λB I S j r v u p=>⟨B,r,v,u,p,j⟩
 |seq C U ac X=>
  intro hd l b f a w c k s x t
  simp only[vc]at c
  simp only[pN,bI]at hd
  refine wp_seq ?_
  split at c
  .refine Code.wp_mono ?_ (ac hd.1 l b _ a w c k s x t)
   intro e I S j
   obtain⟨p,B,r,v,u,z,j⟩:=j.bB
   cases e with
   |normal=>
    refine Code.wp_mono ?_ (X hd.2 B _ f I S j r v rfl u)
    intro e R aa j
    obtain⟨p,V,J,F,O,K,j⟩:=j.bB
    exact jP.mk p J F O ((z.mono (λH q=>bu _ q)).trans (K.mono (λH q=>dv _ q))) j
   |panic D=>exact absurd rfl (p.1 D)
   |outgrown=>exact absurd rfl p.2
   |exit y=>exact jP.mk (e:=.exit y) p r v u (z.mono (λH q=>bu _ q)) j
   |goto y=>exact jP.mk (e:=.goto y) p r v u (z.mono (λH q=>bu _ q)) j
   |ret=>exact jP.mk (e:=.ret) p r v u (z.mono (λH q=>bu _ q)) j
  .rename_i N hl
   cases ab:pd (nO C) N
   .rw[ab]at c;exact c.elim
   rw[ab]at c
   obtain⟨ad,h1,W⟩:=c
   refine Code.wp_mono ?_ (ac hd.1 l b _ a w h1 k s x t)
   intro e I S j
   obtain⟨p,B,r,v,u,z,j⟩:=j.bB
   cases e with
   |normal=>
    obtain⟨af,j⟩:=J8 j
    obtain⟨ag,K',h3,Y,Z,h5⟩:=OR r (yX (k.mT _) r.size r.defers z) (Bx.kJ s v af) j W
    refine Code.wp_mono ?_ (X hd.2 ag _ f I S (h3 _ h5) Y Z rfl u)
    intro e R aa j
    obtain⟨p,V,J,F,O,K,j⟩:=j.bB
    exact jP.mk p J F O ((z.mono (λH q=>bu _ q)).trans (K.mono (λH q=>dv _ q))) j
   |panic D=>exact absurd rfl (p.1 D)
   |outgrown=>exact absurd rfl p.2
   |exit y=>exact jP.mk (e:=.exit y) p r v u (z.mono (λH q=>bu _ q)) j
   |goto y=>exact jP.mk (e:=.goto y) p r v u (z.mono (λH q=>bu _ q)) j
   |ret=>exact jP.mk (e:=.ret) p r v u (z.mono (λH q=>bu _ q)) j
 |cond ad C U ac X=>
  intro hd l b f a w c k s x t
  simp only[vc]at c
  simp only[pN,bI]at hd
  have aj:∀{K:Bool},a.eval ad=.bool K->jM d (tT l ad (if K then .tt else .ff)) a:=by
   intro K F;unfold tT;split
   .rename_i H;refine⟨k.size,k.defers,λR=>?_⟩;simp only[gL];cases Y:Nat.beq H R
    .exact k.aO R
    .have:=bq Y;subst this;cases K<;>exact F
   .exact k
  have al:∀{C:SV},(∀K e N,C≠.box K e N/\C≠.yB K e N)->Bx d (tT l ad C) b:=by
   intro C hx;unfold tT;split
   .exact s.iP hx
   .exact s
  split at c
  .rename_i Z
   exact wp_cond_true (k.eq Z rfl) (Code.wp_mono (λ_ _ _ c=>c.left) (ac hd.1 l b f a w c k s x t))
  .rename_i Z
   exact wp_cond_false (k.eq Z rfl) (Code.wp_mono (λ_ _ _ c=>c.right) (X hd.2 l b f a w c k s x t))
  .rename_i K Z
   have aa:a.eval ad=.bool K:=k.eq Z rfl
   split at c
   .rename_i H y' J
    unfold Yy at J
    split at J
    .rename_i O
     cases ai:uq O (nO U)
     .rw[ai]at J;simp at J
     .rw[ai]at J
      simp only[jq]at J
      split at J
      .rename_i y0 ao
       simp at J
       obtain⟨rfl,rfl⟩:=J
       have an:a.tmps.getD O undef=.bool K:=aa
       refine wp_cond_split aa (λq=>?_) (λq=>?_)
       .subst x
        subst q
        refine wp_skip (jP.mk (e:=.normal) (b:=(O,.c (.t (true||y0)))::mT (nO U) l) ⟨aH,aH⟩ ?_ ((s.mT _).iP aH) t (lS.aF _ _) c)
        have F:=yX (M:=nO U) k k.size k.defers (lS.aF _ a)
        refine⟨F.size,F.defers,λR=>?_⟩
        simp only[gL]
        cases Y:Nat.beq O R
        .exact F.aO R
        .have:=bq Y
         subst this
         simpa[SV.Is,SV.v,Ce.v]using an
       .subst q
        have hv:=TX (g:=g) (h:=h) (G:=G) (o:=o) (d:=d) O (b:=b) (f:=λe B V=>e=.normal/\V=b/\kP (gL B O)=some y0) U l y0 ao (λB V=>⟨rfl,rfl,V⟩)
        refine Code.wp_mono ?_ (X hd.2 l b _ a w hv k s x t)
        intro e I S j
        obtain⟨p,B,r,v,u,z,rfl,ah,am⟩:=j.bB
        refine jP.mk (e:=.normal) (b:=(O,.c (.t (false||y0)))::mT (nO U) l) p ?_ (by rw[ah];exact(s.mT _).iP aH) u (z.mono (λH q=>dv _ q)) (by rw[ah];exact c)
        have F:=yX (M:=nO U) k r.size r.defers z
        refine⟨F.size,F.defers,λR=>?_⟩
        simp only[gL]
        cases Y:Nat.beq O R
        .exact F.aO R
        .have:=bq Y
         subst this
         obtain⟨V,W⟩:=vL am
         have h3:=(r.aO O).eq V
         rw[W]at h3
         simpa[SV.Is,SV.v,Ce.v]using h3
      .simp at J
    .simp at J
   .refine wp_cond_split aa (λq=>?_) (λq=>?_)
    .subst q
     exact Code.wp_mono (λ_ _ _ c=>c.left) (ac hd.1 _ b f a w (c.1 rfl) (aj aa) (al aH) x t)
    .subst q
     exact Code.wp_mono (λ_ _ _ c=>c.right) (X hd.2 _ b f a w (c.2 rfl) (aj aa) (al aH) x t)
  .exact c.elim
 |block id C J=>
  intro hd l b f a w c k s x t
  simp only[vc]at c
  refine wp_block (Code.wp_mono ?_ (J hd l b _ a w c k s x t))
  intro e I S j
  obtain⟨p,B,r,v,u,z,j⟩:=j.bB
  cases e with
  |exit y=>
   simp only[Exit.inBlock]
   simp only at j
   cases F:Nat.beq y id
   .rw[F]at j
    have q:y≠id:=λe=>by subst e;simp at F
    rw[ae q]
    exact jP.mk (e:=.exit y) p r v u z j
   .rw[F]at j
    rw[ak (bq F)]
    exact jP.mk (e:=.normal) ⟨aH,aH⟩ r v u z j
  |normal=>exact jP.mk (e:=.normal) p r v u z j
  |panic D=>exact absurd rfl (p.1 D)
  |outgrown=>exact absurd rfl p.2
  |goto y=>exact jP.mk (e:=.goto y) p r v u z j
  |ret=>exact jP.mk (e:=.ret) p r v u z j
 |loop C J=>
  intro hd l b f a w c k s x t
  subst x
  simp only[vc]at c
  split at c
  .exact c.elim
  .rename_i N hl
   cases ab:pd (nO C) N
   .rw[ab]at c;exact c.elim
   rw[ab]at c
   obtain⟨O,μ,h0,h1⟩:=c
   let Y:Nat->Act->World->Prop:=λK I w=>∃B H μ',SD N O μ (mT (nO C) (tJ d (kJ o C) l)) B H μ'/\jM d B I/\Bx d B w.heap/\H w.heap/\μ' w.heap=K/\oK i w/\lS (nO C) a I
   obtain⟨aa,R,μ1,ap,am,ad,aj⟩:=MG (μ:=μ) k (yX (k.mT _) k.size k.defers (lS.aF (nO C) a)) (Bx.kJ s s (λ_ _=>rfl)) h0
   refine Sk Y ?_ (μ1 w.heap) a w ⟨aa,R,μ1,ap,am,ad,aj,rfl,t,lS.aF _ _⟩
   rintro K Z w ⟨B,H,μ',hi,r,v,ai,rfl,u,V⟩
   have ao:=ME h1 hi w.heap ai
   refine Code.wp_mono ?_ (J hd B w.heap _ Z w ao r v rfl u)
   intro e I S j
   obtain⟨p,ag,q,z,F,W,j⟩:=j.bB
   cases e with
   |normal=>
    obtain⟨af,j⟩:=J8 j
    obtain⟨ac,X,μ3,aq,an,ah,al,ar⟩:=MH q (yX (k.mT _) q.size q.defers (V.trans W)) (Bx.kJ s z af) j
    exact⟨_,ar,ac,X,μ3,aq,an,ah,al,rfl,F,V.trans W⟩
   |panic D=>exact absurd rfl (p.1 D)
   |outgrown=>exact absurd rfl p.2
   |exit y=>exact jP.mk (e:=.exit y) p q z F (V.trans W) j
   |goto y=>exact jP.mk (e:=.goto y) p q z F (V.trans W) j
   |ret=>exact jP.mk (e:=.ret) p q z F (V.trans W) j
 |exit id=>
  intro hd l b f a w c k s x t
  subst x
  exact wp_exit ⟨l,k,s,t,lS.aF _ _,c⟩
 |ret=>
  intro hd l b f a w c k s x t
  subst x
  exact wp_ret ⟨l,k,s,t,lS.aF _ _,c⟩
 |rangeFunc j k C U _ _=>intro _ l b f a w c;exact c.elim
 |scope C _=>intro _ l b f a w c;exact c.elim
 |label N=>intro _ l b f a w c;exact c.elim
 |goto N=>intro _ l b f a w c;exact c.elim
 |refuse s=>intro _ l b f a w c;exact c.elim
def tI:Nat->List SV->Fr
 |_,[]=>[]
 |i,x::r=>(i,x)::tI (i+1) r
def Fb(h:TT)(a:Fr)(b:E):List ResultVar->(List SV->Prop)->Prop
 |[],k=>k []
 | .tmp t::r,k=>bif (gL a t).js then Fb h a b r λl=>k (gL a t::l)else False
 | .cell p t::r,k=>rd h a b (λx=>bif x.js then Fb h a b r λl=>k (x::l)else False) (.load t (.tmp p))
def Xd(h:TT)(c:List ResultVar)(a:Fr)(b:E)(R:Value->E->Prop):Prop:=
 Fb h a b c λ
  |[x]=>R x.v b
  |l=>R (.tuple (l.map SV.v).toArray) b
def Sj(g:Program)(h:TT)(G:List Nat)(o:Oz)(d:Nat)(c:List ResultVar)(f:Code)(e:List SV)(b:E)(R:Value->E->Prop):Prop:=
 vc g h G d o f (tI 0 e) b λ
  | .normal,a,b=>Xd h c a b R
  | .ret,a,b=>Xd h c a b R
  |_,_,_=>False
def Gy:∀(a:List SV)(i t:Nat),(t<i/\gL (tI i a) t=.iP)\/(i<=t/\gL (tI i a) t=a.getD (t -i) .iP)
 |[],i,t=>by
  rcases aU t i with h|h
  .exact Or.inl ⟨h,rfl⟩
  .exact Or.inr ⟨h,by simp[tI,gL]⟩
 |x::r,i,t=>by
  simp only[tI,gL];cases c:Nat.beq i t
  .have f:i≠t:=λe=>by subst e;simp at c
   rcases Gy r (i+1) t with⟨d,b⟩|⟨d,b⟩
   .exact Or.inl ⟨V,b⟩
   .refine Or.inr ⟨V,?_⟩;have e:t -i=(t -(i+1))+1:=V;rw[e,List.getD_cons_succ];exact b
  .have:=bq c;subst this;exact Or.inr ⟨ad _,aH⟩
def KL(a:Array Value):ResultVar->Sem Value
 | .tmp t=>pure (a.getD t undef)
 | .cell p t=>do loadVar t (<-asAddr (a.getD p undef))
def QE(b:Func)(c:Array Value):results b c=(do
 let a<-b.results.mapM (KL c)
 pure (if h:a.size=1 then a[0]else .tuple a)):=by
 unfold results
 congr 2
def He{i:Fr}{a:Act}(v:tG g h)(f:jM d i a):∀(D:List ResultVar)(k:List SV->Prop)(w:World),Bx d i w.heap->Fb h i w.heap D k->
 ∃p,k p/\(D.mapM (KL a.tmps)).run g w=.ok (p.map SV.v) w
 |[],k,w,_,b=>⟨[],b,aH⟩
 | .tmp t::A,k,w,j,b=>by
  simp only[Fb]at b;cases c:(gL i t).js
  .rw[c]at b;exact b.elim
  .rw[c]at b;obtain⟨p,s,u⟩:=He v f A _ w j b;refine⟨_,s,?_⟩;have z:=(f.aO t).eq c;have r:KL a.tmps (.tmp t)=pure (a.tmps.getD t undef):=rfl;simp only[Up,Sem.run_bind,Sem.run_pure,Result.andThen_ok,u,cA,z,r]
 | .cell q t::A,k,w,j,m=>by
  obtain⟨E,B,n,z,b⟩:=KG (P:=g) v f j ⟨none,.load t (.tmp q),0,"",#[],none⟩ m;have b:=b w (λC _=>rfl);cases x:E.js
  .rw[x]at n;exact n.elim
  rw[x]at n;obtain⟨p,s,u⟩:=He v f A _ w j n;refine⟨_,s,?_⟩;have G:∃c o,a.tmps.getD q undef=.pointer (some ⟨c,o,none⟩):=by
   have l:=SV.TQ (f.aO q);simp only[Fb,rd,ev]at m;split at m
   .rename_i c o y;rw[y]at l;exact⟨c,o,l⟩
   .rename_i C c o y;rw[y]at l;exact⟨c,o,l⟩
   .exact m.elim
  obtain⟨c,o,y⟩:=G;simp only[execOp,Instr.loadAt,Act.eval,y,Instr.sureAddr,Sem.run_bind,Sem.run_pure,Result.andThen_ok]at b;have F:(loadVar t ⟨c,o,none⟩).run g w=.ok B w:=by
   cases C:(loadVar t ⟨c,o,none⟩).run g w with
   |ok I H=>
    rw[C]at b;simp at b;rw[b.1,b.2]
   |halt e H=>rw[C]at b;simp at b
  have H:B=E.v:=z.eq x;have r:(KL a.tmps (.cell q t)).run g w=.ok B w:=by
   simp only[KL,y,Sem.run_bind,asAddr,Sem.run_pure,Result.andThen_ok,F]
  simp only[Up,Sem.run_bind,Sem.run_pure,Result.andThen_ok,r,u,cA,H]
def Ed(z:tG g h)(K:UE g G)(O:g.follows .mixedOrders=true){y:FuncId}{i:Func}{m:Code}{r:List ResultVar}{a:List SV}{R:Value->E->Prop}
 (N:g.funcs[y]? =some i)(M:i.body=some m)(P:i.ntmps=d)(S:i.results=r.toArray)(A:a.all SV.js=true)(X:a.length<=d)(hd:pN m=true)
 (j:Sj g h G o d r m a b R):aN g y (a.map SV.v) b R:=by
 intro w U
 refine calls_of_wp N M ?_
 have L:jM d (tI 0 a) {tmps:=(a.map SV.v).toArray++Array.replicate (i.ntmps -(a.map SV.v).toArray.size) undef,defers:=[]}:=by
  refine⟨by simp[P];omega,rfl,λt=>?_⟩;rcases Gy a 0 t with⟨n,_⟩|⟨_,p⟩
  .omega
  .rw[p,Xk];rcases aU t a.length with k|s
   .have u:(a[t]).js=true:=List.all_eq_true.1 A _ (List.getElem_mem k);have c:a.getD t .iP=a[t]:=by simp[k]
    rw[c];have f:((a.map SV.v).toArray++Array.replicate (i.ntmps -(a.map SV.v).toArray.size) undef).getD t undef=(a[t]).v:=by
     simp[Array.getElem?_append,k]
    rw[f];exact nh _
   .have c:a.getD t .iP=.iP:=by simp[bT s]
    rw[c];trivial
 have v:∀{q x e l},¬lj (tI 0 a) q x e l:=by
  intro q x e l f;rcases Gy a 0 q with⟨n,_⟩|⟨_,p⟩
  .omega
  .unfold lj at f;rw[p,Xk]at f;rcases aU q a.length with k|s
   .have u:(a[q]).js=true:=List.all_eq_true.1 A _ (List.getElem_mem k);have c:a.getD q .iP=a[q]:=by simp[k]
    rw[c]at f;rcases f with f|f<;>rw[f]at u<;>simp[SV.js]at u
   .have c:a.getD q .iP=.iP:=by simp[bT s]
    rw[c]at f;simp at f
 have I:Bx d (tI 0 a) b:=⟨λ_ _ _ _ j=>absurd j v,λ_ _ _ _ _ _ _ _ _ j=>absurd j v,λ_ _ _ _ j=>absurd j v⟩
 refine Code.wp_mono ?_ (Uk z K O w m hd _ b _ _ w j L I U (oK.aF w))
 intro e s k c
 obtain⟨B,H,u,J,T,W,c⟩:=c.bB
 have C:∀(c:Xd h r H k.heap R),s.defers=[]/\∃D,(results i s.tmps).run g k=.ok D k/\∃F,Ending.returned D=.returned F/\oK w k/\R F k.heap:=by
  intro c;refine⟨u.defers,?_⟩;obtain⟨l,n,p⟩:=He z u r _ k J c;have Q:(results i s.tmps).run g k=.ok (if j:(l.map SV.v).toArray.size=1 then(l.map SV.v).toArray[0]else .tuple (l.map SV.v).toArray) k:=by
   rw[QE,S,Uz];simp only[Sem.run_bind,Sem.run_map];rw[p];rfl
  refine⟨_,Q,_,rfl,T,?_⟩;cases l with
  |nil=>exact n
  |cons V l=>cases l with
   |nil=>exact n
   |cons Y l=>exact n
 cases e with
 |normal=>exact C c
 |ret=>exact C c
 |exit V=>exact c.elim
 |goto V=>exact c.elim
 |panic m=>exact absurd rfl (B.1 m)
 |outgrown=>exact absurd rfl B.2
end Go.Vc
end
section
namespace Go.Vc
abbrev vi(n:Int):Value:=.int .i64 n
abbrev vb(b:Bool):Value:=.bool b
abbrev vp(b o:Nat):Value:=.pointer (some ⟨b,o,none⟩)
def P6(f:Func):Code:=
 match f.body with
 |some c=>c
 |none=>.skip
end Go.Vc
end
section
namespace Go.Vc
variable{a p:Prop}{m c d:E}{b o k f n:Nat}{v:Value}{l:List Nat}{s:O}{P:Program}{K e:Value->E->Prop}
structure J(m c:E):Prop where
 size:m.size<=c.size
 same:∀b,b<m.size->c[b]? =m[b]?
def J.aF(m:E):J m m:=⟨ad _,λ_ _=>rfl⟩
def J.trans{a b c:E}(h:J a b)(k:J b c):J a c:=
 ⟨bH h.size k.size,λi d=>(k.same i (aJ d h.size)).trans (h.same i d)⟩
def J.push(m:E)(o:Obj):J m (m.push o):=
 ⟨aH,λb a=>by rw[xr,ae V]⟩
def J.aP{a:E}(h:J a m)(o:Obj):J a (m.push o):=h.trans (J.push m o)
def J.ai{a:E}(h:J a m)(d:a.size<=b)(o:Nat)(l:List Ce):J a (ai m b o l):=
 ⟨by rw[aA];exact h.size,λj c=>by rw[bd l m b o V];exact h.same j c⟩
def J.af(h:J m c)(a:af m b o=some v):af c b o=some v:=by
 rw[aK (h.same b (lH a))];exact a
def J.jC(h:J m c){l:List Ce}(e:gP m b o l):gP c b o l:=λi a d=>h.af (e i a d)
def cz.ext(h:J m c){e:Nat}{l:List Ce}(a:cz m b e l):cz c b e l:=by
 unfold cz at*;rw[h.same b (Array.getElem?_eq_some_iff.1 a).1];exact a
structure eN{α:Type}(m:E)(sz:Nat)(R:List Ce->α->Prop)(s:O)(l:List α):Prop where
 len:s.len=l.length
 cap:s.len<=s.cap
 fu:s.len<=9223372036854775807
 jC:∀(k:Nat)(x:α),l[k]? =some x->∃cs,R cs x/\gP m s.az (s.off+k*sz) cs
def eN.mono{α:Type}{d:Nat}{R b:List Ce->α->Prop}{l:List α}(h:eN m d R s l)(j:J m c)(g:∀a x,R a x->b a x):eN c d b s l:=
 ⟨h.len,h.cap,h.fu,λk x i=>let⟨a,e,f⟩:=h.jC k x i;⟨a,g _ _ e,j.jC f⟩⟩
def UF(a:List Ce)(n:Int):Prop:=a=[.i n]
abbrev ap(m:E)(s:O)(l:List Int):Prop:=eN m 1 UF s l
def ap.aO{l:List Int}(h:ap m s l){x:Int}(a:l[k]? =some x):af m s.az (s.off+k*1)=some (vi x):=by
 obtain⟨c,rfl,b⟩:=h.jC k x a;exact b 0 (.i x) rfl
def ap.ext(a:J m c){l:List Int}(h:ap m s l):ap c s l:=h.mono a λ_ _ h=>h
def dI{α:Type}{l:List α}(h:k<l.length):∃x,l[k]? =some x:=⟨l[k],by simp[h]⟩
def cg{α:Type}(l:List α)(k:Nat)(h:k<l.length:=by(omega)):∃x,l[k]? =some x:=dI h
def oh(x:a)(h:a->p:=by(omega)):p:=h x
def Pk{b:Prop}(x:a)(y:b)(h:a->b->p:=by(omega)):p:=h x y
def sx(h:a=False:=by(simp))(x:a):p:=(h▸x:False).elim
def ax{α:Type}{l:List α}{x:α}(h:l[k]? =some x):k<l.length:=(List.getElem?_eq_some_iff.1 h).1
def bC{α:Type}{l:List α}{x:α}(h:l[k]? =some x):l.take (k+1)=l.take k++[x]:=by
 rw[List.take_add_one,h];rfl
def cy{α:Type}{l:List α}(h:l.length<=k):l.take k=l:=dk h
def LI(P:Program)(f:Nat)(a:List Value)(m:E)(v:Value):Prop:=aN P f a m λb c=>b=v/\J m c
def aN.post{a:List Value}(h:aN P f a m K)(b:∀v c,K v c->e v c):aN P f a m e:=h.mono b
def LI.then{a:List Value}(h:LI P f a m v)(d:∀c,J m c->K v c):aN P f a m K:=
 h.mono λ_ _⟨b,e⟩=>b▸d _ e
def O.IE{t:O}:s.v=t.v<->s=t:=by
 refine⟨λh=>?_,λh=>h▸rfl⟩;cases s<;>cases t<;>simp_all [O.v]
def J.da(h:J m c)(d:∀b∈l,b<m.size):eG l m c:=λb a=>h.same b (d b a)
def J.lt(h:J m c)(a:b<m.size):b<c.size:=aJ a h.size
def J.dA(h:J m c)(a:Vc.af m b o=some v):Vc.af c b o=Vc.af m b o:=by rw[h.af a,a]
def km(h:k<n)(a:n<=9223372036854775807):cQ ((k:Int)+1)=((k+1:Nat):Int):=by rw[aQ V V];rfl
def Cu(h:k<n):((n:Int) -((k+1:Nat):Int)).toNat<((n:Int) -(k:Int)).toNat:=V
def dZ(g:n<=9223372036854775807){d:(Int->E->Prop)->(Int->E->Nat)->Int->E->Prop}(Q:Nat->E->Prop)(e:Q 0 m)
 (h:∀(k:Nat)(a:E)(I:Int->E->Prop)(μ:Int->E->Nat),k<=n->Q k a->
  (k<n->∀c,Q (k+1) c->I (cQ ((k:Int)+1)) c/\μ (cQ ((k:Int)+1)) c<μ k a)->d I μ k a):
 ∃(I:Int->E->Prop)(μ:Int->E->Nat),I 0 m/\∀i a,I i a->d I μ i a:=by
 refine⟨λi c=>∃k:Nat,i=k/\k<=n/\Q k c,λi _=>(n -i).toNat,⟨0,rfl,dE _,e⟩,?_⟩
 rintro i a ⟨k,rfl,f,j⟩
 refine h k a _ _ f j λb c l=>?_
 rw[km b g]
 exact⟨⟨k+1,rfl,b,l⟩,Cu b⟩
def dx{σ:Type}(l:n<=9223372036854775807){f:σ}{e:(σ->Int->E->Prop)->(σ->Int->E->Nat)->σ->Int->E->Prop}(Q:Nat->σ->E->Prop)(g:Q 0 f m)
 (h:∀(k:Nat)(s:σ)(a:E)(I:σ->Int->E->Prop)(μ:σ->Int->E->Nat),k<=n->Q k s a->
  (k<n->∀b c,Q (k+1) b c->I b (cQ ((k:Int)+1)) c/\μ b (cQ ((k:Int)+1)) c<μ s k a)->e I μ s k a):
 ∃(I:σ->Int->E->Prop)(μ:σ->Int->E->Nat),I f 0 m/\∀s i a,I s i a->e I μ s i a:=by
 refine⟨λs i c=>∃k:Nat,i=k/\k<=n/\Q k s c,λ_ i _=>(n -i).toNat,⟨0,rfl,dE _,g⟩,?_⟩
 rintro s i a ⟨k,rfl,j,o⟩
 refine h k s a _ _ j o λd b c p=>?_
 rw[km d l]
 exact⟨⟨k+1,rfl,d,p⟩,Cu d⟩
def dz(P:Program)(f:Nat)(a:List Value)(m:E)(p:Prop):Prop:=aN P f a m λv c=>∃b:Bool,v=.bool b/\(b=true<->p)/\J m c
def dz.then{a:List Value}(h:dz P f a m p)(g:∀(b:Bool) c,(b=true<->p)->J m c->K (.bool b) c):aN P f a m K:=
 h.mono λ_ _⟨b,e,d,i⟩=>e▸g b _ d i
def dz.aI{e:List Value}(i:dz P f e m p)(g:J d m)(q:∀b∈l,b<d.size)
 (o:∀(b:Bool) c,(b=true<->p)->J m c->J d c->K (.bool b) c):aN P f e m λv c=>eG l m c/\K v c:=
 i.mono λ_ _⟨b,n,j,a⟩=>⟨a.da λh k=>g.lt (q h k),n▸o b _ j a (g.trans a)⟩
def LI.aI{e:List Value}(i:LI P f e m v)(g:J d m)(o:∀b∈l,b<d.size)
 (n:∀c,J m c->J d c->K v c):aN P f e m λv c=>eG l m c/\K v c:=
 i.mono λ_ _⟨k,a⟩=>⟨a.da λh j=>g.lt (o h j),k▸n _ a (g.trans a)⟩
def aN.aI{a:List Value}(j:aN P f a m K)(o:J d m)(n:∀b∈l,b<d.size)
 (g:∀v c,K v c->J m c/\e v c):aN P f a m λv c=>eG l m c/\e v c:=
 j.mono λv c h=>⟨(g v c h).1.da λi k=>o.lt (n i k),(g v c h).2⟩
def fU{b:Bool}(h:b=true<->p)(d:J m c):∃a:Bool,Value.bool b=.bool a/\(a=true<->p)/\J m c:=⟨b,rfl,h,d⟩
def cr(h:¬p)(b:J m c):∃a:Bool,Value.bool false=.bool a/\(a=true<->p)/\J m c:=⟨false,rfl,by simp[h],b⟩
def jr(h:p)(b:J m c):∃a:Bool,Value.bool true=.bool a/\(a=true<->p)/\J m c:=⟨true,rfl,by simp[h],b⟩
def nb{b:Bool}(a:b=true<->p)(h:(!b)=true):¬p:=λc=>by simp[a.2 c]at h
def yb{b:Bool}(a:b=true<->p)(h:(!b)=false):p:=a.1 (by simpa using h)
def fb{b:Bool}(a:b=true<->p)(h:b=false):¬p:=λc=>by simp[a.2 c]at h
def bM{α:Type}{l:List α}{x:α}{p:α->Prop}(c:l[k]? =some x)(h:∀y∈l.take k,p y)(b:p x):∀y∈l.take (k+1),p y:=by
 rw[bC c];intro y a;rcases List.mem_append.1 a with a|a
 .exact h y a
 .simp at a;subst a;exact b
def cU{α:Type}{l:List α}{p:α->Prop}(a:l.length<=k)(h:∀y∈l.take k,p y):∀y∈l,p y:=by rw[<-cy a];exact h
def aq{α:Type}{l:List α}{x:α}(h:l[k]? =some x):x∈l:=iV h
end Go.Vc
end
section
namespace Go.Vc
variable{m:E}{s:O}{k:Nat}
structure bo where
 tj:Int
 to:Int
 cons:List (List Int)
structure Instr where
 op:Int
 dst:Int
 bK:Int
 bW:Int
 args:List Int
 di:List Int
structure cZ where
 params:List Int
 df:List Int
 aR:Int
 av:Int
 bn:List Instr
structure cp where
 bt:List bo
 cv:List cZ
def mf(m:E)(a:List Ce)(c:List Int):Prop:=∃f,a=[.s f]/\ap m f c
def ij(m:E)(a:List Ce)(d:bo):Prop:=∃f,a=[.i d.tj,.i d.to,.s f]/\eN m 1 (mf m) f d.cons
def dG(m:E)(b:List Ce)(x:Instr):Prop:=∃a j,b=[.i x.op,.i x.dst,.i x.bK,.i x.bW,.s a,.s j]/\ap m a x.args/\ap m j x.di
def kN(m:E)(b:List Ce)(p:cZ):Prop:=
 ∃a l c,b=[.s a,.s l,.i p.aR,.i p.av,.s c]/\ap m a p.params/\ap m l p.df/\eN m 6 (dG m) c p.bn
abbrev oF(m:E)(s:O)(l:List (List Int)):Prop:=eN m 1 (mf m) s l
abbrev bX(m:E)(s:O)(l:List bo):Prop:=eN m 3 (ij m) s l
abbrev eu(m:E)(s:O)(l:List Instr):Prop:=eN m 6 (dG m) s l
abbrev gK(m:E)(s:O)(l:List cZ):Prop:=eN m 5 (kN m) s l
structure eX(m:E)(d p:O)(im:cp):Prop where
 bt:bX m d im.bt
 cv:gK m p im.cv
def mf.ext{m b:E}(g:J m b)(a:List Ce)(c:List Int):mf m a c->mf b a c:=λ⟨f,d,e⟩=>⟨f,d,e.ext g⟩
def oF.ext{m b:E}(a:J m b){s:O}{l:List (List Int)}(h:oF m s l):oF b s l:=h.mono a (mf.ext a)
def ij.ext{m b:E}(g:J m b)(a:List Ce)(c:bo):ij m a c->ij b a c:=λ⟨f,d,e⟩=>⟨f,d,oF.ext g e⟩
def bX.ext{m b:E}(a:J m b){s:O}{l:List bo}(h:bX m s l):bX b s l:=h.mono a (ij.ext a)
def dG.ext{m d:E}(b:J m d)(a:List Ce)(c:Instr):dG m a c->dG d a c:=λ⟨e,j,f,g,h⟩=>⟨e,j,f,g.ext b,h.ext b⟩
def eu.ext{m b:E}(a:J m b){s:O}{l:List Instr}(h:eu m s l):eu b s l:=h.mono a (dG.ext a)
def kN.ext{m d:E}(a:J m d)(b:List Ce)(c:cZ):kN m b c->kN d b c:=λ⟨e,l,c,f,g,h,i⟩=>⟨e,l,c,f,g.ext a,h.ext a,eu.ext a i⟩
def gK.ext{m b:E}(a:J m b){s:O}{l:List cZ}(h:gK m s l):gK b s l:=h.mono a (kN.ext a)
def eX.ext{m c:E}(a:J m c){d p:O}{b:cp}(h:eX m d p b):eX c d p b:=⟨bX.ext a h.bt,gK.ext a h.cv⟩
def oF.aO{l:List (List Int)}(h:oF m s l){x:List Int}(b:l[k]? =some x):
 ∃f,ap m f x/\af m s.az (s.off+k*1)=some (O.v f):=by
 obtain⟨d,⟨f,rfl,a⟩,c⟩:=h.jC k x b
 exact⟨f,a,c 0 (.s f) rfl⟩
def bX.aO{l:List bo}(h:bX m s l){x:bo}(c:l[k]? =some x):
 ∃f,oF m f x.cons/\af m s.az (s.off+k*3)=some (vi x.tj)/\af m s.az (s.off+k*3+1)=some (vi x.to)/\af m s.az (s.off+k*3+2)=some (O.v f):=by
 obtain⟨d,⟨f,rfl,b⟩,a⟩:=h.jC k x c
 exact⟨f,b,a 0 (.i x.tj) rfl,a 1 (.i x.to) rfl,a 2 (.s f) rfl⟩
def eu.aO{l:List Instr}(h:eu m s l){x:Instr}(e:l[k]? =some x):
 ∃b j,ap m b x.args/\ap m j x.di/\af m s.az (s.off+k*6)=some (vi x.op)/\af m s.az (s.off+k*6+1)=some (vi x.dst)/\af m s.az (s.off+k*6+2)=some (vi x.bK)/\
  af m s.az (s.off+k*6+3)=some (vi x.bW)/\af m s.az (s.off+k*6+4)=some (O.v b)/\af m s.az (s.off+k*6+5)=some (O.v j):=by
 obtain⟨f,⟨b,j,rfl,c,d⟩,a⟩:=h.jC k x e
 exact⟨b,j,c,d,a 0 (.i x.op) rfl,a 1 (.i x.dst) rfl,a 2 (.i x.bK) rfl,a 3 (.i x.bW) rfl,a 4 (.s b) rfl,a 5 (.s j) rfl⟩
def gK.aO{l:List cZ}(h:gK m s l){x:cZ}(i:l[k]? =some x):
 ∃a b c,ap m a x.params/\ap m b x.df/\eu m c x.bn/\af m s.az (s.off+k*5)=some (O.v a)/\af m s.az (s.off+k*5+1)=some (O.v b)/\af m s.az (s.off+k*5+2)=some (vi x.aR)/\
  af m s.az (s.off+k*5+3)=some (vi x.av)/\af m s.az (s.off+k*5+4)=some (O.v c):=by
 obtain⟨j,⟨a,b,c,rfl,e,f,g⟩,d⟩:=h.jC k x i
 exact⟨a,b,c,e,f,g,d 0 (.s a) rfl,d 1 (.s b) rfl,d 2 (.i x.aR) rfl,d 3 (.i x.av) rfl,d 4 (.s c) rfl⟩
end Go.Vc
end
section
namespace Go.Vc
variable{g a:E}{f:Nat}{s:O}{l:List Ce}{d:List (List Ce)}
structure fZ(g a:E)(f sz:Nat)(s:O)(l:List Ce):Prop where
 len:l.length=s.len*sz
 aO:s=.nil\/∃b c tail,s=.mk b 0 s.len c/\g.size<=b/\cz a b f (l++tail)/\(l++tail).length=c*sz/\s.len<=c
def fZ.nil(g a:E)(f b:Nat):fZ g a f b .nil []:=⟨aH,Or.inl rfl⟩
def fZ.new(h:J g a)(f c:Nat)(l:List Ce)(k:Nat)(b:l.length=k*c):fZ g (a.push (.cells (bD l) f)) f c (.mk a.size 0 k k) l:=
 ⟨b,Or.inr ⟨a.size,k,[],rfl,h.size,by rw[dD];exact cz.push _ _ _,by simpa using b,ad _⟩⟩
def fZ.congr{g a d:E}{f e:Nat}{s:O}{l:List Ce}(h:fZ g a f e s l)(c:d[s.az]? =a[s.az]?):fZ g d f e s l:=by
 refine⟨h.len,?_⟩;rcases h.aO with b|⟨i,j,tail,b,h2,h3,h4,h5⟩
 .exact Or.inl b
 .refine Or.inr ⟨i,j,tail,b,h2,h3.congr ?_,h4,h5⟩;rw[b]at c;exact c
def fZ.lt{g a:E}{f c:Nat}{s:O}{l:List Ce}(h:fZ g a f c s l):s=.nil\/s.az<a.size:=by
 rcases h.aO with b|⟨d,e,tail,b,h2,h3,h4,h5⟩
 .exact Or.inl b
 .rw[b];exact Or.inr h3.lt
def fZ.ext{c:E}{d:Nat}(h:fZ g a f d s l)(e:J a c):fZ g c f d s l:=by
 rcases h.lt with b|b
 .subst b;exact⟨h.len,Or.inl rfl⟩
 .exact h.congr (e.same _ b)
def fZ.cG{c:E}{d:Nat}(h:fZ c a f d s l)(j:g.size<=c.size):fZ g a f d s l:=by
 refine⟨h.len,?_⟩;rcases h.aO with b|⟨e,i,tail,b,h2,h3,h4,h5⟩
 .exact Or.inl b
 .exact Or.inr ⟨e,i,tail,b,bH j h2,h3,h4,h5⟩
def fZ.az{c:Nat}(h:fZ g a f c s l):s=.nil\/g.size<=s.az:=by
 rcases h.aO with b|⟨d,e,tail,b,h2,h3,h4,h5⟩
 .exact Or.inl b
 .rw[b];exact Or.inr h2
def gP.N4{b o:Nat}{r:List Ce}(h:gP a b o (l++r)):gP a b o l:=λi d c=>h i d (by rw[aw (ax c)];exact c)
def fZ.jC{g a:E}{f e:Nat}{s:O}{l:List Ce}(h:fZ g a f e s l):gP a s.az s.off l:=by
 rcases h.aO with b|⟨i,c,tail,b,h2,h3,h4,h5⟩
 .have:l=[]:=List.length_eq_zero_iff.1 (by rw[h.len,b];simp);subst this;intro j c d;simp at d
 .rw[b];exact h3.jC.N4
def AQ(l a tail:List Ce)(h:a.length<=tail.length):iO (l++tail) l.length a=l++a++tail.drop a.length:=by
 apply eL;intro i;rw[kV];simp only[aT];by_cases b:l.length<=i/\i<l.length+a.length/\i<l.length+tail.length
 .rw[ak b,eZ,aG b.1,aw V]
 .rw[ae b];by_cases c:i<l.length
  .rw[aw c,eZ,aw c]
  .rw[aG V,eZ,aG V,aG V,ry];congr 1;omega
def fZ.append{zs:List Ce}{v:Nat}{x:O}{d:List Ce}{K:O->E->Prop}(j:fZ g a f zs.length s l)(p:J g a)
 (q:d.length=x.len*zs.length)(F:gP a x.az x.off d)(t:(s.len+x.len)*v<=140737488355328)
 (u:∀k n,fZ g n f zs.length k (l++d)->J g n->k.len=s.len+x.len->a.size<=n.size->(∀c,c<a.size->(s≠.nil->c≠s.az)->n[c]? =a[c]?)->((s=.nil/\k=.nil)\/(s≠.nil/\k.az=s.az/\k≠.nil)\/k.az=a.size)->K k n):
 jb a f zs v s x K:=by
 refine⟨d,q,F,λC=>?_,λI=>⟨t,l,j.len,j.jC,λi y=>?_⟩⟩
 .rcases j.aO with h|⟨c,i,tail,h,h2,h3,h4,h5⟩
  .subst h
   have w:x.len=0:=by simpa using C
   have A:d=[]:=List.length_eq_zero_iff.1 (by rw[q,w];simp)
   subst A
   refine⟨λB z=>by simp at z,?_⟩
   exact u .nil _ ⟨by rw[dD];exact j.len,Or.inl rfl⟩ (by simpa[ai]using p) (by simp[w]) (pC (aA _ _ _ _).symm) (λc t _=>by simp[ai]) (Or.inl ⟨rfl,rfl⟩)
  .have z:=j.len
   have H:s.cap=i:=by rw[h];rfl
   rw[h]
   simp only[O.fG,O.iY,O.dS,bE]
   simp only[aT]at h4
   have B:d.length<=tail.length:=by
    have A:(s.len+x.len)*zs.length<=i*zs.length:=dq _ V;rw[fY]at A;omega
   refine⟨h3.fg (by simp only[aT];omega),?_⟩
   have w:=cz.ai (m:=a) (b:=c) (e:=f) (r:=d) (o:=s.len*zs.length) h3
   rw[<-z,AQ l d tail B]at w
   refine u _ _ ⟨?_,Or.inr ⟨c,i,tail.drop d.length,rfl,h2,?_,?_,?_⟩⟩ (p.ai h2 _ _) aH (pC (aA _ _ _ _).symm) (λG _ D=>bd _ _ _ _ ?_) (Or.inr (Or.inl ⟨by rw[h];simp,by rw[h];rfl,aH⟩))
   .simp only[aT,O.dS,fY];omega
   .rw[<-z];exact w
   .simp only[aT,List.length_drop];omega
   .simp only[O.dS];omega
   .have:=D (by rw[h];simp)
    rw[h]at this;exact this
 .refine u _ _ ⟨?_,Or.inr ⟨a.size,i,me zs (i -(s.len+x.len)),rfl,p.size,cz.push _ _ _,?_,by simpa using y⟩⟩ (p.aP _) aH aH (λc t _=>by rw[xr,ae V]) (Or.inr (Or.inr rfl))
  .simp only[aT,O.dS,fY,j.len,q]
  .simp only[aT,mF,j.len,q]
   rw[Nat.sub_mul,<-fY]
   have:(s.len+x.len)*zs.length<=i*zs.length:=dq _ y
   omega
def ap.fP{l:List Int}(h:fZ g a f 1 s (l.map Ce.i))(n:l.length<=9223372036854775807):ap a s l:=by
 have i:s.len=l.length:=by have:=h.len;simp at this;omega
 refine⟨i,?_,V,λk x e=>⟨[.i x],rfl,λj d c=>?_⟩⟩
 .rcases h.aO with b|⟨m,d,tail,b,h2,h3,h4,h5⟩
  .rw[b];exact ad _
  .rw[b];exact h5
 .have b:j=0:=by have:=ax c;simp at this;omega
  subst b;simp at c;subst c;have:=h.jC k (.i x) (by simp[e]);simpa using this
def iJ{g:Nat}:∀{d:List (List Ce)}(_:∀a∈d,a.length=g){b:Nat}{a:List Ce}(_:d[b]? =some a){i:Nat}{c:Ce}(_:a[i]? =some c),d.flatten[b*g+i]? =some c
 |[],_,b,a,h,_,_,_=>by simp at h
 |x::d,f,0,a,h,i,c,e=>by
  simp at h;subst h;rw[ji,PW,bE,aw (ax e)];exact e
 |x::d,f,b+1,a,h,i,c,e=>by
  have k:x.length=g:=f x aX;rw[ji,aG (by rw[k,fY];omega)];have:=iJ (d:=d) (λy l=>f y (ah _ l)) (b:=b) (by simpa using h) e;rw[<-this];congr 1;rw[k,fY];omega
def dp{b:Nat}:∀{d:List (List Ce)},(∀a∈d,a.length=b)->d.flatten.length=d.length*b
 |[],_=>aH
 |x::d,a=>by
  rw[ji,aT,dp (λy c=>a y (ah _ c)),a x aX,aW,fY];omega
structure gT{α:Type}(sz:Nat)(R:List Ce->α->Prop)(d:List (List Ce))(l:List α):Prop where
 len:d.length=l.length
 size:∀cs∈d,cs.length=sz
 de:∀(j:Nat)(cs:List Ce)(x:α),d[j]? =some cs->l[j]? =some x->R cs x
def gT.nil{α:Type}(a:Nat)(R:List Ce->α->Prop):gT a R [] []:=⟨rfl,aH,aH⟩
def gT.y9{α:Type}{f:Nat}{R:List Ce->α->Prop}{l:List α}(h:gT f R d l){cs:List Ce}{x:α}(i:cs.length=f)(k:R cs x):gT f R (d++[cs]) (l++[x]):=by
 refine⟨by simp[h.len],λe a=>?_,λj e y a b=>?_⟩
 .rcases List.mem_append.1 a with a|a
  .exact h.size e a
  .simp at a;subst a;exact i
 .rcases aU j d.length with c|c
  .rw[aw c]at a;rw[aw (h.len▸c)]at b;exact h.de j e y a b
  .rw[aG c]at a;rw[aG (by rw[<-h.len];exact c),<-h.len]at b;have g:j -d.length=0:=by have:=ax a;simp at this;omega
   rw[g]at a b;simp at a b;subst a;subst b;exact k
def gT.mono{α:Type}{c:Nat}{R b:List Ce->α->Prop}{l:List α}(h:gT c R d l)(g:∀a x,R a x->b a x):gT c b d l:=
 ⟨h.len,h.size,λj a x e f=>g _ _ (h.de j a x e f)⟩
def eN.fP{α:Type}{e:Nat}{R:List Ce->α->Prop}{l:List α}(h:fZ g a f e s d.flatten)(c:gT e R d l)(q:0<e)(t:l.length<=9223372036854775807):eN a e R s l:=by
 have p:s.len=l.length:=by
  have b:=h.len;rw[dp c.size]at b;have:=Uq q b;rw[<-this,c.len]
 refine⟨p,?_,V,λk x n=>?_⟩
 .rcases h.aO with b|⟨j,i,tail,b,h2,h3,h4,h5⟩
  .rw[b];exact ad _
  .rw[b];exact h5
 .let⟨j,m⟩:=cg d k (by rw[c.len];exact ax n);refine⟨j,c.de k j x m n,λr i o=>?_⟩;have:=h.jC (k*e+r) i (iJ c.size m o);rwa[<-dR]at this
end Go.Vc
end
section
namespace Go.Vc
variable{S c:List Nat}{m a d:E}{b o e:Nat}{l:List Ce}{s:O}
def bG(S:List Nat)(m:E):E:=m.mapIdx λb o=>if b∈S then .cells #[] 0 else o
def Le(M a:E):Prop:=∀b o v,af M b o=some v->af a b o=some v
def dY{v:Value}:af (bG S m) b o=some v<->b∉S/\af m b o=some v:=by
 unfold af bG;rw[Xw];cases h:m[b]? with
 |none=>simp
 |some x=>by_cases a:b∈S<;>simp[a]
def Le.aF(m:E):Le m m:=λ_ _ _ h=>h
def Le.trans{a b c:E}(h:Le a b)(k:Le b c):Le a c:=λx o v d=>k x o v (h x o v d)
def J.le(h:J m a):Le m a:=λ_ _ _ b=>h.af b
def bz(S:List Nat)(m:E):Le (bG S m) m:=λ_ _ _ h=>(dY.1 h).2
def oR(h:∀b,b<m.size->b∉S->b∉c/\a[b]? =m[b]?):Le (bG S m) (bG c a):=λb o v i=>by
 let⟨e,d⟩:=dY.1 i;let⟨f,g⟩:=h b (lH d) e;exact dY.2 ⟨f,by rw[aK g];exact d⟩
def J.bG(h:J m a)(d:∀b∈c,b∈S\/m.size<=b):Le (bG S m) (bG c a):=
 oR λb e g=>⟨λf=>(d b f).elim g λh=>V,h.same b e⟩
def J.cR(h:J m a)(S:List Nat):Le (Vc.bG S m) (Vc.bG S a):=h.bG λ_ b=>Or.inl b
def gN(m:E)(a:∀b∈c,b∈S):Le (bG S m) (bG c m):=(J.aF m).bG λb d=>Or.inl (a b d)
def Le.jC{M a:E}(h:Le M a)(e:gP M b o l):gP a b o l:=λi c d=>h _ _ _ (e i c d)
def eN.le{α:Type}{d:Nat}{R c:List Ce->α->Prop}{l:List α}(h:eN m d R s l)(j:Le m a)(g:∀b x,R b x->c b x):eN a d c s l:=
 ⟨h.len,h.cap,h.fu,λk x i=>let⟨b,e,f⟩:=h.jC k x i;⟨b,g _ _ e,j.jC f⟩⟩
def ap.le{m a:E}(b:Le m a){s:O}{l:List Int}(h:ap m s l):ap a s l:=eN.le h b λ_ _ h=>h
def mf.le{m a:E}(g:Le m a)(b:List Ce)(c:List Int):mf m b c->mf a b c:=λ⟨f,d,e⟩=>⟨f,d,e.le g⟩
def ij.le{m a:E}(d:Le m a)(b:List Ce)(c:bo):ij m b c->ij a b c:=λ⟨f,e,g⟩=>⟨f,e,eN.le g d (mf.le d)⟩
def bX.le{m a:E}(b:Le m a){s:O}{l:List bo}(h:bX m s l):bX a s l:=eN.le h b (ij.le b)
def JD(a:b∉S)(h:gP m b o l):gP (bG S m) b o l:=λi c d=>dY.2 ⟨a,h i c d⟩
def eN.N3{α:Type}{a:Nat}{R:List Ce->α->Prop}{c:List (List Ce)}{l:List α}(o:∀b∈S,b<d.size)(h:fZ d m e a s c.flatten)(q:gT a R c l)(r:0<a)(p:l.length<=9223372036854775807):eN (bG S m) a R s l:=by
 have H:=eN.fP h q r p;refine⟨H.len,H.cap,H.fu,λt x i=>?_⟩;let⟨j,k,n⟩:=H.jC t x i;rcases h.az with f|f
 .have g:=H.len;have:=ax i;rw[f]at g;simp at g;omega
 .exact⟨j,k,JD (λg=>oh (o _ g)) n⟩
def ap.N3{l:List Int}(k:∀b∈S,b<d.size)(h:fZ d m e 1 s (l.map Ce.i))(n:l.length<=9223372036854775807):ap (bG S m) s l:=by
 have H:=ap.fP h n;refine⟨H.len,H.cap,H.fu,λo x f=>?_⟩;let⟨g,i,j⟩:=H.jC o x f;rcases h.az with a|a
 .have c:=H.len;have:=ax f;rw[a]at c;simp at c;omega
 .exact⟨g,i,JD (λc=>oh (k _ c)) j⟩
end Go.Vc
end
section
namespace Go.Vc
variable{X Y S:List Nat}{a b c m d:E}{f:List Ce}{s:O}{k:Nat}
structure Fz(X:List Nat)(m d:E):Prop where
 size:m.size<=d.size
 same:∀b,b<m.size->b∉X->d[b]? =m[b]?
def Fz.aF(X:List Nat)(m:E):Fz X m m:=⟨ad _,λ_ _ _=>rfl⟩
def Fz.rq(h:Fz X a b)(k:Fz Y b c)(g:∀y∈Y,y∈X\/a.size<=y):Fz X a c:=
 ⟨bH h.size k.size,λi d e=>(k.same i (aJ d h.size) λf=>(g i f).elim e λh=>V).trans (h.same i d e)⟩
def Fz.trans(h:Fz X a b)(k:Fz X b c):Fz X a c:=h.rq k λ_ d=>Or.inl d
def J.fz(h:J m d)(X:List Nat):Fz X m d:=⟨h.size,λb a _=>h.same b a⟩
def Fz.then(h:Fz X a b)(k:J b c):Fz X a c:=h.trans (k.fz X)
def Fz.push{X:List Nat}{a m:E}(h:Fz X a m)(o:Obj):Fz X a (m.push o):=h.then (J.push m o)
def Fz.ext(h:Fz [] m d):J m d:=⟨h.size,λb a=>h.same b a aH⟩
def Fz.CG(h:Fz X m d)(f:∀b∈X,b∈Y\/m.size<=b):Fz Y m d:=⟨h.size,λb a e=>h.same b a λc=>(f b c).elim e λh=>V⟩
def Fz.ai(h:Fz X a m){b:Nat}(c:b∈X\/a.size<=b)(o:Nat)(l:List Ce):Fz X a (ai m b o l):=
 ⟨by rw[aA];exact h.size,λj f d=>by
  have e:j≠b:=λe=>by subst e;exact c.elim d λc=>V
  rw[bd l m b o e];exact h.same j f d⟩
def Fz.bG(h:Fz X m d){a:List Nat}(f:∀b∈X,b∈S)(e:∀b∈a,b∈S\/m.size<=b):Le (bG S m) (bG a d):=
 oR λb g c=>⟨λi=>(e b i).elim c λh=>V,h.same b g λj=>c (f b j)⟩
def Fz.cR(h:Fz X m d)(a:∀b∈X,b∈S):Le (Vc.bG S m) (Vc.bG S d):=h.bG a λ_ h=>Or.inl h
def Fz.da(h:Fz X m d){l:List Nat}(c:∀b∈l,b<m.size/\b∉X):eG l m d:=λb a=>h.same b (c b a).1 (c b a).2
inductive Ex where
 |mk (op bK:Int) (bF:List Ex)
def Ex.op:Ex->Int| .mk o _ _=>o
def Ex.bK:Ex->Int| .mk _ n _=>n
def Ex.bF:Ex->List Ex| .mk _ _ k=>k
structure LJ(β:Type)where
 op:Int
 bK:Int
 bW:Int
 args:List Int
 bF:List β
inductive Bk where
 |mk (aC:List (LJ Bk)) (aR:Int)
abbrev cE:=LJ Bk
def Bk.aC:Bk->List cE| .mk s _=>s
def Bk.aR:Bk->Int| .mk _ r=>r
@[simp] theorem Ex.V2 (o n:Int) (k:List Ex):(Ex.mk o n k).op=o:=rfl
@[simp] theorem Ex.TU (o n:Int) (k:List Ex):(Ex.mk o n k).bK=n:=rfl
@[simp] theorem Ex.Ri (o n:Int) (k:List Ex):(Ex.mk o n k).bF=k:=rfl
@[simp] theorem Bk.jG (s:List cE) (r:Int):(Bk.mk s r).aC=s:=rfl
@[simp] theorem Bk.iZ (s:List cE) (r:Int):(Bk.mk s r).aR=r:=rfl
inductive AB(m:E):List Ce->Ex->Prop
 |mk (op bK:Int) (bF:List Ex) (s:O) (css:Nat->List Ce) (hl:s.len=bF.length) (hc:s.len<=s.cap) (hm:s.len<=9223372036854775807)
  (hr:∀(k:Nat)(x:Ex),bF[k]? =some x->gP m s.az (s.off+k*3) (css k)) (hk:∀(k:Nat)(x:Ex),bF[k]? =some x->AB m (css k) x):AB m [.i op,.i bK,.s s] (.mk op bK bF)
inductive qT(m:E):List Ce->Bk->Prop
 |mk (aC:List (LJ Bk)) (r:Int) (s:O) (hl:s.len=aC.length) (hc:s.len<=s.cap) (hm:s.len<=9223372036854775807) (aa ks:Nat->O) (kcs:Nat->Nat->List Ce)
  (hr:∀(k:Nat)(x:LJ Bk),aC[k]? =some x->gP m s.az (s.off+k*5) [.i x.op,.i x.bK,.i x.bW,.s (aa k),.s (ks k)]/\ap m (aa k) x.args/\(ks k).len=x.bF.length/\(ks k).len<=(ks k).cap/\(ks k).len<=9223372036854775807)
  (hb:∀(k:Nat)(x:LJ Bk)(j:Nat)(b:Bk),aC[k]? =some x->x.bF[j]? =some b->gP m (ks k).az ((ks k).off+j*2) (kcs k j))
  (hk:∀(k:Nat)(x:LJ Bk)(j:Nat)(b:Bk),aC[k]? =some x->x.bF[j]? =some b->qT m (kcs k j) b):qT m [.s s,.i r] (.mk aC r)
def fO(m:E)(f:List Ce)(x:cE):Prop:=∃a k,f=[.i x.op,.i x.bK,.i x.bW,.s a,.s k]/\ap m a x.args/\eN m 2 (qT m) k x.bF
abbrev fm(m:E)(s:O)(l:List Ex):Prop:=eN m 3 (AB m) s l
abbrev eH(m:E)(s:O)(l:List cE):Prop:=eN m 5 (fO m) s l
abbrev mX(m:E)(s:O)(l:List Bk):Prop:=eN m 2 (qT m) s l
def AB.le(h:Le m d){e:Ex}(a:AB m f e):AB d f e:=by
 induction a with
 |mk n bK bF s b g c i a o l=>exact .mk n bK bF s b g c i (λk x j=>h.jC (a k x j)) l
def qT.le{m d:E}(h:Le m d){f:List Ce}{b:Bk}(a:qT m f b):qT d f b:=by
 induction a with
 |mk aC t s o n p e ks r a l u q=>
  exact .mk aC t s o n p e ks r (λk x c=>let⟨g,i,j⟩:=a k x c;⟨h.jC g,i.le h,j⟩) (λk x j b c g=>h.jC (l k x j b c g)) q
def eN.choose{α:Type}{m:E}{a:Nat}{R:List Ce->α->Prop}{s:O}{l:List α}(h:eN m a R s l):
 ∃b:Nat->List Ce,∀(k:Nat)(x:α),l[k]? =some x->R (b k) x/\gP m s.az (s.off+k*a) (b k):=by
 have:∀k:Nat,∃f:List Ce,∀x:α,l[k]? =some x->R f x/\gP m s.az (s.off+k*a) f:=λk=>by
  cases e:l[k]? with
  |none=>exact⟨[],λx c=>by simp at c⟩
  |some x=>obtain⟨f,d⟩:=h.jC k x e;exact⟨f,λy c=>by simp at c;exact c▸d⟩
 exact⟨λk=>Classical.choose (this k),λk=>fy (this k)⟩
def AB.bB{e:Ex}(h:AB m f e):∃s,f=[.i e.op,.i e.bK,.s s]/\fm m s e.bF:=by
 cases h with
 |mk l bK bF s b g c i j d=>exact⟨s,rfl,g,c,i,λk x a=>⟨b k,d k x a,j k x a⟩⟩
def AB.of{b bK:Int}{bF:List Ex}(h:fm m s bF):AB m [.i b,.i bK,.s s] (.mk b bK bF):=by
 let⟨d,c⟩:=h.choose;exact .mk b bK bF s d h.len h.cap h.fu (λk x a=>(c k x a).2) λk x a=>(c k x a).1
def qT.bB{b:Bk}(h:qT m f b):∃s,f=[.s s,.i b.aR]/\eH m s b.aC:=by
 cases h with
 |mk aC w s r p t d ks v u o q=>
  exact⟨s,rfl,r,p,t,λk x a=>let⟨e,g,i,l,n⟩:=u k x a;⟨_,⟨d k,ks k,rfl,g,i,l,n,λj b c=>⟨v k j,q k x j b a c,o k x j b a c⟩⟩,e⟩⟩
def qT.of{r:Int}{aC:List cE}(h:eH m s aC):qT m [.s s,.i r] (.mk aC r):=by
 let⟨n,l⟩:=h.choose;have:∀k:Nat,∃(a c:O)(kc:Nat->List Ce),∀x:cE,aC[k]? =some x->n k=[.i x.op,.i x.bK,.i x.bW,.s a,.s c]/\ap m a x.args/\(c.len=x.bF.length/\c.len<=c.cap/\c.len<=9223372036854775807)/\
  ∀(j:Nat)(b:Bk),x.bF[j]? =some b->qT m (kc j) b/\gP m c.az (c.off+j*2) (kc j):=λk=>by
  cases o:aC[k]? with
  |none=>exact⟨.nil,.nil,λ_=>[],λx d=>by simp at d⟩
  |some x=>
   obtain⟨⟨a,c,f,g,e⟩,_⟩:=l k x o
   let⟨kc,p⟩:=e.choose
   exact⟨a,c,kc,λy i=>by simp at i;subst i;exact⟨f,g,⟨e.len,e.cap,e.fu⟩,p⟩⟩
 have H:=λk=>fy (fy (fy (this k)));refine .mk aC r s h.len h.cap h.fu (λk=>Classical.choose (this k)) (λk=>Classical.choose (fy (this k))) (λk=>Classical.choose (fy (fy (this k)))) (λk x d=>?_) (λk x j b d i=>((H k x d).2.2.2 j b i).2) λk x j b d i=>((H k x d).2.2.2 j b i).1;obtain⟨f,g,e,_⟩:=H k x d;exact⟨by rw[<-f];exact(l k x d).2,g,e⟩
def fO.le{m d:E}(h:Le m d){f:List Ce}{x:cE}:fO m f x->fO d f x:=λ⟨a,k,b,c,e⟩=>⟨a,k,b,c.le h,eN.le e h λ_ _=>qT.le h⟩
def fm.le{m d:E}(a:Le m d){s:O}{l:List Ex}(h:fm m s l):fm d s l:=eN.le h a λ_ _=>AB.le a
def eH.le{m d:E}(a:Le m d){s:O}{l:List cE}(h:eH m s l):eH d s l:=eN.le h a λ_ _=>fO.le a
def mX.le{m d:E}(a:Le m d){s:O}{l:List Bk}(h:mX m s l):mX d s l:=eN.le h a λ_ _=>qT.le a
def fm.aO{l:List Ex}(h:fm m s l){x:Ex}(b:l[k]? =some x):
 ∃t,fm m t x.bF/\af m s.az (s.off+k*3)=some (vi x.op)/\af m s.az (s.off+k*3+1)=some (vi x.bK)/\af m s.az (s.off+k*3+2)=some (O.v t):=by
 let⟨f,d,a⟩:=h.jC k x b
 obtain⟨t,rfl,c⟩:=d.bB
 exact⟨t,c,a 0 _ rfl,a 1 _ rfl,a 2 _ rfl⟩
def eH.aO{l:List cE}(h:eH m s l){x:cE}(e:l[k]? =some x):
 ∃a t,ap m a x.args/\mX m t x.bF/\af m s.az (s.off+k*5)=some (vi x.op)/\af m s.az (s.off+k*5+1)=some (vi x.bK)/\af m s.az (s.off+k*5+2)=some (vi x.bW)/\af m s.az (s.off+k*5+3)=some (O.v a)/\af m s.az (s.off+k*5+4)=some (O.v t):=by
 obtain⟨f,⟨a,t,rfl,c,d⟩,b⟩:=h.jC k x e
 exact⟨a,t,c,d,b 0 _ rfl,b 1 _ rfl,b 2 _ rfl,b 3 _ rfl,b 4 _ rfl⟩
def mX.aO{l:List Bk}(h:mX m s l){x:Bk}(b:l[k]? =some x):
 ∃t,eH m t x.aC/\af m s.az (s.off+k*2)=some (O.v t)/\af m s.az (s.off+k*2+1)=some (vi x.aR):=by
 let⟨f,d,a⟩:=h.jC k x b
 obtain⟨t,rfl,c⟩:=d.bB
 exact⟨t,c,a 0 _ rfl,a 1 _ rfl⟩
def Bk.w:Bk->Nat
 | .mk aC _=>1+(aC.map λs=>1+s.args.length+(s.bF.map Bk.w).sum).sum
decreasing_by
 rename_i s a _ _
 have b:=nV a
 have c:=nV (by assumption:_∈s.bF)
 have d:SizeOf.sizeOf s.bF<SizeOf.sizeOf s:=by cases s;simp;omega
 simp;omega
def LJ.w(s:LJ Bk):Nat:=1+s.args.length+(s.bF.map Bk.w).sum
def Bk.Y7(b:Bk):b.w=1+(b.aC.map LJ.w).sum:=by
 cases b;rw[Bk.w];rfl
def Ex.n:Ex->Nat
 | .mk _ _ bF=>1+(bF.map Ex.n).sum
end Go.Vc
end
section
namespace Go.Vc
variable{S Y S' X:List Nat}{d a c:E}{b k n h tb:Nat}{s x:O}{g cs i:List Ce}{f:List (List Ce)}{K:O->E->Prop}
structure nH{α:Type}(sz:Nat)(R:E->List Ce->α->Prop):Prop where
 le:∀{M M':E}{cs:List Ce}{x:α},Le M M'->R M cs x->R M' cs x
 len:∀{M:E}{cs:List Ce}{x:α},R M cs x->cs.length=sz
def tm(_:E)(cs:List Ce)(n:Int):Prop:=UF cs n
def tm.mono:nH 1 tm:=⟨λ_ h=>h,λh=>by rw[h];rfl⟩
def AB.mono:nH 3 AB:=⟨λh=>AB.le h,λh=>by obtain⟨s,rfl,_⟩:=h.bB;rfl⟩
def qT.mono:nH 2 qT:=⟨λh=>qT.le h,λh=>by obtain⟨s,rfl,_⟩:=h.bB;rfl⟩
def fO.mono:nH 5 fO:=⟨λh=>fO.le h,λh=>by obtain⟨_,_,rfl,_⟩:=h;rfl⟩
structure Gr{α:Type}(S:List Nat)(d a:E)(b sz:Nat)(R:E->List Ce->α->Prop)(s:O)(l:List α):Prop where
 gS:s≠.nil
 ba:∃f,fZ d a b sz s f.flatten/\gT sz (R (bG (s.az::S) a)) f l
def Gr.len{α:Type}{S:List Nat}{d a:E}{b e:Nat}{R:E->List Ce->α->Prop}{s:O}{l:List α}(h:Gr S d a b e R s l)(i:0<e):s.len=l.length:=by
 obtain⟨_,f,g,c⟩:=h;have:=g.len;rw[dp c.size]at this;rw[<-c.len,Uq i this]
def Gr.bg{α:Type}{g:Nat}{R:E->List Ce->α->Prop}{l:List α}(h:Gr S d a b g R s l):d.size<=s.az/\s.az<a.size:=by
 let⟨c,f,e,i⟩:=h;exact⟨e.az.resolve_left c,e.lt.resolve_left c⟩
def Gr.new{α:Type}(S:List Nat){d a:E}(h:d.size<=a.size)(b c:Nat)(R:E->List Ce->α->Prop):Gr S d (a.push (.cells (bD []) b)) b c R (.mk a.size 0 0 0) []:=
 ⟨aH,[],(fZ.new (J.aF a) b c [] 0 aH).cG h,gT.nil _ _⟩
def Gr.fS{α:Type}{g:Nat}{R:E->List Ce->α->Prop}{l:List α}(o:nH g R)(h:Gr S d a b g R s l)(j:Fz Y a c)(i:∀e∈Y,e∈S/\e<d.size):Gr S d c b g R s l:=by
 have q:=h.bg;let⟨k,f,m,n⟩:=h;refine⟨k,f,m.congr (j.same _ q.2 λp=>oh ((i _ p).2)),n.mono λcs x=>o.le ?_⟩;exact j.cR λe p=>ah _ (i e p).1
def Gr.MR{α:Type}{g:Nat}{R:E->List Ce->α->Prop}{l:List α}(n:nH g R)(h:Gr S d a b g R s l)(i:Fz Y a c)(o:∀e∈Y,e∈S)(q:s.az∉Y):Gr S d c b g R s l:=by
 have r:=h.bg;let⟨j,f,k,m⟩:=h;exact⟨j,f,k.congr (i.same _ r.2 q),m.mono λcs x=>n.le (i.cR λe p=>ah _ (o e p))⟩
def Gr.re{α:Type}{h:Nat}{R:E->List Ce->α->Prop}{l:List α}(o:nH h R)(i:Gr S d a b h R s l)(j:Fz Y a c)(q:∀e∈Y,e∈S)(r:s.az∉Y)(p:∀e∈S',e∈S\/a.size<=e):Gr S' d c b h R s l:=by
 have t:=i.bg;let⟨k,f,m,n⟩:=i;refine⟨k,f,m.congr (j.same _ t.2 r),n.mono λcs x=>o.le (j.bG (λe g=>ah _ (q e g)) λe g=>?_)⟩;rcases List.mem_cons.1 g with g|g
 .exact Or.inl (by rw[g];exact aX)
 .exact(p e g).imp (ah _) id
def Gr.ext{α:Type}{e:Nat}{R:E->List Ce->α->Prop}{l:List α}(f:nH e R)(h:Gr S d a b e R s l)(g:J a c):Gr S d c b e R s l:=
 h.fS f (g.fz []) aH
def Gr.done{α:Type}{c:Nat}{R:E->List Ce->α->Prop}{l:List α}(j:nH c R)(h:Gr S d a b c R s l)(k:∀e∈S,e<d.size)(o:0<c)(n:l.length<=9223372036854775807):eN (bG S a) c (R (bG S a)) s l:=by
 obtain⟨_,f,g,i⟩:=h;exact eN.N3 k g (i.mono λcs x=>j.le (gN a λe m=>ah _ m)) o n
def J.N4(h:k<=a.size):J (a.extract 0 k) a:=by
 refine⟨bN,λb c=>?_⟩;have d:b<k:=by simp at c;omega
 rw[Array.getElem?_extract];simp;omega
def jF(h:k<=a.size):(a.extract 0 k).size=k:=bN
def Gr.next{α:Type}{F:Nat}{R:E->List Ce->α->Prop}{C D:List α}(G:nH g.length R)(W:0<g.length)
 (y:Gr S d a b g.length R s C)(H:Fz X d a)(u:x.len=f.length)(T:gP a x.az x.off f.flatten)(n:gT g.length (R (bG (s.az::S) a)) f D)(i:(C.length+D.length)*F<=140737488355328)
 (P:∀r c,Gr S d c b g.length R r (C++D)->Fz X d c->(a.size<=c.size/\(r.az=s.az\/a.size<=r.az))->(∀e,e<a.size->e≠s.az->c[e]? =a[e]?)->K r c):jb a b g F s x K:=by
 have Q:=y.len W
 have hy:=y.bg
 let⟨z,w,O,j⟩:=y
 have q:d.size<=a.size:=H.size
 refine fZ.append (g:=a.extract 0 d.size) (zs:=g) (d:=f.flatten) (l:=w.flatten) (O.cG (by rw[jF q];exact ad _)) (J.N4 q) ?_ T (by rw[Q,u,n.len];exact i) λr c Y k2 k3 Z k5 B=>?_
 .rw[dp n.size,u]
 have A:∀e,e<a.size->e≠s.az->c[e]? =a[e]? :=λe i k=>k5 e i λ_=>k
 have U:r≠.nil:=by
  rcases B with⟨h,_⟩|⟨_,_,h⟩|h
  .exact absurd h z
  .exact h
  .intro b;rw[b]at h;simp at h;omega
 have L:a.size<=c.size:=Z
 have I:Le (bG (s.az::S) a) (bG (r.az::S) c):=oR λe i k=>by
  simp only[aV,uH]at k;refine⟨?_,A e i k.1⟩;simp only[aV,uH];refine⟨?_,k.2⟩;rcases B with⟨h,_⟩|⟨_,h,_⟩|h
  .exact absurd h z
  .rw[h];exact k.1
  .omega
 refine P r c ⟨U,w++f,?_,?_⟩ ⟨bH q L,λe i u=>?_⟩ ⟨L,?_⟩ A
 .rw[xt]
  exact Y.cG (by rw[jF q];exact ad _)
 .refine⟨by simp[j.len,n.len],λm o=>?_,λM m N t v=>?_⟩
  .rcases List.mem_append.1 o with o|o
   .exact j.size m o
   .exact n.size m o
  .rcases aU M w.length with p|p
   .rw[aw p]at t
    rw[aw (j.len▸p)]at v
    exact G.le I (j.de M m N t v)
   .rw[aG p]at t
    rw[aG (by rw[<-j.len];exact p),<-j.len]at v
    exact G.le I (n.de _ m N t v)
 .rw[A e (aJ i q) V];exact H.same e i u
 .rcases B with⟨h,_⟩|⟨_,h,_⟩|h
  .exact absurd h z
  .exact Or.inl h
  .exact Or.inr V
def Gr.ku{α:Type}{n:Nat}{R:E->List Ce->α->Prop}{m:List α}{k:α}(i:nH g.length R)(z:0<g.length)
 (q:Gr S d a b g.length R s m)(w:Fz X d a)(p:R (bG (s.az::S) a) cs k)(j:(m.length+1)*n<=140737488355328)
 (x:∀r c,Gr S d c b g.length R r (m++[k])->Fz X d c->(a.size<=c.size/\(r.az=s.az\/a.size<=r.az))->(∀f,f<a.size->f≠s.az->c[f]? =a[f]?)->K r c):jb (a.push (.cells (bD cs) b)) b g n s (.mk a.size 0 1 1) K:=by
 have h:=J.push a (.cells (bD cs) b)
 refine Gr.next (f:=[cs]) (D:=[k]) i z (q.ext i h) (w.then h) rfl ?_ ?_ j λr c t u o v=>x r c t u ⟨bH h.size o.1,o.2.imp id (bH h.size)⟩ λf j y=>(v f (aJ j h.size) y).trans (h.same f j)
 .have:=(cz.push a (e:=b) (l:=cs)).jC
  simpa using this
 .have:=gT.y9 (gT.nil g.length (R (bG (s.az::S) (a.push (.cells (bD cs) b))))) (i.len p) (i.le (h.cR _) p)
  simpa using this
def eN.V5{α:Type}{b:Nat}{R:List Ce->α->Prop}{l:List α}(z:∀cs x,R cs x->cs.length=b)(r:eN a b R s l):
 ∃f,s.len=f.length/\gP a s.az s.off f.flatten/\gT b R f l:=by
 let⟨e,k⟩:=r.choose
 have w:∀(c:Nat)(cs:List Ce),((List.range l.length).map e)[c]? =some cs->c<l.length/\cs=e c:=λc cs d=>by
  simp only[bR,jo]at d;let⟨E,o,B⟩:=d;let⟨t,u⟩:=List.getElem?_eq_some_iff.1 o;simp at t u;subst u;exact⟨t,B.symm⟩
 have m:∀cs∈(List.range l.length).map e,cs.length=b:=λcs D=>by
  let⟨c,d⟩:=List.mem_iff_getElem?.1 D;obtain⟨o,rfl⟩:=w c cs d;let⟨x,h⟩:=dI o;exact z _ _ (k c x h).1
 refine⟨(List.range l.length).map e,by simp[r.len],λi A q=>?_,aH,m,λc cs x d h=>?_⟩
 .rcases iS b with n|n
  .have g:=ax q
   rw[dp m,n]at g;simp at g
  have g:=ax q
  rw[dp m]at g
  simp at g
  have d:i/b<l.length:=Nat.div_lt_of_lt_mul (by rw[Nat.mul_comm];exact g)
  let⟨x,h⟩:=dI d
  have y:i=i/b*b+i%b:=by rw[Nat.mul_comm];exact(Nat.div_add_mod i b).symm
  have H:=Nat.mod_lt i n
  have G:(e (i/b)).length=b:=z _ _ (k _ x h).1
  let⟨F,v⟩:=cg (e (i/b)) (i%b)
  have p:=iJ (d:=(List.range l.length).map e) m (b:=i/b) (a:=e (i/b)) (by simp[d]) v
  rw[<-y,q]at p
  simp at p;subst p
  have C:=(k _ x h).2 _ A v
  rw[y,<-dR];exact C
 .obtain⟨_,rfl⟩:=w c cs d
  exact(k c x h).1
def Gr.all{α:Type}{j:Nat}{R:E->List Ce->α->Prop}{l i:List α}(k:nH g.length R)(v:0<g.length)
 (h:Gr S d a b g.length R s l)(t:Fz X d a)(p:eN (bG (s.az::S) a) g.length (R (bG (s.az::S) a)) x i)(q:(l.length+i.length)*j<=140737488355328)
 (u:∀r c,Gr S d c b g.length R r (l++i)->Fz X d c->(a.size<=c.size/\(r.az=s.az\/a.size<=r.az))->(∀e,e<a.size->e≠s.az->c[e]? =a[e]?)->K r c):jb a b g j s x K:=by
 let⟨f,m,n,o⟩:=p.V5 λ_ _ h=>k.len h
 exact Gr.next k v h t m ((bz _ _).jC n) o q u
def Gr.lit{α:Type}{e:Nat}{R:E->List Ce->α->Prop}{l:List α}(j:nH e R)(i:d.size<=a.size)(p:∀g∈S,g<d.size)(k:cs=f.flatten)(m:n=f.length)(h:gT e (R (bG S a)) f l):
 Gr S d (a.push (.cells (bD cs) b)) b e R (.mk a.size 0 n n) l:=by
 subst k m
 refine⟨aH,f,(fZ.new (J.aF a) b e f.flatten f.length (dp h.size)).cG i,h.mono λo x=>j.le ?_⟩
 exact(J.push a _).bG λg c=>by
  rcases List.mem_cons.1 c with c|c
  .exact Or.inr (by simp[c])
  .exact Or.inl c
def Gr.ng{α:Type}{c:Nat}{R:E->List Ce->α->Prop}{l:List α}(m:nH c R)(h:Gr S d a b c R s l)(n:s.az∉S)(q:0<c)(p:l.length<=9223372036854775807):eN (bG S a) c (R (bG S a)) s l:=by
 obtain⟨_,f,e,g⟩:=h;have H:=eN.fP e (g.mono λcs x=>m.le (gN a λj i=>ah s.az i)) q p;exact⟨H.len,H.cap,H.fu,λk x o=>let⟨cs,i,j⟩:=H.jC k x o;⟨cs,i,JD n j⟩⟩
def Gr.ne{α:Type}{p:Nat}{R:E->List Ce->α->Prop}{o:List α}(k:Gr S d a b p R s o)(g:cz a h tb i)(n:tb≠b):s.az≠h:=by
 let⟨l,f,m,w⟩:=k;let⟨q,r,tail,j,t,c,u,v⟩:=m.aO.resolve_left l;intro e;rw[j]at e;simp only[O.fG]at e;subst e;unfold cz at g c;rw[g]at c;simp at c;exact n c.2
def Gr.Kw{α β:Type}{q:E}{r c t:Nat}{R:E->List Ce->α->Prop}{g:E->List Ce->β->Prop}{e:O}{o:List α}{p:List β}(j:Gr S d a b r R s o)(k:Gr S' q a c t g e p)(n:c≠b):s.az≠e.az:=by
 let⟨l,f,m,z⟩:=k;let⟨u,v,tail,h,w,i,x,y⟩:=m.aO.resolve_left l;have:=j.ne i n;rw[h];exact this
def Gr.box{α:Type}{L:List Nat}{j y:Nat}{R:E->List Ce->α->Prop}{u:List α}{w:α}{K:E->Prop}(B:nH g.length R)(U:0<g.length)
 (o:Gr S d a b g.length R s u)(C:Fz X d a)(P:R (bG (s.az::S) a) cs w)(k:(u.length+1)*y<=140737488355328)
 (p:cz a h tb i)(hi:j<i.length)(G:tb≠b)(t:d.size<=h/\h∈S)(A:∀e∈L,e<a.size/\e≠h/\e≠s.az)
 (Q:∀r c,Gr S d c b g.length R r (u++[w])->cz c h tb (iO i j [.s r])->Fz X d c->a.size<=c.size->(∀e,e<a.size->e≠s.az->e≠h->c[e]? =a[e]?)->K c):
 af (a.push (.cells (bD cs) b)) h j=af a h j/\
 jb (a.push (.cells (bD cs) b)) b g y s (.mk a.size 0 1 1) λr c=>eG L (a.push (.cells (bD cs) b)) c/\fg c h j 1/\(eG L c (ai c h j [.s r])/\K (ai c h j [.s r])):=by
 have D:=p.lt
 have H:=J.push a (.cells (bD cs) b)
 have hy:=o.bg
 refine⟨aK (H.same h D) j,Gr.ku B U o C P k λr c z I W v=>?_⟩
 have q:cz c h tb i:=p.congr (v h D (kG (o.ne p G)))
 have T:=z.ne q G
 have n:∀e,e≠h->(ai c h j [.s r])[e]? =c[e]? :=λe k=>bd _ _ _ _ k
 have Z:=C.size
 have Y:=t.1
 refine⟨λe k=>?_,q.fg V,λe k=>n e (A e k).2.1,Q r _ ?_ (cz.ai (m:=c) q) (I.ai (Or.inr t.1) _ _) (by rw[aA];exact W.1) λe l N O=>(n e O).trans (v e l N)⟩
 .have l:=A e k
  rw[v e l.1 l.2.2,H.same e l.1]
 .let⟨M,f,g1,g2⟩:=z
  refine⟨M,f,g1.congr (n _ T),g2.mono λcs x=>B.le ?_⟩
  exact oR λe k F=>⟨F,n e λb=>F (by rw[b];exact ah _ t.2)⟩
def ap.lit(b:Nat)(l:List Int)(d:∀c∈S,c<a.size)(c:cs=l.map Ce.i)(f:n=l.length)(e:l.length<=9223372036854775807):ap (bG S (a.push (.cells (bD cs) b))) (.mk a.size 0 n n) l:=by
 subst c f;have h:=fZ.new (J.aF a) b 1 (l.map Ce.i) l.length aH;exact ap.N3 d h e
end Go.Vc
end
section
namespace Go.Vc
variable{x y:Operand}{k:SV->Prop}{l g:List Ce}{f:Int->Prop}{r:List Sh}{a:Int}{e:Array (Nat×Operand)}{Q:Exit->Fr->E->Prop}{c:Code}
section
variable{P:Program}{T:TT}{G:List Nat}{n:Nat}{A:Oz}{m p:E}{h q:Fr}{b o j i t:Nat}{s:Sh}{d:Option Nat}{v:Value}
def nc(n:Nat):Int:=n
def nce{n:Nat}:nc n=n:=rfl
def VN:SY T h .len [t] [x] k=match fx T t,ev h x with
 |some ⟨.slice _,_,_⟩,.c (.s s)=>k (.c (.i (nc s.len)))
 |_,_=>False:=rfl
def VO{l:List Nat}:SY T h .max l [x,y] k=match ev h x,ev h y with
 | .c (.i a),.c (.i b)=>k (.c (.i (if b>a then b else a)))
 |_,_=>False:=rfl
def VP{l:List Nat}:SY T h .min l [x,y] k=match ev h x,ev h y with
 | .c (.i a),.c (.i b)=>k (.c (.i (if b<a then b else a)))
 |_,_=>False:=rfl
def Rm(m:E)(k:E->Prop):NW m k=(let p:=m;k p):=rfl
def pa{α:Type}(x:α)(f:α->Prop):Prop:=f x
def Sq(s:Sh)(f:s.ty->Prop):Prop:=∃x,f x
def UK(s:Sh)(f:s.ty->Prop):Prop:=∀x,f x
def exI:Sq .I f=∃x,pa x f:=rfl
def exU{k:IntKind}:Sq (.U k) f=∃x,pa x f:=rfl
def exB{f:Bool->Prop}:Sq .T f=∃x,pa x f:=rfl
def Ym{f:O->Prop}:Sq .S f=∃x,pa x f:=rfl
def exP{f:Nat×Nat->Prop}:Sq .P f=∃x,pa x f:=rfl
def exF{f:Fn×Array Value×Array Value->Prop}:Sq .F f=∃x,pa x f:=rfl
def exM{f:Nat->Prop}:Sq .M f=∃x,pa x f:=rfl
def alI:UK .I f=∀x,f x:=rfl
def alU{k:IntKind}:UK (.U k) f=∀x,f x:=rfl
def alB{f:Bool->Prop}:UK .T f=∀x,f x:=rfl
def XR{f:O->Prop}:UK .S f=∀x,f x:=rfl
def alP{f:Nat×Nat->Prop}:UK .P f=∀x,f x:=rfl
def alF{f:Fn×Array Value×Array Value->Prop}:UK .F f=∀x,f x:=rfl
def alM{f:Nat->Prop}:UK .M f=∀x,f x:=rfl
def cU8{x:Int}:jX (.int .u8 x)=some (.u .u8 x):=rfl
def z0:me g 0=[]:=rfl
def z1:me g (n+1)=g++me g n:=rfl
def tb{a b:Nat}:Nat.testBit a b=(1&&&(a>>>b)!=0):=rfl
def VI{e:Edge}{a:List Edge}:kT (e::a)=bif Region.binds .any e then 2^e.on|||kT a else kT a:=rfl
def b1:Region.binds .any ⟨i,.data⟩=true:=rfl
def b2:Region.binds .any ⟨i,.chain⟩=true:=rfl
def b3:Region.binds .any ⟨i,.guard⟩=true:=rfl
def b4:Region.binds .any ⟨i,.phase⟩=true:=rfl
def b5{x:Departure}:Region.binds .any ⟨i,.gcOnly x⟩=false:=rfl
def b6{x:Departure}:Region.binds .any ⟨i,.textOnly x⟩=false:=rfl
def Rg(c:Ce)(k:List Ce->Prop)(l:List Ce):Prop:=k (c::l)
def U8(k:SV->Prop)(l:List Ce):Prop:=k (.agg l)
def Z2(m:E)(b o j:Nat)(s:Sh)(r:List Sh)(k:List Ce->Prop)(x:s.ty):Prop:=
 af m b (bif j==0 then o else o+j)=some (s.mk x).v/\V0 m b o (j+1) r (Rg (s.mk x) k)
def Yg{k:List Ce->Prop}:V0 m b o j (s::r) k=Sq s (Z2 m b o j s r k):=by
 cases j<;>rfl
def Z1(m:E)(b o:Nat)(s:Sh)(k:SV->Prop)(x:s.ty):Prop:=af m b o=some (s.mk x).v/\k (.c (s.mk x))
def Tp{t:Nat}:Pj T m t b o k=match fx T t with
 |some ⟨.struct _,a,_⟩=>V0 m b o 0 a (U8 k)
 |some ⟨.cell,[s],_⟩=>Sq s (Z1 m b o s k)
 |some ⟨.slice _,[_],_⟩=>∃x:O,af m b o=some x.v/\k (.c (.s x))
 |_=>False:=rfl
def ile{b:Int}:Int.le a b=(a<=b):=rfl
def Z0(s:O)(z:Nat)(l:Int)(k:SV->Prop)(h:Int):Prop:=Int.le 0 l/\Int.le l h/\Int.le h (nc s.cap)/\k (.c (.s (s.cut l.toNat h.toNat z)))
def Z3(h:Fr)(a:Option Operand)(s:O)(z:Nat)(k:SV->Prop)(l:Int):Prop:=Mb h a (nc s.len) (Z0 s z l k)
def Ye{f:Nat}{mk:Nat->SV}:EA T t f o mk k=match fx T t with
 |some ⟨.struct c,_,_⟩=>match GZ c f with
  |some (a,u)=>match fx T u with
   |some b=>bif b.tQ||Nat.beq b.sh.length 0 then False else bif a==0 then k (mk o)else k (mk (o+a))
   |none=>False
  |none=>False
 |_=>False:=by
 have h:∀a,(bif a==0 then k (mk o)else k (mk (o+a)))=k (mk (o+a)):=λa=>by cases a<;>rfl
 simp only[h];rfl
def VM{s:O}{n:Int}:WV T t s n k=match fx T t with
 |some ⟨.slice e,_,_⟩=>match fx T e with
  |some a=>bif a.tQ then False else Int.le 0 n/\n<nc s.len/\k (.c (.p s.az (s.off+n.toNat*a.sh.length)))
  |none=>False
 |_=>False:=rfl
def Q6{s:O}{b a:Option Operand}:QI T h t s b a k=match fx T t with
 |some ⟨.slice e,_,_⟩=>match fx T e with
  |some c=>bif c.tQ then False else Mb h b 0 (Z3 h a s c.sh.length k)
  |none=>False
 |_=>False:=rfl
def Q3:rd T h m k (.build t e)=match fx T t with
 |some ⟨.struct a,b,_⟩=>bif ur T a then Et T h a (b.map Sh.zero) e.toList (U8 k)else False
 |_=>False:=rfl
def Z7(s:Sh)(r:List Sh)(k:List Ce->Prop)(x:s.ty):Prop:=Uy r (Rg (s.mk x) k)
def VK{k:List Ce->Prop}:Uy (s::r) k=Sq s (Z7 s r k):=rfl
def Ys(a:AV)(k:List AV->Prop)(l:List AV):Prop:=k (a::l)
def Z9(T:TT)(r:List Nat)(k:List AV->Prop)(l:List Ce):Prop:=RQ T r (Ys (.agg l) k)
def Z8(T:TT)(s:Sh)(r:List Nat)(k:List AV->Prop)(x:s.ty):Prop:=RQ T r (Ys (.c (s.mk x)) k)
def VL{r:List Nat}{k:List AV->Prop}:RQ T (t::r) k=match fx T t with
 |some ⟨.struct _,a,_⟩=>Uy a (Z9 T r k)
 |some ⟨.cell,[s],_⟩=>Sq s (Z8 T s r k)
 |some ⟨.slice _,[_],_⟩=>∃x:O,RQ T r (Ys (.c (.s x)) k)
 |_=>False:=rfl
def Z6(v:Value)(k:SV->Prop)(l:List AV):Prop:=v=.tuple (l.map AV.v).toArray/\k (.Xg l)
def Z5(v:Value)(k:SV->Prop)(l:List Ce):Prop:=v=.agg (l.map Ce.v).toArray/\k (.agg l)
def Z4(v:Value)(s:Sh)(k:SV->Prop)(x:s.ty):Prop:=v=(s.mk x).v/\k (.c (s.mk x))
def VU:Pt T t v k=match fx T t with
 |some ⟨.tuple [],_,_⟩=>k .iP
 |some ⟨.tuple a,_,_⟩=>RQ T a (Z6 v k)
 |some ⟨.struct _,a,_⟩=>Uy a (Z5 v k)
 |some ⟨.cell,[s],_⟩=>Sq s (Z4 v s k)
 |some ⟨.slice _,[_],_⟩=>∃x:O,v=x.v/\k (.c (.s x))
 |_=>False:=rfl
def U9(k:Fr->SV->E->Prop)(h:Fr)(m:E)(x:SV):Prop:=k h x m
def inG(G:List Nat)(g:Nat):Prop:=G.elem g=true
def Yq{G:List Nat}{g:Nat}:inG G g=(G.elem g=true):=rfl
def nz(b:Int):Prop:=b≠0
def nze{b:Int}:nz b=(b≠0):=rfl
def VR{b:Int}:qX .quo a b k=(nz b/\k (.c (.i (cQ (a.tdiv b))))):=rfl
def VT{b:Int}:qX .rem a b k=(nz b/\k (.c (.i (a.tmod b)))):=rfl
def Tl{c:Nat}{f:Operand}{a:List Operand}{k:Fr->SV->E->Prop}:Tb P T G n h m c f a k=match Tv h (a.map (ev h))with
 |none=>False
 |some q=>match ev h f with
  | .c (.fn (.func g) first b)=>bif G.elem g&&a.all (λx=>(ev h x).js)then
   aN P g (first.toList++(a.map λx=>(ev h x).v)++b.toList) m λv p=>yY (LF n q []) m p (Pt T c v (U9 k q p))
   else False
  | .c (.fv b)=>bif a.all (λx=>(ev h x).js)then
   ∃g,b.1=.func g/\inG G g/\aN P g (b.2.1.toList++(a.map λx=>(ev h x).v)++b.2.2.toList) m λv p=>yY (LF n q []) m p (Pt T c v (U9 k q p))
   else False
  |_=>False:=rfl
def p3(m:E)(k:Fr->SV->E->Prop)(h:Fr)(x:SV):Prop:=k h x m
def p2(m:E)(k:SV->E->Prop)(x:SV):Prop:=k x m
def Ts{k:Fr->SV->E->Prop}:RY n h none m t l k=NW (m.push (.cells (bD l) t)) λp=>p3 p k h (.c (.p m.size 0)):=rfl
def Tt{j:Nat}{k:Fr->SV->E->Prop}:RY n h (some j) m t l k=match gL h (n+j)with
 | .yB _ _ _=>False
 |_=>NW (m.push (.cells (bD l) t)) λp=>p3 p k ((n+j,.box m.size t l)::h) (.c (.bp (n+j) m.size 0)):=rfl
def Yj{x:SV}{k:Fr->SV->E->Prop}:Oi n h m x l k=match x with
 | .c (.p b o)=>fg m b o l.length/\NW (ai m b o l) λp=>yY (LF n h []) m p (k h .un p)
 | .c (.bp q b o)=>match gL h q with
  | .box a e c=>bif Nat.ble (o+l.length) c.length then NN a b (NW (ai m b o l) λp=>p3 p k ((q,.box a e (iO c o l))::h) .un)else False
  | .yB _ _ _=>False
  |_=>fg m b o l.length/\NW (ai m b o l) λp=>yY (LF n h []) m p (k h .un p)
 |_=>False:=rfl
def Yi{b:Nat}{k:Fr->SV->E->Prop}:wr P T G n h m d b k (.makeSlice t x y)=match fx T t,ev h x,ev h y with
 |some ⟨.slice e,_,_⟩,.c (.i l),.c (.i c)=>match fx T e with
  |some a=>bif a.tQ then False else Int.le 0 l/\Int.le l c/\Int.le (nc a.bytes*c) 281474976710656/\Int.le c 9223372036854775807/\
   NW (m.push (.cells (bD (me (a.sh.map Sh.zero) c.toNat)) e)) λp=>p3 p k h (.c (.s (.mk m.size 0 l.toNat c.toNat)))
  |none=>False
 |_,_,_=>False:=rfl
def Yh{a:Nat}{k:Fr->SV->E->Prop}:wr P T G n h m d a k (.makeMap t none)=NW (m.push (.map #[] 0)) λp=>p3 p k h (.c (.mp m.size)):=rfl
def VJ{z:Nat}{s x:O}{k:SV->E->Prop}:WM m z s x k=∃a:List Ce,a.length=Nat.min x.len s.len*z/\gP m x.az x.off a/\fg m s.az s.off a.length/\
 NW (ai m s.az s.off a) λp=>p2 p k (.c (.i (nc (Nat.min x.len s.len)))):=rfl
def ZY(h:Fr)(m:E)(e a:Nat)(k:Fr->SV->E->Prop)(l:List Ce):Prop:=match Ey h l with
 |some q=>NW (m.push (.cells (bD l) e)) λp=>p3 p k q (.c (.s (.mk m.size 0 a a)))
 |none=>False
def Yd{f a:Nat}{k:Fr->SV->E->Prop}:wr P T G n h m d f k (.buildSlice t a e)=match fx T t with
 |some ⟨.slice c,_,_⟩=>match fx T c with
  |some b=>bif b.tQ||!(Nat.ble (a*b.sh.length) 16777216)then False else
   vY T h b.sh.length (me (b.sh.map Sh.zero) a) e.toList (ZY h m c a k)
  |none=>False
 |_=>False:=rfl
def ZZ(n:Nat)(h:Fr)(m:E)(k:Fr->SV->E->Prop)(x:SV)(p:E):Prop:=yY (LF n h []) m p (k h x p)
def Tm{b:Nat}{u:Nat}{c:List Nat}{k:Fr->SV->E->Prop}:wr P T G n h m d b k (.call ⟨.builtin .copy,⟨[x,y]⟩,⟨u::c⟩⟩)=match fx T u,ev h x,ev h y with
 |some ⟨.slice e,_,_⟩,.c (.s s),.c (.s z)=>match fx T e with
  |some a=>bif a.tQ then False else WM m a.sh.length s z (ZZ n h m k)
  |none=>False
 |_,_,_=>False:=rfl
def kw(P:Program)(T:TT)(G:List Nat)(n:Nat)(eC:List Oper)(d:Option Nat)(ka:List Oper)(k:Fr->E->Prop)(h:Fr)(x:SV)(m:E):Prop:=rJ P T G n eC ka (tp h d x) m k
def kr(P:Program)(T:TT)(G:List Nat)(n:Nat)(eC:List Oper)(d:Option Nat)(ka:List Oper)(k:Fr->E->Prop)(h:Fr)(m:E)(x:SV):Prop:=rJ P T G n eC ka (tp h d x) m k
def ky(P:Program)(T:TT)(G:List Nat)(n:Nat)(eC:List Oper)(o:Oper)(ka:List Oper)(k:Fr->E->Prop)(m:E)(h:Fr):Prop:=
 bif Kp o.op then wr P T G n h m o.dst o.type (kw P T G n eC o.dst ka k) o.op else rd T h m (kr P T G n eC o.dst ka k h m) o.op
def kn(P:Program)(T:TT)(G:List Nat)(n:Nat)(eC:List Oper)(d:Option Nat)(ka:List Oper)(k:Fr->E->Prop)(m:E)(h:Fr):Prop:=rJ P T G n eC ka (tp h d .un) m k
def VQ{eC:List Oper}{o:Oper}{ka:List Oper}{k:Fr->E->Prop}:rJ P T G n eC (o::ka) h m k=
 bif rC n o.dst then gd eC h o.guard (ky P T G n eC o ka k m) (kn P T G n eC o.dst ka k m)else False:=rfl
abbrev LL:=List (Nat×List (Nat×Nat))
def ZM(P:Program)(T:TT)(G:List Nat)(n:Nat)(eC:List Oper)(c a:List Nat)(b done:Nat)(o:Oper)(i:Nat)(m:E)(L:LL)(k:Fr->E->Prop)(h:Fr)(x:SV):Prop:=
 nU P T G n eC c a b (done|||2^i) (tp h o.dst x) m ((i,Sr T h o.op)::L) k
def ZP(P:Program)(T:TT)(G:List Nat)(n:Nat)(eC:List Oper)(c a:List Nat)(b done:Nat)(o:Oper)(i:Nat)(m:E)(L:LL)(k:Fr->E->Prop)(h:Fr):Prop:=
 rd T h m (ZM P T G n eC c a b done o i m L k h) o.op
def Zi(P:Program)(T:TT)(G:List Nat)(n:Nat)(eC:List Oper)(c a:List Nat)(b done:Nat)(o:Oper)(i:Nat)(m:E)(L:LL)(k:Fr->E->Prop)(h:Fr):Prop:=
 nU P T G n eC c a b (done|||2^i) (tp h o.dst .un) m L k
def ZN(P:Program)(T:TT)(G:List Nat)(n:Nat)(eC:List Oper)(c a:List Nat)(b done:Nat)(o:Oper)(i:Nat)(m:E)(L:LL)(k:Fr->E->Prop)(h:Fr)(x:SV)(p:E):Prop:=
 CA (tq a i) m p L (nU P T G n eC c a b (done|||2^i) (tp h o.dst x) p L k)
def ZQ(P:Program)(T:TT)(G:List Nat)(n:Nat)(eC:List Oper)(c a:List Nat)(b done:Nat)(o:Oper)(i:Nat)(m:E)(L:LL)(k:Fr->E->Prop)(h:Fr):Prop:=
 wr P T G n h m o.dst o.type (ZN P T G n eC c a b done o i m L k) o.op
def ZO(P:Program)(T:TT)(G:List Nat)(n:Nat)(eC:List Oper)(c a:List Nat)(b done:Nat)(m:E)(L:LL)(k:Fr->E->Prop)(h:Fr)(i:Nat):Prop:=match GZ eC i with
 |some o=>bif rC n o.dst then gd eC h o.guard (ZQ P T G n eC c a b done o i m L k) (Zi P T G n eC c a b done o i m L k)else False
 |none=>False
def Tn{eC:List Oper}{a b:List Nat}{c done:Nat}{L:LL}{k:Fr->E->Prop}:nU P T G n eC a b (c+1) done h m L k=match vR done 0 eC a with
 |some i=>match GZ eC i with
  |some o=>bif rC n o.dst then gd eC h o.guard (ZP P T G n eC a b c done o i m L k) (Zi P T G n eC a b c done o i m L k)else False
  |none=>False
 |none=>match oY done 0 eC a with
  |[]=>k h m
  |d=>NB d (ZO P T G n eC a b c done m L k h):=rfl
def Tj{f:Nat->Prop}:NB [i] f=f i:=rfl
def Tk{r:List Nat}{f:Nat->Prop}:NB (i::j::r) f=(f i/\NB (j::r) f):=rfl
def kq(Q:Exit->Fr->E->Prop)(h:Fr)(m:E):Prop:=Q .normal h m
def VS{eC:Array Oper}{a:Bool}:vc P T G n A (.region i eC a) h m Q=
 bif a then nU P T G n eC.toList (Vi eC.toList) (SZ [] eC.toList) eC.toList.length 0 h m [] (kq Q)
 else rJ P T G n eC.toList eC.toList h m (kq Q):=rfl
def ZW(t:Nat)(s:Sh)(r:List (Nat×Sh))(I:s.ty->Gu r)(h:Fr)(k:Fr->(E->Prop)->Prop)(x:s.ty):Prop:=ON r (I x) ((t,.c (s.mk x))::h) k
def VG{r:List (Nat×Sh)}{I:s.ty->Gu r}{k:Fr->(E->Prop)->Prop}:ON ((t,s)::r) I h k=UK s (ZW t s r I h k):=rfl
def ZX(t:Nat)(s:Sh)(r:List (Nat×Sh))(I:s.ty->Gu r)(μ:s.ty->Nx r)(h:Fr)(k:Fr->(E->Prop)->(E->Nat)->Prop)(x:s.ty):Prop:=OO r (I x) (μ x) ((t,.c (s.mk x))::h) k
def VH{r:List (Nat×Sh)}{I:s.ty->Gu r}{μ:s.ty->Nx r}{k:Fr->(E->Prop)->(E->Nat)->Prop}:OO ((t,s)::r) I μ h k=UK s (ZX t s r I μ h k):=rfl
def ks(P:Program)(T:TT)(G:List Nat)(n:Nat)(A:Oz)(b:Code)(Q:Exit->Fr->E->Prop):Exit->Fr->E->Prop
 | .normal,q,p=>vc P T G n A b q p Q
 |e,q,p=>Q e q p
def kc(A:Oz)(b:Code)(h:Fr)(l:List (Nat×Sh))(K:Gu l)(Q:Exit->Fr->E->Prop):Exit->Fr->E->Prop
 | .normal,q,p=>Ux h q (kJ A b) (Gx l K q p)
 |e,q,p=>Q e q p
def ki(P:Program)(T:TT)(G:List Nat)(n:Nat)(A:Oz)(b:Code)(Q:Exit->Fr->E->Prop)(q:Fr)(a:E->Prop):Prop:=∀p,a p->vc P T G n A b q p Q
def VV{a b:Code}:vc P T G n A (.seq a b) h m Q=match V1 A.UY b with
 |none=>vc P T G n A a h m (ks P T G n A b Q)
 |some l=>bif pd (nO a) l then∃K:Gu l,vc P T G n A a h m (kc A b h l K Q)/\
  ON l K (mT (nO a) (tJ n (kJ A b) h)) (ki P T G n A b Q)else False:=by
 unfold ks kc ki;rfl
def kb(i:Nat)(Q:Exit->Fr->E->Prop):Exit->Fr->E->Prop
 | .exit j,q,p=>bif Nat.beq j i then Q .normal q p else Q (.exit j) q p
 |e,q,p=>Q e q p
def Q2:vc P T G n A (.block i c) h m Q=vc P T G n A c h m (kb i Q):=by
 unfold kb;rfl
def ke(A:Oz)(c:Code)(h:Fr)(l:List (Nat×Sh))(I:Gu l)(μ:Nx l)(N:Nat)(Q:Exit->Fr->E->Prop):Exit->Fr->E->Prop
 | .normal,a,b=>Ux h a (kJ A c) (ND l I μ a b N)
 |e,a,b=>Q e a b
def kl(P:Program)(T:TT)(G:List Nat)(n:Nat)(A:Oz)(c:Code)(h:Fr)(l:List (Nat×Sh))(I:Gu l)(μ:Nx l)(Q:Exit->Fr->E->Prop)(q:Fr)(a:E->Prop)(μ':E->Nat):Prop:=
 ∀p,a p->vc P T G n A c q p (ke A c h l I μ (μ' p) Q)
def Tq:vc P T G n A (.loop c) h m Q=match V1 A.TG c with
 |none=>False
 |some l=>bif pd (nO c) l then∃(I:Gu l)(μ:Nx l),Gx l I h m/\
  OO l I μ (mT (nO c) (tJ n (kJ A c) h)) (kl P T G n A c h l I μ Q)else False:=by
 unfold kl ke;rfl
def kR(m:E)(R:Value->E->Prop)(l:List SV):Prop:=match l with
 |[x]=>R x.v m
 |l=>R (.tuple (l.map SV.v).toArray) m
def kx(x:SV)(k:List SV->Prop)(l:List SV):Prop:=k (x::l)
def kz(T:TT)(h:Fr)(m:E)(r:List ResultVar)(k:List SV->Prop)(x:SV):Prop:=bif x.js then Fb T h m r (kx x k)else False
def Q4{r:List ResultVar}{k:List SV->Prop}:Fb T h m (.tmp t::r) k=bif (gL h t).js then Fb T h m r (kx (gL h t) k)else False:=rfl
def Q5{p:Nat}{r:List ResultVar}{k:List SV->Prop}:Fb T h m (.cell p t::r) k=rd T h m (kz T h m r k) (.load t (.tmp p)):=rfl
def kf(T:TT)(a:List ResultVar)(R:Value->E->Prop):Exit->Fr->E->Prop
 | .normal,h,m=>Fb T h m a (kR m R)
 | .ret,h,m=>Fb T h m a (kR m R)
 |_,_,_=>False
def Yf{b:List ResultVar}{a:List SV}{R:Value->E->Prop}:Sj P T G A n b c a m R=vc P T G n A c (tI 0 a) m (kf T b R):=by
 unfold kf kR;rfl
end
def Tg(_:Prop):Type:=Prop
def Tg.p{q:Prop}(t:Tg q):Prop:=t
def Tg.lf(q:Prop):Tg q:=q
def Tg.pm{a b:Prop}{h:Tg a=Tg b}:Tg.p (Eq.mpr h (Tg.lf b))=b:=rfl
def rg1:List.range 1=[0]:=rfl
def rg2:List.range 2=[0,1]:=rfl
def rg3:List.range 3=[0,1,2]:=rfl
def rg4:List.range 4=[0,1,2,3]:=rfl
def rg5:List.range 5=[0,1,2,3,4]:=rfl
def rg6:List.range 6=[0,1,2,3,4,5]:=rfl
def rg7:List.range 7=[0,1,2,3,4,5,6]:=rfl
def Tg.pm2{a b c:Prop}{h:Tg a=Tg b}{d:Tg b=Tg c}:Tg.p (Eq.mpr h (Eq.mpr d (Tg.lf c)))=c:=rfl
def Wi(_ _:Prop):Type:=Unit
def mkT{a X:Prop}(_:Wi a X)(t:Tg a)(_:t.p=X):True:=trivial
end Go.Vc
end
namespace Go.Proofs.YtdalfjkmdekijaaGreat
open Go.Vc
section
noncomputable abbrev cq:=Tryz.prog
def WJ:TT:=[(0,⟨.tuple [],[],0⟩),
 (3,⟨.cell,[.I],8⟩),
 (4,⟨.cell,[.T],1⟩),
 (5,⟨.cell,[(.U .u8)],1⟩),
 (22,⟨.slice 5,[.S],24⟩),
 (23,⟨.slice 151,[.S],24⟩),
 (24,⟨.slice 81,[.S],24⟩),
 (26,⟨.struct [(0,23),(1,24)],[.S,.S],48⟩),
 (27,⟨.slice 3,[.S],24⟩),
 (28,⟨.slice 38,[.S],24⟩),
 (29,⟨.slice 51,[.S],24⟩),
 (31,⟨.struct [(0,3),(1,3),(2,3),(3,3),(4,27),(5,28),(6,29)],[.I,.I,.I,.I,.S,.S,.S],104⟩),
 (32,⟨.tuple [26,31],[],0⟩),
 (38,⟨.struct [(0,3),(1,3),(2,27)],[.I,.I,.S],40⟩),
 (44,⟨.cell,[.P],8⟩),
 (49,⟨.slice 4,[.S],24⟩),
 (51,⟨.struct [(0,3),(1,3),(2,3),(3,27),(4,27),(5,27)],[.I,.I,.I,.S,.S,.S],96⟩),
 (55,⟨.tuple [3,4],[],0⟩),
 (58,⟨.struct [(0,22),(1,3)],[.S,.I],32⟩),
 (60,⟨.slice 104,[.S],24⟩),
 (62,⟨.struct [(0,23),(1,60)],[.S,.S],48⟩),
 (65,⟨.slice 118,[.S],24⟩),
 (67,⟨.struct [(0,23),(1,65)],[.S,.S],48⟩),
 (77,⟨.slice 27,[.S],24⟩),
 (79,⟨.slice 90,[.S],24⟩),
 (81,⟨.struct [(0,27),(1,27),(2,3),(3,3),(4,79)],[.S,.S,.I,.I,.S],88⟩),
 (84,⟨.slice 143,[.S],24⟩),
 (86,⟨.struct [(0,23),(1,84)],[.S,.S],48⟩),
 (87,⟨.tuple [86,4],[],0⟩),
 (90,⟨.struct [(0,3),(1,3),(2,3),(3,3),(4,27),(5,27)],[.I,.I,.I,.I,.S,.S],80⟩),
 (92,⟨.cell,[.F],8⟩),
 (93,⟨.tuple [27,4],[],0⟩),
 (100,⟨.slice 156,[.S],24⟩),
 (102,⟨.struct [(0,100),(1,3)],[.S,.I],32⟩),
 (104,⟨.struct [(0,27),(1,27),(2,3),(3,102)],[.S,.S,.I,.S,.I],88⟩),
 (105,⟨.cell,[.P],8⟩),
 (107,⟨.struct [(0,79)],[.S],24⟩),
 (114,⟨.slice 116,[.S],24⟩),
 (116,⟨.struct [(0,3),(1,3),(2,114)],[.I,.I,.S],40⟩),
 (118,⟨.struct [(0,27),(1,3),(2,116)],[.S,.I,.I,.I,.S],72⟩),
 (124,⟨.cell,[.P],8⟩),
 (127,⟨.struct [(0,26),(2,31)],[.S,.S,.I,.I,.I,.I,.S,.S,.S],152⟩),
 (134,⟨.slice 49,[.S],24⟩),
 (143,⟨.struct [(0,27),(1,27),(2,3)],[.S,.S,.I],56⟩),
 (146,⟨.tuple [3,3],[],0⟩),
 (149,⟨.slice 153,[.S],24⟩),
 (151,⟨.struct [(0,3),(1,3),(2,149)],[.I,.I,.S],40⟩),
 (153,⟨.struct [(0,27)],[.S],24⟩),
 (154,⟨.slice 102,[.S],24⟩),
 (156,⟨.struct [(0,3),(1,3),(2,3),(3,27),(4,154)],[.I,.I,.I,.S,.S],72⟩),
 (162,⟨.cell,[.P],8⟩),
 (164,⟨.struct [(0,100),(1,3)],[.S,.I],32⟩),
 (205,⟨.tuple [3,153],[],0⟩),
 (228,⟨.cell,[.P],8⟩),
 (229,⟨.tuple [228,4],[],0⟩),
 (232,⟨.struct [(0,27),(1,27),(2,27),(3,27),(4,27),(5,27),(6,27)],[.S,.S,.S,.S,.S,.S,.S],168⟩)]
abbrev fj:Nat:=4
abbrev PI:Nat:=22
abbrev cY:Nat:=102
abbrev se:Nat:=38
abbrev ou:Nat:=153
abbrev jL:Nat:=151
abbrev bJ:Nat:=116
abbrev eF:Nat:=51
abbrev eV:Nat:=118
abbrev uD:Nat:=26
abbrev dN:Nat:=90
abbrev mD:Nat:=62
abbrev jd:Nat:=81
abbrev jW:Nat:=67
abbrev jz:Nat:=104
abbrev kE:Nat:=31
abbrev fL:Nat:=156
abbrev pu:Nat:=143
abbrev lB:Nat:=86
abbrev ay:Nat:=3
abbrev qD:Nat:=27
abbrev nE:Nat:=107
abbrev Av:Nat:=232
abbrev kW:Nat:=164
abbrev bP:Nat:=127
abbrev pv:Nat:=58
abbrev Uf:Nat:=5
def QM:tG cq WJ:=by
 unfold tG;kernel_rfl
def GL:List Nat:=List.range' 3 289
def ZT:UE cq GL:=by
 unfold UE;kernel_rfl
def mix:cq.follows .mixedOrders=true:=by kernel_rfl
def nbq(a b:Nat):Nat.beq a b=(a==b):=by rw[lD];simp
def nbl(a b:Nat):Nat.ble a b=(a -b==0):=by rw[lD];simp;omega
def nbt(a b:Nat):Nat.blt a b=(a+1 -b==0):=by rw[lD];simp[Nat.blt];omega
def gel(g:Nat):List.elem g GL=(3 -g==0&&(g -291==0)):=by rw[lD];simp[GL];omega
section
variable{α β:Type}{a:α}{b:β}
def atl(l:List α):(Array.mk l).toList=l:=rfl
end
section
variable(a b c d e f)
def o1:(Oper.mk a b c d e f).dst=a:=rfl
def o2:(Oper.mk a b c d e f).op=b:=rfl
def o3:(Oper.mk a b c d e f).type=c:=rfl
def o5:(Oper.mk a b c d e f).after=e:=rfl
def o6:(Oper.mk a b c d e f).guard=f:=rfl
end
section
variable(a b c)
def a2:(Oz.mk a b c).TG=a:=rfl
def a3:(Oz.mk a b c).UY=b:=rfl
def a4:(Oz.mk a b c).fS=c:=rfl
def t1:(TI.mk a b c).GU=a:=rfl
def t2:(TI.mk a b c).sh=b:=rfl
def t3:(TI.mk a b c).bytes=c:=rfl
def g1:(Edge.mk a b).on=a:=rfl
def g2:(Edge.mk a b).ground=b:=rfl
end
def A0:Oz:=⟨[],[],[]⟩
def cI(x:Int):SV:=.c (.i x)
def cS(x:O):SV:=.c (.s x)
def cP(x:Nat×Nat):SV:=.c (.p x.1 x.2)
instance:Coe Int SV:=⟨cI⟩
instance:Coe O SV:=⟨cS⟩
instance:Coe (Nat×Nat) SV:=⟨cP⟩
instance:Coe Int Ce:=⟨.i⟩
instance:Coe O Ce:=⟨.s⟩
def pH(n:Nat){x:TI}(h:fx WJ n=some x:=by cbv):fx WJ n=some x:=h
def tg0:=pH 0
def tg3:=pH 3
def tg4:=pH 4
def tg5:=pH 5
def YE:=pH 22
def YF:=pH 23
def YG:=pH 24
def YH:=pH 26
def YI:=pH 27
def YJ:=pH 28
def YK:=pH 29
def YL:=pH 31
def YM:=pH 32
def YN:=pH 38
def YO:=pH 44
def YP:=pH 49
def YQ:=pH 51
def YR:=pH 55
def YS:=pH 58
def YT:=pH 60
def YU:=pH 62
def YV:=pH 65
def YW:=pH 67
def YX:=pH 77
def YY:=pH 79
def YZ:=pH 81
def Y0:=pH 84
def Y1:=pH 86
def Y2:=pH 87
def Y3:=pH 90
def Y4:=pH 92
def Y5:=pH 93
def V8:=pH 100
def V9:=pH 102
def Wa:=pH 104
def Wb:=pH 105
def Wc:=pH 107
def Wd:=pH 114
def We:=pH 116
def Wf:=pH 118
def Wg:=pH 124
def Wh:=pH 127
def Wj:=pH 134
def Wk:=pH 143
def Wl:=pH 146
def Wm:=pH 149
def Wn:=pH 151
def Wo:=pH 153
def Wp:=pH 154
def Wq:=pH 156
def Wr:=pH 162
def Ws:=pH 164
def Wt:=pH 205
def Wu:=pH 228
def Wv:=pH 229
def Ww:=pH 232
def cV(m:E)(R:Value->E->Prop)(A:Oz)(a:List SV){f:FuncId}{b:Go.Func}{X:Prop}{c:Code}{n:Nat}{e:List ResultVar}{g:List Value}(k:cq.funcs[f]? =some b)
 (d:(b.body,b.ntmps,b.results)=(some c,n,Array.mk e):=by cbv)
 (i:a.all SV.js=true:=by kernel_rfl)(l:Nat.ble a.length n=true:=by kernel_rfl)(hd:pN c=true:=by kernel_rfl)
 (o:a.map SV.v=g:=by dsimp only[List.map,cI,cS,cP,SV.v,Ce.v])
 (w:Wi (Sj cq WJ GL A n e c a m R) X->True:=by intro w;obtain - :=mkT w (by sym -abstractProof=>simp[gel,A0.eq_1,cI.eq_1,cS.eq_1,cP.eq_1,tg0,tg3,tg4,tg5,YE,YF,YG,YH,YI,YJ,YK,YL,YM,YN,YO,YP,YQ,YR,YS,YT,YU,YV,YW,YX,YY,YZ,Y0,Y1,Y2,Y3,Y4,Y5,V8,V9,Wa,Wb,Wc,Wd,We,Wf,Wg,Wh,Wj,Wk,Wl,Wm,Wn,Wo,Wp,Wq,Wr,Ws,Wt,Wu,Wv,Ww,nbq,nbl,nbt,atl,o1,o2,o3,o5,o6,a2,a3,a4,t1,t2,t3,g1,g2,cA,fe,db,dW,No,List.all_nil,aW,cD,List.elem_cons,Nn,Bool.false_and,VB,VA,Bool.true_or,Nm,LC,Bool.and_true,lF,Option.map_none,iR,iQ,lO,List.flatMap_nil,List.isEmpty_cons,List.isEmpty_nil,List.any_cons,PT,qj,List.replicate_zero,tI.eq_1,tI.eq_2,vc.eq_1,vc.eq_4,vc.eq_6,vc.eq_7,vc.eq_8,tT.eq_def,Yy.eq_def,V3.eq_def,qy.eq_1,qy.eq_2,KE.eq_def,Ux.eq_1,Ux.eq_2,tJ.eq_1,Co.eq_1,Co.eq_2,kJ.eq_1,pd.eq_1,pd.eq_2,nO.eq_def,mT.eq_1,mT.eq_2,OO.eq_1,ON.eq_1,ND.eq_1,ND.eq_2,Gx.eq_1,Gx.eq_2,Qn.eq_def,V1.eq_1,Cs.eq_def,lk.eq_1,lk.eq_2,nU.eq_1,CA.eq_1,CA.eq_2,KM.eq_1,KM.eq_2,oY.eq_def,vR.eq_def,jZ.eq_1,ny.eq_1,ny.eq_2,kT.eq_1,tq.eq_1,tq.eq_2,tq.eq_3,rJ.eq_1,yF.eq_1,yF.eq_2,gd.eq_1,gd.eq_2,Ki.eq_1,rC.eq_1,rC.eq_2,Kp.eq_def,wr.eq_1,wr.eq_2,wr.eq_4,wr.eq_6,wr.eq_8,wr.eq_9,wr.eq_10,wr.eq_11,vY.eq_1,vY.eq_2,RQ.eq_1,Uy.eq_1,LF.eq_def,yY.eq_def,rd.eq_1,rd.eq_2,rd.eq_3,rd.eq_4,rd.eq_5,rd.eq_6,rd.eq_7,rd.eq_8,rd.eq_9,rd.eq_10,rd.eq_11,rd.eq_12,rd.eq_13,rd.eq_15,Sr.eq_def,VN,VO,VP,MJ.eq_1,Ge.eq_1,Ge.eq_2,NP.eq_1,Mb.eq_1,Mb.eq_2,ur.eq_1,ur.eq_2,Et.eq_1,Et.eq_2,lI.eq_1,lI.eq_2,lI.eq_3,lI.eq_4,lI.eq_5,SV.cells.eq_def,Zq.eq_def,Va.eq_def,UO.eq_def,qX.eq_1,qX.eq_2,qX.eq_3,qX.eq_6,qX.eq_7,qX.eq_8,qX.eq_9,qX.eq_10,qX.eq_11,qX.eq_12,VR,VT,V0.eq_1,GZ.eq_1,GZ.eq_2,GZ.eq_3,kP.eq_def,SV.js.eq_def,TI.tQ.eq_1,TI.agg.eq_1,Sh.zero.eq_1,Sh.zero.eq_2,Sh.zero.eq_3,Sh.zero.eq_4,Sh.zero.eq_5,Sh.zero.eq_6,Sh.zero.eq_7,ev.eq_1,ev.eq_2,ev.eq_3,ev.eq_4,Ev.eq_def,oQ.eq_1,oQ.eq_2,jX.eq_1,jX.eq_3,jX.eq_4,jX.eq_5,jX.eq_6,jX.eq_7,tp.eq_1,tp.eq_2,SV.nb.eq_def,gL.eq_1,gL.eq_2,AV.sv.eq_1,AV.sv.eq_2,SV.v.eq_1,SV.v.eq_2,SV.v.eq_3,SV.v.eq_4,SV.v.eq_5,SV.v.eq_6,SV.v.eq_7,SV.v.eq_8,SV.v.eq_9,AV.v.eq_1,AV.v.eq_2,Ce.v.eq_1,Ce.v.eq_2,Ce.v.eq_3,Ce.v.eq_4,Ce.v.eq_5,Ce.v.eq_6,Ce.v.eq_7,Ce.v.eq_8,Ce.v.eq_9,Ce.v.eq_10,Ce.v.eq_11,Ce.v.eq_12,Ce.v.eq_13,uq.eq_1,uq.eq_2,Tv.eq_1,Ey.eq_def,iO.eq_1,iO.eq_2,Gu.eq_1,Gu.eq_2,Nx.eq_1,Nx.eq_2,Sh.ty.eq_1,Sh.ty.eq_2,Sh.ty.eq_3,Sh.ty.eq_4,Sh.ty.eq_5,Sh.ty.eq_6,Sh.ty.eq_7,Sh.mk.eq_1,Sh.mk.eq_2,Sh.mk.eq_3,Sh.mk.eq_4,Sh.mk.eq_5,Sh.mk.eq_6,Sh.mk.eq_7,P6.eq_1,SV.US.eq_def,AV.US.eq_1,AV.US.eq_2,Fb.eq_1,Vi.eq_1,Vi.eq_2,SZ.eq_1,SZ.eq_2,Z2.eq_1,Z1.eq_1,Z7.eq_1,Z8.eq_1,Z4.eq_1,ZW.eq_1,ZX.eq_1,pa.eq_1,p3.eq_1,p2.eq_1,Rg.eq_1,U8.eq_1,Z0.eq_1,Z3.eq_1,Ys.eq_1,Z9.eq_1,Z6.eq_1,Z5.eq_1,U9.eq_1,ZY.eq_1,ZZ.eq_1,kw.eq_1,kr.eq_1,ky.eq_1,kn.eq_1,ZM.eq_1,ZP.eq_1,Zi.eq_1,ZN.eq_1,ZQ.eq_1,ZO.eq_1,kq.eq_1,ks.eq_def,kc.eq_def,ki.eq_1,kb.eq_def,ke.eq_def,kl.eq_1,kR.eq_def,kx.eq_1,kz.eq_1,kf.eq_def,NB.eq_1,Yg,Tp,Q6,Q3,VK,VL,VU,Tl,Yd,Tm,VQ,Tn,Tj,Tk,VS,VV,Q2,Tq,Q4,Q5,Yf,Ye,VG,VH,exI,exU,exB,Ym,exP,exF,exM,alI,alU,alB,XR,alP,alF,alM,cU8,z0,z1,tb,VI,b1,b2,b3,b4,b5,b6,Ts,Tt,Yj,Yi,Yh,VJ,VM,rg1,rg2,rg3,rg4,rg5,rg6,rg7,jm];exact Tg.lf _) (by refine Tg.pm.trans ?_;dsimp -zeta+instances only[↓Rm,ile,↓Yq,nze,nce,Gu,Nx,Sh.ty,Int.cast_ofNat_Int]);trivial)
 (j:X=Sj cq WJ GL A n e c a m R:=by kernel_rfl)
 :X->aN cq f g m R:=λh=>by
 subst o
 exact Ed QM ZT mix k (th Prod.fst d) (th (λx=>x.2.1) d) (th (λx=>x.2.2) d) i (kZ l) hd (j▸h)
def aah(m:E)(R:Value->E->Prop)(A:Oz)(a:List SV){f:FuncId}{b:Go.Func}{X:Prop}{c:Code}{n:Nat}{e:List ResultVar}{g:List Value}(k:cq.funcs[f]? =some b)
 (d:(b.body,b.ntmps,b.results)=(some c,n,Array.mk e):=by cbv)
 (i:a.all SV.js=true:=by kernel_rfl)(l:Nat.ble a.length n=true:=by kernel_rfl)(hd:pN c=true:=by kernel_rfl)
 (o:a.map SV.v=g:=by dsimp only[List.map,cI,cS,cP,SV.v,Ce.v])
 (w:Wi (Sj cq WJ GL A n e c a m R) X->True:=by intro w;obtain - :=mkT w (by sym -abstractProof=>simp[gel,A0.eq_1,cI.eq_1,cS.eq_1,cP.eq_1,tg0,tg3,tg4,tg5,YE,YF,YG,YH,YI,YJ,YK,YL,YM,YN,YO,YP,YQ,YR,YS,YT,YU,YV,YW,YX,YY,YZ,Y0,Y1,Y2,Y3,Y4,Y5,V8,V9,Wa,Wb,Wc,Wd,We,Wf,Wg,Wh,Wj,Wk,Wl,Wm,Wn,Wo,Wp,Wq,Wr,Ws,Wt,Wu,Wv,Ww,nbq,nbl,nbt,atl,o1,o2,o3,o5,o6,a2,a3,a4,t1,t2,t3,g1,g2,cA,fe,db,dW,No,List.all_nil,aW,cD,List.elem_cons,Nn,Bool.false_and,VB,VA,Bool.true_or,Nm,LC,Bool.and_true,lF,Option.map_none,iR,iQ,lO,List.flatMap_nil,List.isEmpty_cons,List.isEmpty_nil,List.any_cons,PT,qj,List.replicate_zero,tI.eq_1,tI.eq_2,vc.eq_1,vc.eq_4,vc.eq_6,vc.eq_7,vc.eq_8,tT.eq_def,Yy.eq_def,V3.eq_def,qy.eq_1,qy.eq_2,KE.eq_def,Ux.eq_1,Ux.eq_2,tJ.eq_1,Co.eq_1,Co.eq_2,kJ.eq_1,pd.eq_1,pd.eq_2,nO.eq_def,mT.eq_1,mT.eq_2,OO.eq_1,ON.eq_1,ND.eq_1,ND.eq_2,Gx.eq_1,Gx.eq_2,Qn.eq_def,V1.eq_1,Cs.eq_def,lk.eq_1,lk.eq_2,nU.eq_1,CA.eq_1,CA.eq_2,oY.eq_def,vR.eq_def,jZ.eq_1,ny.eq_1,ny.eq_2,kT.eq_1,tq.eq_1,tq.eq_2,tq.eq_3,rJ.eq_1,yF.eq_1,yF.eq_2,gd.eq_1,gd.eq_2,Ki.eq_1,rC.eq_1,rC.eq_2,Kp.eq_def,wr.eq_1,wr.eq_2,wr.eq_4,wr.eq_6,wr.eq_8,wr.eq_9,wr.eq_10,wr.eq_11,vY.eq_1,vY.eq_2,RQ.eq_1,Uy.eq_1,LF.eq_def,yY.eq_def,rd.eq_1,rd.eq_2,rd.eq_3,rd.eq_4,rd.eq_5,rd.eq_6,rd.eq_7,rd.eq_8,rd.eq_9,rd.eq_10,rd.eq_11,rd.eq_12,rd.eq_13,rd.eq_15,Sr.eq_def,VN,VO,VP,MJ.eq_1,Ge.eq_1,Ge.eq_2,NP.eq_1,Mb.eq_1,Mb.eq_2,ur.eq_1,ur.eq_2,Et.eq_1,Et.eq_2,lI.eq_1,lI.eq_2,lI.eq_3,lI.eq_4,lI.eq_5,SV.cells.eq_def,Zq.eq_def,Va.eq_def,UO.eq_def,qX.eq_1,qX.eq_2,qX.eq_3,qX.eq_6,qX.eq_7,qX.eq_8,qX.eq_9,qX.eq_10,qX.eq_11,qX.eq_12,VR,VT,V0.eq_1,GZ.eq_1,GZ.eq_2,GZ.eq_3,kP.eq_def,SV.js.eq_def,TI.tQ.eq_1,TI.agg.eq_1,Sh.zero.eq_1,Sh.zero.eq_2,Sh.zero.eq_3,Sh.zero.eq_4,Sh.zero.eq_5,Sh.zero.eq_6,Sh.zero.eq_7,ev.eq_1,ev.eq_2,ev.eq_3,ev.eq_4,Ev.eq_def,oQ.eq_1,oQ.eq_2,jX.eq_1,jX.eq_3,jX.eq_4,jX.eq_5,jX.eq_6,jX.eq_7,tp.eq_1,tp.eq_2,SV.nb.eq_def,gL.eq_1,gL.eq_2,AV.sv.eq_1,AV.sv.eq_2,SV.v.eq_1,SV.v.eq_2,SV.v.eq_3,SV.v.eq_4,SV.v.eq_5,SV.v.eq_6,SV.v.eq_7,SV.v.eq_8,SV.v.eq_9,AV.v.eq_1,AV.v.eq_2,Ce.v.eq_1,Ce.v.eq_2,Ce.v.eq_3,Ce.v.eq_4,Ce.v.eq_5,Ce.v.eq_6,Ce.v.eq_7,Ce.v.eq_8,Ce.v.eq_9,Ce.v.eq_10,Ce.v.eq_11,Ce.v.eq_12,Ce.v.eq_13,uq.eq_1,uq.eq_2,Tv.eq_1,Ey.eq_def,iO.eq_1,iO.eq_2,Gu.eq_1,Gu.eq_2,Nx.eq_1,Nx.eq_2,Sh.ty.eq_1,Sh.ty.eq_2,Sh.ty.eq_3,Sh.ty.eq_4,Sh.ty.eq_5,Sh.ty.eq_6,Sh.ty.eq_7,Sh.mk.eq_1,Sh.mk.eq_2,Sh.mk.eq_3,Sh.mk.eq_4,Sh.mk.eq_5,Sh.mk.eq_6,Sh.mk.eq_7,P6.eq_1,SV.US.eq_def,AV.US.eq_1,AV.US.eq_2,Fb.eq_1,Vi.eq_1,Vi.eq_2,SZ.eq_1,SZ.eq_2,Z2.eq_1,Z1.eq_1,Z7.eq_1,Z8.eq_1,Z4.eq_1,ZW.eq_1,ZX.eq_1,pa.eq_1,p3.eq_1,p2.eq_1,Rg.eq_1,U8.eq_1,Z0.eq_1,Z3.eq_1,Ys.eq_1,Z9.eq_1,Z6.eq_1,Z5.eq_1,U9.eq_1,ZY.eq_1,ZZ.eq_1,kw.eq_1,kr.eq_1,ky.eq_1,kn.eq_1,ZM.eq_1,ZP.eq_1,Zi.eq_1,ZN.eq_1,ZQ.eq_1,ZO.eq_1,kq.eq_1,ks.eq_def,kc.eq_def,ki.eq_1,kb.eq_def,ke.eq_def,kl.eq_1,kR.eq_def,kx.eq_1,kz.eq_1,kf.eq_def,NB.eq_1,Yg,Tp,Q6,Q3,VK,VL,VU,Tl,Yd,Tm,VQ,Tn,Tj,Tk,VS,VV,Q2,Tq,Q4,Q5,Yf,Ye,VG,VH,exI,exU,exB,Ym,exP,exF,exM,alI,alU,alB,XR,alP,alF,alM,cU8,z0,z1,tb,VI,b1,b2,b3,b4,b5,b6,Ts,Tt,Yj,Yi,Yh,VJ,VM];simp[cA,fe,jm,KM.eq_1,KM.eq_2,rg1,rg2,rg3,rg4,rg5,rg6,rg7];exact Tg.lf _) (by refine Tg.pm2.trans ?_;dsimp -zeta+instances only[↓Rm,ile,↓Yq,nze,nce,Gu,Nx,Sh.ty,Int.cast_ofNat_Int]);trivial)
 (j:X=Sj cq WJ GL A n e c a m R:=by kernel_rfl)
 :X->aN cq f g m R:=λh=>by
 subst o
 exact Ed QM ZT mix k (th Prod.fst d) (th (λx=>x.2.1) d) (th (λx=>x.2.2) d) i (kZ l) hd (j▸h)
end
section
open Tryz
variable{m:E}{R:Value->E->Prop}
variable{a b c d e f g h p q r u v w x y:O}{i j k l n o s t z A B C D F G H:Int}
def sN(a:O):=cV m R A0 [a] func5
def yQ(a:O):=cV m R ⟨[(4,[(5,.I)])],[],[]⟩ [a,b] func7
def xB(a:O):=cV m R A0 [.agg [a,b],.agg [i,j,k,l,c,d,e]] func9
def CV(a:O):=cV m R ⟨[(6,[(6,.S),(19,.I)])],[],[(6,[42,41])]⟩ [.agg [a,b],.agg [i,j,k,l,c,d,e]] func10
def IP(a:O):=cV m R ⟨[(2,[(5,.I)])],[],[]⟩ [a,i] func11
def we(a:O):=cV m R A0 [a] func13
def Dg(a:O):=cV m R ⟨[(6,[(6,.S),(7,.I)])],[],[(6,[47,46])]⟩ [.agg [a,b],.agg [i,j,k,l,c,d,e]] func14
def xz(a:O):=cV m R ⟨[(5,[(21,.I)]),(8,[(28,.I)])],[],[(5,[50,49]),(8,[54,50,49])]⟩ [.agg [a,b],.agg [i,j,k,l,c,d,e]] func15
def CW(a:O):=cV m R ⟨[(5,[(6,.S)])],[],[]⟩ [a,b] func16
def ER(a:O):=cV m R ⟨[(3,[(3,.S),(4,.I)])],[],[]⟩ [a] func17
def ET(a:O):=cV m R ⟨[(2,[(5,.I)])],[],[]⟩ [a,b] func18
def zS(a:O):=cV m R A0 [a] func19
def wE(p:Nat×Nat):=cV m R A0 [p,i] func20
end
section
open Tryz
variable{m:E}{R:Value->E->Prop}
variable{a b p d e f g h r u v w x y z B:O}{i j k l q o s t C D F G H I J K:Int}
def tE(p:Nat×Nat):=cV m R A0 [p] func21
def xI(p:Nat×Nat):=cV m R A0 [p] func22
def vW(a:O):=cV m R ⟨[(3,[(5,.S),(13,.I)]),(6,[(5,.S),(25,.I)])],[],[(3,[63,62]),(6,[67,63,62])]⟩ [.agg [a,b],.agg [i,j,k,l,p,d,e]] func23
def yl(a:O):=cV m R ⟨[(8,[(5,.I)])],[(5,[])],[(5,[93,92]),(8,[93,92])]⟩ [.agg [a,b],.agg [i,j,k,l,p,d,e]] func24
def DL(a:O):=cV m R ⟨[(3,[(6,.S)]),(11,[(8,.S),(9,.I)])],[],[]⟩ [a,b] func25
def zQ(a:O):=cV m R ⟨[(3,[(5,.S),(6,.I)])],[],[(3,[60,59])]⟩ [.agg [a,b],.agg [i,j,k,l,p,d,e]] func26
def xA(a:O):=cV m R ⟨[(5,[(20,.I)]),(13,[(66,.I)])],[(12,[])],[(5,[82,80]),(12,[85,82,80]),(13,[85,82,80])]⟩ [.agg [a,b]] func27
def xE(a:O):=cV m R ⟨[(10,[(95,.I)]),(20,[(158,.I)])],[(3,[]),(16,[]),(24,[])],[(3,[191,190]),(10,[191,190]),(16,[197,191,190]),(20,[191,190]),(24,[191,190])]⟩ [.agg [a,b],.agg [i,j,k,l,p,d,e]] func28
def qL(a:O):=cV m R A0 [a,i] func29
def Ja(a:O):=cV m R ⟨[(2,[(5,.I)])],[],[]⟩ [a,i] func30
def yM(a:O):=cV m R ⟨[(3,[(3,.S),(8,.I)])],[],[]⟩ [a] func31
def yJ(a:O):=cV m R A0 [a] func32
def sL(a:O):=cV m R A0 [a] func33
def EM(a:O):=cV m R A0 [a,i] func34
def Dw(a:O):=cV m R ⟨[(3,[(4,.I)])],[],[(3,[75,74])]⟩ [.agg [a,b]] func35
def Dt(a:O):=cV m R ⟨[(3,[(4,.I)])],[],[(3,[38,37])]⟩ [.agg [a,b]] func36
def zW(a:O):=cV m R ⟨[(3,[(4,.I)])],[(8,[(7,.P)])],[(3,[51,50]),(8,[54,51,50])]⟩ [.agg [a,b]] func37
def rH(r:Nat×Nat)(m:E)(R:Value->E->Prop):Prop:=
 let M:E:=m.push (.cells (bD [.s O.nil,.s O.nil]) 67)
 aN cq 72 [vp r.1 r.2] M λca b=>
 eG [m.size] M b/\
 ∃o:O,ca=O.v o/\
 let b7:E:=b.push (.cells (bD [.s O.nil,.s O.nil]) 67)
 NN b.size b.size (
 let aa:E:=ai b7 b.size 0 [.s o,.s O.nil]
 let aj:E:=aa.push (.cells (bD [.i (1:Int)]) 3)
 aN cq 73 [O.v (O.mk aa.size 0 1 1),vi (0:Int)] aj λcl F=>
 eG [b.size,m.size] aj F/\
 ∃ap:O,∃aI:Int,∃a0:Int,∃bg:Int,∃bx:O,cl=.agg #[O.v ap,vi aI,vi a0,vi bg,O.v bx]/\
 let an:E:=F.push (.cells (bD [.i (1:Int),.i (1:Int)]) 3)
 aN cq 73 [O.v (O.mk F.size 0 2 2),vi (1:Int)] an λct H=>
 eG [b.size,m.size] an H/\
 ∃aq:O,∃aS:Int,∃a9:Int,∃bh:Int,∃bz:O,ct=.agg #[O.v aq,vi aS,vi a9,vi bh,O.v bz]/\
 let ao:E:=H.push (.cells (bD [.i (1:Int)]) 3)
 aN cq 73 [O.v (O.mk H.size 0 1 1),vi (1:Int)] ao λcu I=>
 eG [b.size,m.size] ao I/\
 ∃aA:O,∃aT:Int,∃a_:Int,∃bp:Int,∃bI:O,cu=.agg #[O.v aA,vi aT,vi a_,vi bp,O.v bI]/\
 let N:E:=I.push (.cells (bD [.i (1:Int),.i (0:Int)]) 3)
 aN cq 73 [O.v (O.mk I.size 0 2 2),vi (1:Int)] N λcv t=>
 eG [b.size,m.size] N t/\
 ∃aB:O,∃aU:Int,∃ba:Int,∃bq:Int,∃bJ:O,cv=.agg #[O.v aB,vi aU,vi ba,vi bq,O.v bJ]/\
 let P:E:=t.push (.cells (bD [.i (2:Int),.i (1:Int)]) 3)
 aN cq 73 [O.v (O.mk t.size 0 2 2),vi (1:Int)] P λcw u=>
 eG [b.size,m.size] P u/\
 ∃aC:O,∃aV:Int,∃bb:Int,∃br:Int,∃bK:O,cw=.agg #[O.v aC,vi aV,vi bb,vi br,O.v bK]/\
 let Q:E:=u.push (.cells (bD [.i (1:Int),.i (1:Int)]) 3)
 aN cq 73 [O.v (O.mk u.size 0 2 2),vi (0:Int)] Q λcx a=>
 eG [b.size,m.size] Q a/\
 ∃aD:O,∃aW:Int,∃bc:Int,∃bs:Int,∃bL:O,cx=.agg #[O.v aD,vi aW,vi bc,vi bs,O.v bL]/\
 let S:E:=a.push (.cells (bD [.s ap,.i aI,.i a0,.i bg,.s bx,.s aq,.i aS,.i a9,.i bh,.s bz,.s aA,.i aT,.i a_,.i bp,.s bI,.s aB,.i aU,.i ba,.i bq,.s bJ,.s aC,.i aV,.i bb,.i br,.s bK,.s aD,.i aW,.i bc,.i bs,.s bL]) 118)
 let T:E:=S.push (.cells (bD [.i (3:Int)]) 3)
 aN cq 73 [O.v (O.mk S.size 0 1 1),vi (0:Int)] T λcb v=>
 eG [b.size,m.size] T v/\
 ∃aE:O,∃aX:Int,∃bd:Int,∃bt:Int,∃bM:O,cb=.agg #[O.v aE,vi aX,vi bd,vi bt,O.v bM]/\
 let U:E:=v.push (.cells (bD [.i (0:Int)]) 3)
 aN cq 73 [O.v (O.mk v.size 0 1 1),vi (1:Int)] U λcc w=>
 eG [b.size,m.size] U w/\
 ∃aF:O,∃aY:Int,∃be:Int,∃bu:Int,∃bN:O,cc=.agg #[O.v aF,vi aY,vi be,vi bu,O.v bN]/\
 let V:E:=w.push (.cells (bD [.i (0:Int),.i (1:Int)]) 3)
 aN cq 73 [O.v (O.mk w.size 0 2 2),vi (1:Int)] V λcd x=>
 eG [b.size,m.size] V x/\
 ∃aG:O,∃aZ:Int,∃bf:Int,∃bv:Int,∃bO:O,cd=.agg #[O.v aG,vi aZ,vi bf,vi bv,O.v bO]/\
 let W:E:=x.push (.cells (bD [.i (3:Int),.i (0:Int)]) 3)
 aN cq 73 [O.v (O.mk x.size 0 2 2),vi (3:Int)] W λce y=>
 eG [b.size,m.size] W y/\
 ∃aH:O,∃aJ:Int,∃a1:Int,∃bw:Int,∃bP:O,ce=.agg #[O.v aH,vi aJ,vi a1,vi bw,O.v bP]/\
 let X:E:=y.push (.cells (bD [.i (3:Int)]) 3)
 aN cq 73 [O.v (O.mk y.size 0 1 1),vi (1:Int)] X λcf z=>
 eG [b.size,m.size] X z/\
 ∃ar:O,∃aK:Int,∃a2:Int,∃bi:Int,∃bA:O,cf=.agg #[O.v ar,vi aK,vi a2,vi bi,O.v bA]/\
 let Y:E:=z.push (.cells (bD [.i (1:Int),.i (3:Int),.i (0:Int)]) 3)
 aN cq 73 [O.v (O.mk z.size 0 3 3),vi (0:Int)] Y λcg d=>
 eG [b.size,m.size] Y d/\
 ∃au:O,∃aL:Int,∃a3:Int,∃bj:Int,∃bB:O,cg=.agg #[O.v au,vi aL,vi a3,vi bj,O.v bB]/\
 let Z:E:=d.push (.cells (bD [.s aE,.i aX,.i bd,.i bt,.s bM,.s aF,.i aY,.i be,.i bu,.s bN,.s aG,.i aZ,.i bf,.i bv,.s bO,.s aH,.i aJ,.i a1,.i bw,.s bP,.s ar,.i aK,.i a2,.i bi,.s bA,.s au,.i aL,.i a3,.i bj,.s bB]) 118)
 let ab:E:=Z.push (.cells (bD [.i (0:Int)]) 3)
 aN cq 73 [O.v (O.mk Z.size 0 1 1),vi (0:Int)] ab λch A=>
 eG [b.size,m.size] ab A/\
 ∃av:O,∃aM:Int,∃a4:Int,∃bk:Int,∃bC:O,ch=.agg #[O.v av,vi aM,vi a4,vi bk,O.v bC]/\
 let ac:E:=A.push (.cells (bD [.i (0:Int),.i (0:Int)]) 3)
 aN cq 73 [O.v (O.mk A.size 0 2 2),vi (0:Int)] ac λci B=>
 eG [b.size,m.size] ac B/\
 ∃aw:O,∃aO:Int,∃a5:Int,∃bl:Int,∃bE:O,ci=.agg #[O.v aw,vi aO,vi a5,vi bl,O.v bE]/\
 let ad:E:=B.push (.cells (bD [.i (1:Int),.i (0:Int)]) 3)
 aN cq 73 [O.v (O.mk B.size 0 2 2),vi (0:Int)] ad λcj C=>
 eG [b.size,m.size] ad C/\
 ∃ax:O,∃aP:Int,∃a6:Int,∃bm:Int,∃bF:O,cj=.agg #[O.v ax,vi aP,vi a6,vi bm,O.v bF]/\
 let ae:E:=C.push (.cells (bD [.i (0:Int)]) 3)
 aN cq 73 [O.v (O.mk C.size 0 1 1),vi (1:Int)] ae λck j=>
 eG [b.size,m.size] ae j/\
 ∃ay:O,∃aQ:Int,∃a7:Int,∃bn:Int,∃bG:O,ck=.agg #[O.v ay,vi aQ,vi a7,vi bn,O.v bG]/\
 let ag:E:=j.push (.cells (bD [.s av,.i aM,.i a4,.i bk,.s bC,.s aw,.i aO,.i a5,.i bl,.s bE,.s ax,.i aP,.i a6,.i bm,.s bF,.s ay,.i aQ,.i a7,.i bn,.s bG]) 118)
 let ah:E:=ag.push (.cells (bD []) 3)
 aN cq 73 [O.v (O.mk ag.size 0 0 0),vi (0:Int)] ah λcm D=>
 eG [b.size,m.size] ah D/\
 ∃az:O,∃aR:Int,∃a8:Int,∃bo:Int,∃bH:O,cm=.agg #[O.v az,vi aR,vi a8,vi bo,O.v bH]/\
 aN cq 20 [vp r.1 r.2,vi ((O.mk a.size 0 6 6).len:Int)] D λcn k=>
 eG [b.size,m.size] D k/\
 ∃e:Int,cn=vi e/\
 (0:Int)<=e/\e<((O.mk a.size 0 6 6).len:Int)/\
 ∃bR:O,af k ((O.mk a.size 0 6 6).az) ((O.mk a.size 0 6 6).off+Int.toNat e*5)=some (O.v bR)/\
 ∃bS:Int,af k ((O.mk a.size 0 6 6).az) ((O.mk a.size 0 6 6).off+Int.toNat e*5+1)=some (vi bS)/\
 ∃bT:Int,af k ((O.mk a.size 0 6 6).az) ((O.mk a.size 0 6 6).off+Int.toNat e*5+2)=some (vi bT)/\
 ∃bU:Int,af k ((O.mk a.size 0 6 6).az) ((O.mk a.size 0 6 6).off+Int.toNat e*5+3)=some (vi bU)/\
 ∃bV:O,af k ((O.mk a.size 0 6 6).az) ((O.mk a.size 0 6 6).off+Int.toNat e*5+4)=some (O.v bV)/\
 aN cq 20 [vp r.1 r.2,vi ((O.mk d.size 0 6 6).len:Int)] k λco g=>
 eG [b.size,m.size] k g/\
 ∃i:Int,co=vi i/\
 af g ((O.mk a.size 0 6 6).az) ((O.mk a.size 0 6 6).off+Int.toNat e*5)=af k ((O.mk a.size 0 6 6).az) ((O.mk a.size 0 6 6).off+Int.toNat e*5)/\
 af g ((O.mk a.size 0 6 6).az) ((O.mk a.size 0 6 6).off+Int.toNat e*5+1)=af k ((O.mk a.size 0 6 6).az) ((O.mk a.size 0 6 6).off+Int.toNat e*5+1)/\
 af g ((O.mk a.size 0 6 6).az) ((O.mk a.size 0 6 6).off+Int.toNat e*5+2)=af k ((O.mk a.size 0 6 6).az) ((O.mk a.size 0 6 6).off+Int.toNat e*5+2)/\
 af g ((O.mk a.size 0 6 6).az) ((O.mk a.size 0 6 6).off+Int.toNat e*5+3)=af k ((O.mk a.size 0 6 6).az) ((O.mk a.size 0 6 6).off+Int.toNat e*5+3)/\
 af g ((O.mk a.size 0 6 6).az) ((O.mk a.size 0 6 6).off+Int.toNat e*5+4)=af k ((O.mk a.size 0 6 6).az) ((O.mk a.size 0 6 6).off+Int.toNat e*5+4)/\
 (0:Int)<=i/\i<((O.mk d.size 0 6 6).len:Int)/\
 ∃bW:O,af g ((O.mk d.size 0 6 6).az) ((O.mk d.size 0 6 6).off+Int.toNat i*5)=some (O.v bW)/\
 ∃bX:Int,af g ((O.mk d.size 0 6 6).az) ((O.mk d.size 0 6 6).off+Int.toNat i*5+1)=some (vi bX)/\
 ∃bY:Int,af g ((O.mk d.size 0 6 6).az) ((O.mk d.size 0 6 6).off+Int.toNat i*5+2)=some (vi bY)/\
 ∃bZ:Int,af g ((O.mk d.size 0 6 6).az) ((O.mk d.size 0 6 6).off+Int.toNat i*5+3)=some (vi bZ)/\
 ∃b0:O,af g ((O.mk d.size 0 6 6).az) ((O.mk d.size 0 6 6).off+Int.toNat i*5+4)=some (O.v b0)/\
 aN cq 20 [vp r.1 r.2,vi ((O.mk j.size 0 4 4).len:Int)] g λcp c=>
 eG [b.size,m.size] g c/\
 ∃n:Int,cp=vi n/\
 af c ((O.mk d.size 0 6 6).az) ((O.mk d.size 0 6 6).off+Int.toNat i*5)=af g ((O.mk d.size 0 6 6).az) ((O.mk d.size 0 6 6).off+Int.toNat i*5)/\
 af c ((O.mk d.size 0 6 6).az) ((O.mk d.size 0 6 6).off+Int.toNat i*5+1)=af g ((O.mk d.size 0 6 6).az) ((O.mk d.size 0 6 6).off+Int.toNat i*5+1)/\
 af c ((O.mk d.size 0 6 6).az) ((O.mk d.size 0 6 6).off+Int.toNat i*5+2)=af g ((O.mk d.size 0 6 6).az) ((O.mk d.size 0 6 6).off+Int.toNat i*5+2)/\
 af c ((O.mk d.size 0 6 6).az) ((O.mk d.size 0 6 6).off+Int.toNat i*5+3)=af g ((O.mk d.size 0 6 6).az) ((O.mk d.size 0 6 6).off+Int.toNat i*5+3)/\
 af c ((O.mk d.size 0 6 6).az) ((O.mk d.size 0 6 6).off+Int.toNat i*5+4)=af g ((O.mk d.size 0 6 6).az) ((O.mk d.size 0 6 6).off+Int.toNat i*5+4)/\
 af c ((O.mk a.size 0 6 6).az) ((O.mk a.size 0 6 6).off+Int.toNat e*5)=af g ((O.mk a.size 0 6 6).az) ((O.mk a.size 0 6 6).off+Int.toNat e*5)/\
 af c ((O.mk a.size 0 6 6).az) ((O.mk a.size 0 6 6).off+Int.toNat e*5+1)=af g ((O.mk a.size 0 6 6).az) ((O.mk a.size 0 6 6).off+Int.toNat e*5+1)/\
 af c ((O.mk a.size 0 6 6).az) ((O.mk a.size 0 6 6).off+Int.toNat e*5+2)=af g ((O.mk a.size 0 6 6).az) ((O.mk a.size 0 6 6).off+Int.toNat e*5+2)/\
 af c ((O.mk a.size 0 6 6).az) ((O.mk a.size 0 6 6).off+Int.toNat e*5+3)=af g ((O.mk a.size 0 6 6).az) ((O.mk a.size 0 6 6).off+Int.toNat e*5+3)/\
 af c ((O.mk a.size 0 6 6).az) ((O.mk a.size 0 6 6).off+Int.toNat e*5+4)=af g ((O.mk a.size 0 6 6).az) ((O.mk a.size 0 6 6).off+Int.toNat e*5+4)/\
 (0:Int)<=n/\n<((O.mk j.size 0 4 4).len:Int)/\
 ∃b1:O,af c ((O.mk j.size 0 4 4).az) ((O.mk j.size 0 4 4).off+Int.toNat n*5)=some (O.v b1)/\
 ∃b2:Int,af c ((O.mk j.size 0 4 4).az) ((O.mk j.size 0 4 4).off+Int.toNat n*5+1)=some (vi b2)/\
 ∃b3:Int,af c ((O.mk j.size 0 4 4).az) ((O.mk j.size 0 4 4).off+Int.toNat n*5+2)=some (vi b3)/\
 ∃b4:Int,af c ((O.mk j.size 0 4 4).az) ((O.mk j.size 0 4 4).off+Int.toNat n*5+3)=some (vi b4)/\
 ∃b5:O,af c ((O.mk j.size 0 4 4).az) ((O.mk j.size 0 4 4).off+Int.toNat n*5+4)=some (O.v b5)/\
 let b8:E:=c.push (.cells (bD [.s az,.i aR,.i a8,.i bo,.s bH,.s bR,.i bS,.i bT,.i bU,.s bV,.s bW,.i bX,.i bY,.i bZ,.s b0,.s b1,.i b2,.i b3,.i b4,.s b5]) 118)
 NN b.size b.size (
 let ak:E:=ai b8 b.size 1 [.s (O.mk c.size 0 4 4)]
 let al:E:=ak.push (.cells (bD [.i (4:Int),.i (4:Int),.i (3:Int),.i (2:Int),.i (4:Int)]) 3)
 aN cq 74 [vp r.1 r.2,O.v (O.mk ak.size 0 5 5)] al λcr am=>
 eG [b.size,m.size] al am/\
 ∃h:Int,cr=vi h/\
 NN b.size b.size (
 (0:Int)<=(0:Int)/\(0:Int)<=h/\h<=((O.mk c.size 0 4 4).cap:Int)/\
 NN b.size b.size (
 let b9:E:=ai am b.size 1 [.s (O.cut (O.mk c.size 0 4 4) (Int.toNat (0:Int)) (Int.toNat h) 5)]
 ∃(s:Int->E->Prop)(μ0:Int->E->Nat),
 s (cQ (h -(1:Int))) b9/\
 (∀(f:Int)(p:E),s f p->
 ((decide (f>=(0:Int)))=true->
 NN b.size b.size (
 aN cq 75 [vp r.1 r.2,.agg #[O.v o,O.v (O.cut (O.mk c.size 0 4 4) (Int.toNat (0:Int)) (Int.toNat h) 5)],vi f] p λcs l=>
 eG [b.size,m.size] p l/\
 ∃J:Int,∃K:Int,∃L:O,cs=.agg #[vi J,vi K,O.v L]/\
 let b_:E:=l.push (.cells (bD [.i (0:Int),.i (0:Int),.s O.nil]) 116)
 NN l.size l.size (
 let q:E:=ai b_ l.size 0 [.i J,.i K,.s L]
 NN b.size b.size (
 NN b.size b.size (
 (0:Int)<=f/\f<((O.cut (O.mk c.size 0 4 4) (Int.toNat (0:Int)) (Int.toNat h) 5).len:Int)/\
 ∃b6:O,af q ((O.cut (O.mk c.size 0 4 4) (Int.toNat (0:Int)) (Int.toNat h) 5).az) ((O.cut (O.mk c.size 0 4 4) (Int.toNat (0:Int)) (Int.toNat h) 5).off+Int.toNat f*5)=some (O.v b6)/\
 NN b.size b.size (
 (0:Int)<=f/\f<((O.cut (O.mk c.size 0 4 4) (Int.toNat (0:Int)) (Int.toNat h) 5).len:Int)/\
 ∃bQ:Int,af q ((O.cut (O.mk c.size 0 4 4) (Int.toNat (0:Int)) (Int.toNat h) 5).az) ((O.cut (O.mk c.size 0 4 4) (Int.toNat (0:Int)) (Int.toNat h) 5).off+Int.toNat f*5+1)=some (vi bQ)/\
 NN l.size l.size (
 (0:Int)<=f/\f<((O.cut (O.mk c.size 0 4 4) (Int.toNat (0:Int)) (Int.toNat h) 5).len:Int)/\
 fg q ((O.cut (O.mk c.size 0 4 4) (Int.toNat (0:Int)) (Int.toNat h) 5).az) ((O.cut (O.mk c.size 0 4 4) (Int.toNat (0:Int)) (Int.toNat h) 5).off+Int.toNat f*5) 5/\
 let G:E:=ai q ((O.cut (O.mk c.size 0 4 4) (Int.toNat (0:Int)) (Int.toNat h) 5).az) ((O.cut (O.mk c.size 0 4 4) (Int.toNat (0:Int)) (Int.toNat h) 5).off+Int.toNat f*5) [.s b6,.i bQ,.i J,.i K,.s L]
 eG [l.size,b.size,m.size] q G/\
 Yl (SV.box b.size 67 [.s o,.s (O.cut (O.mk c.size 0 4 4) (Int.toNat (0:Int)) (Int.toNat h) 5)]) (SV.box b.size 67 [.s o,.s (O.cut (O.mk c.size 0 4 4) (Int.toNat (0:Int)) (Int.toNat h) 5)]) (
 Yl (SV.box m.size 67 [.s O.nil,.s O.nil]) (SV.box m.size 67 [.s O.nil,.s O.nil]) (
 s (cQ (f -(1:Int))) G/\μ0 (cQ (f -(1:Int))) G<μ0 f p)))))))))/\
 ((decide (f>=(0:Int)))=false->
 NN b.size b.size (
 NN m.size m.size (
 let l:E:=ai p m.size 0 [.s o,.s (O.cut (O.mk c.size 0 4 4) (Int.toNat (0:Int)) (Int.toNat h) 5)]
 NN m.size m.size (
 R (.agg #[O.v o,O.v (O.cut (O.mk c.size 0 4 4) (Int.toNat (0:Int)) (Int.toNat h) 5)]) l)))))))))
def wt(r:Nat×Nat)(m:E)(R:Value->E->Prop)(a:rH r m R):aN cq 38 [vp r.1 r.2] m R:=
 Ed (o:=⟨[(9,[(8,.I)])],[],[(9,[113,112])]⟩) (d:=110) (r:=[.cell 2 67]) (a:=[.c (.p r.1 r.2)]) QM ZT mix Tryz.func38 (m:=P6 Tryz.f38) (by kernel_rfl) (by kernel_rfl) (by kernel_rfl) (by kernel_rfl) aH (by kernel_rfl) (Eq.mp (by kernel_rfl) a)
end
section
open Tryz
variable{m:E}{R:Value->E->Prop}
variable{a b c d e f g h p q r u v w x y:O}{i j k l n o s t z A B C D F G H:Int}
def zE(p:Nat×Nat):=cV m R A0 [p,.agg [a,b]] func39
def Bh(p:Nat×Nat):=cV m R A0 [p] func40
def yg(a:O):=cV m R ⟨[(4,[(3,.I)])],[],[(4,[30])]⟩ [.agg [a,b]] func41
def yd(p:Nat×Nat):=cV m R A0 [p,.agg [i,j,k,l,a,b,c]] func42
def Ba(a:O):=cV m R ⟨[(4,[(9,.I)]),(9,[(50,.I)]),(12,[(59,.I)]),(21,[(103,.I)])],[(19,[])],[(4,[126,122]),(9,[129,126,122]),(12,[129,126,122]),(19,[129,126,122]),(21,[129,126,122])]⟩ [.agg [a,b],i,j] func43
def Dy(i:Int):=cV m R A0 [i,j,k] func44
def xG(a:O):=cV m R ⟨[(2,[(3,.I)])],[],[]⟩ [a] func45
def Ak(a:O):=cV m R ⟨[(4,[(3,.I)]),(10,[(5,.I)])],[(3,[])],[]⟩ [a] func46
def yf(a:O):=cV m R A0 [.agg [a,b],.agg [i,j,k,l,c,d,e],n] func47
def BE(i:Int):=cV m R ⟨[(3,[(4,.I)]),(6,[(5,.I)]),(14,[(7,.I)])],[],[(3,[101]),(6,[101]),(14,[101])]⟩ [.agg [i,j,k,l,a,b,c]] func48
def wq(i:Int):=cV m R ⟨[(4,[(5,.I)])],[],[(4,[44])]⟩ [.agg [i,j,k,l,a,b,c]] func49
def mS(a:O):=cV m R A0 [a] func50
def FC(a:O):=cV m R A0 [a,i] func51
def BN(a:O):=cV m R ⟨[(3,[(6,.I)]),(8,[(7,.S),(9,.I)])],[],[]⟩ [a,i] func52
def DZ(a:O):=cV m R ⟨[(3,[(5,.S),(6,.I)])],[],[]⟩ [a,i] func53
def D0(i:Int):=cV m R ⟨[(3,[(5,.S),(6,.I)])],[],[(3,[28])]⟩ [.agg [i,j,k,a,b,c],d] func54
def yL(a:O):=cV m R ⟨[(5,[(18,.I)])],[],[(5,[43,42])]⟩ [.agg [a,b]] func55
def oU(a:O):=cV m R ⟨[(6,[(88,.I)])],[(5,[])],[(5,[147,146,145,144]),(6,[147,146,145,144])]⟩ [.agg [a,b],.agg [c,d,i,j,e],k,.agg [l,n,o,s,f,g]] func56
end
section
open Tryz
variable{m:E}{R:Value->E->Prop}
variable{a b c d e f g h p q r u v w x y:O}{i j k l n o s t z A B C D F G H:Int}
def GM(i:Int):=cV m R A0 [i] func57
def vV(a:O):=cV m R ⟨[(3,[(26,.I)]),(8,[(37,.I)]),(21,[(12,.S),(73,.I)]),(28,[(12,.S),(13,.I)]),(33,[(12,.S),(127,.I)])],[(17,[])],[(8,[165]),(33,[175])]⟩ [a] func58
def oC(s:O)(f:Fn×Array Value×Array Value):=cV m R A0 [s,.c (.fv f)] func59
def uX(i:Int):=cV m R A0 [i] func60
def xD(a:O):=cV m R ⟨[(7,[(63,.I)])],[],[(7,[97,95,94])]⟩ [.agg [a,b],.agg [i,j,k,c,d,e]] func61
def vT(i:Int):=cV m R ⟨[(2,[(17,.I)])],[(9,[])],[(2,[82]),(9,[82])]⟩ [.agg [i,j,k,a,b,c],d,e,f] func62
def sM(a:O):=cV m R ⟨[(2,[(8,.I)])],[],[]⟩ [a,i] func63
def zl(a:O):=cV m R ⟨[(3,[(3,.S),(4,.I)]),(7,[(5,.S),(6,.I)])],[],[]⟩ [a] func64
def wD(i:Int):=cV m R ⟨[(3,[(5,.S),(6,.I)])],[],[]⟩ [i,j] func65
def uw(p:Nat×Nat):=cV m R ⟨[(2,[(3,.S),(4,.S),(10,.I)])],[(17,[])],[(2,[104,103]),(17,[108,104,103])]⟩ [p,.agg [a,b],.agg [c,i],d,e] func66
def wo(p:Nat×Nat):=cV m R A0 [p,.agg [i,j,k,l,a,b]] func67
def FK(a:O):=cV m R ⟨[(3,[(5,.I),(6,.I)]),(7,[(5,.I),(7,.I)])],[],[]⟩ [a,i] func68
def Cj(a:O):=cV m R A0 [.agg [a,b,i,c,j],.agg [d,k]] func69
def zo(a:O):=cV m R ⟨[(5,[(6,.S),(7,.S),(8,.I)])],[],[(5,[69,68,67])]⟩ [.agg [a,b],.agg [c,d,i,e,j]] func70
def xT(a:O):=cV m R A0 [.agg [a,b],.agg [i,j,c],d,k] func71
def zC(p:Nat×Nat):=cV m R A0 [p] func72
def Lj(a:O):=cV m R A0 [a,i] func73
def xW(p:Nat×Nat):=cV m R A0 [p,a] func74
end
section
open Tryz
variable{m:E}{R:Value->E->Prop}
variable{a b c d e f g h p q r u v w x y:O}{i j k l n o s t z A B C D F G H:Int}
def Fk(p:Nat×Nat):=cV m R ⟨[],[(7,[(34,.T)]),(9,[(51,.T)]),(11,[(77,.T)]),(15,[])],[(7,[131,127,125]),(9,[131,127,125]),(11,[131,127,125]),(15,[127,125])]⟩ [p,.agg [a,b],i] func75
def ye(a:O):=cV m R A0 [.agg [a,b],i] func76
def wC(p:Nat×Nat):=cV m R ⟨[(2,[(5,.I)])],[],[]⟩ [p,i] func77
def zn(i:Int):=cV m R ⟨[(3,[(4,.I)])],[(2,[(3,.P)])],[(2,[58,57]),(3,[58,57])]⟩ [.agg [i,j,k,l,a,b,c]] func78
def zD(p:Nat×Nat):=cV m R A0 [p] func79
def zg(p:Nat×Nat):=cV m R ⟨[(3,[(6,.I)])],[],[(3,[57,56,55])]⟩ [p,.agg [a,b]] func80
def xY(p:Nat×Nat):=cV m R A0 [p,.agg [a,b],i] func81
def Ap(a:O):=cV m R ⟨[(4,[(3,.I)])],[],[(4,[65])]⟩ [.agg [a,b]] func82
def wG(a:O):=cV m R ⟨[(3,[(4,.I)])],[],[(3,[37,36])]⟩ [.agg [a,b]] func83
def An(a:O):=cV m R ⟨[(5,[(6,.I)])],[],[(5,[62,61])]⟩ [.agg [a,b],.agg [c,d,i,j,e]] func84
def rW(p:Nat×Nat):=cV m R A0 [p,a] func85
def vU(i:Int):=cV m R A0 [.agg [i,j,k,l,a,b],n] func86
def uW(i:Int):=cV m R A0 [i] func87
def Ai(a:O):=cV m R ⟨[(6,[(5,.I)])],[],[(6,[59])]⟩ [a,.agg [i,j,b]] func88
def FJ(a:O):=cV m R ⟨[(3,[(4,.I)]),(6,[(5,.I)])],[],[]⟩ [a] func89
def zI(a:O):=cV m R ⟨[(4,[(4,.I),(5,.T)]),(7,[(4,.I),(5,.T),(6,.I)])],[],[]⟩ [a] func90
def Ao(a:O):=cV m R ⟨[(2,[(5,.I)])],[],[(2,[53])]⟩ [a,.agg [i,j,k,b,c,d]] func91
def zK(i:Int):=cV m R A0 [i] func92
end
end Go.Proofs.YtdalfjkmdekijaaGreat
