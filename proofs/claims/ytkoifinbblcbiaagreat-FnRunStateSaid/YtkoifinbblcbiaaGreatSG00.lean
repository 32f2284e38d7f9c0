/- Part of a proof. -/
import Derived.KernelRfl
import Derived.Laws.Append
import Derived.Laws.Cells
import Derived.Laws.Entries
import Derived.Laws.IdiomCopy
import Derived.Orders
import Derived.OrdersHeld
import Derived.Still
import Derived.Tactics
import Derived.Test.YtkoifinbblcbiaaGreatProg
set_option linter.all false
set_option maxHeartbeats 8000000
set_option maxRecDepth 100000
namespace Go.Vc
def ad:=@Nat.le_refl
def ae:=@if_neg
def ai:=@List.mem_cons_of_mem
def aj:=@beq_eq_false_iff_ne
def an:=@if_pos
def ar:=@decide_eq_true_eq
def ax:=@List.getElem?_append_left
def aI:=@beq_iff_eq
def aJ:=@List.getElem?_append_right
def aO:=@Nat.lt_of_lt_of_le
def aV:=@List.mem_cons
def aW:=@Nat.lt_or_ge
def aZ:=@List.length_cons
def be:=@List.length_append
def bg:=@List.mem_cons_self
def bq:=@Nat.eq_of_beq_eq_true
def br:=@Bool.or_eq_false_iff
def bE:=@decide_eq_false_iff_not
def bI:=@Nat.le_trans
def bJ:=@List.mem_append_left
def bM:=@Bool.and_eq_true
def bR:=@Bool.or_eq_true
def bT:=@Nat.zero_add
def cr:=@List.getElem?_set_ne
def cA:=@List.mem_or_eq_of_mem_set
def cJ:=@List.getElem?_map
def cK:=@List.map_cons
def cN:=@List.getElem?_eq_none
def cZ:=@List.cons_append
def dg:=@Nat.mul_le_mul_right
def di:=@Nat.add_assoc
def dk:=@List.take_append_drop
def dw:=@Int.le_refl
def dx:=@List.getElem?_set_self
def dA:=@List.mem_of_mem_take
def dH:=@Nat.zero_le
def dI:=@List.getElem?_take_of_lt
def dQ:=@Classical.byContradiction
def dX:=@List.append_nil
def dY:=@List.length_map
def dZ:=@List.length_set
def eg:=@Classical.em
def eD:=@List.mem_append_right
def eE:=@List.nil_append
def eR:=@Nat.mul_one
def eW:=@List.length_nil
def eX:=@Nat.not_lt_zero
def ft:=@List.dropLast_concat_getLast
def fu:=@List.map_append
def fw:=@List.take_length
def fE:=@List.append_assoc
def fF:=@List.map_nil
def fN:=@Classical.choose_spec
def fU:=@List.getD_eq_getElem?_getD
def gG:=@List.getLast?_eq_some_getLast
def gL:=@List.length_take
def gQ:=@Nat.add_mul
def gX:=@List.ext_getElem?
def ij:=@List.getElem?_cons_succ
def iA:=@List.mem_of_getElem?
def iB:=@List.set_cons_zero
def iN:=@bne_eq_false_iff_eq
def iQ:=@Bool.not_eq_true'
def jf:=@Nat.min_eq_left
def js:=@Bool.false_eq_true
def jt:=@List.set_cons_succ
def jF:=@List.flatten_cons
def jG:=@List.getElem?_set
def jH:=@Nat.add_zero
def jI:=@Option.map_eq_some_iff
def jJ:=@cond_true
def jN:=@Option.some.inj
def jT:=@Array.getElem?_setIfInBounds_ne
def j7:=@List.not_mem_nil
def j8:=@Nat.eq_zero_or_pos
def kG:=@Ne.symm
def kH:=@gt_iff_lt
def lH:=@List.getElem?_take
def lI:=@List.mem_singleton
def lJ:=@Array.getElem?_modify
def lK:=@List.getElem?_toArray
def lL:=@Nat.le_of_ble_eq_true
def my:=@List.flatMap_cons
def mL:=@cond_false
def mP:=@Array.getElem?_push
def mQ:=@List.length_reverse
def np:=@List.map_toArray
def ny:=@List.take_append_of_le_length
def nG:=@List.take_of_length_le
def nH:=@Nat.lt_of_le_of_lt
def nX:=@Option.map_some
def nY:=@congrArg
def oD:=@ge_iff_le
def oT:=@List.sizeOf_lt_of_mem
def pt:=@Nat.le_succ_of_le
def qe:=@Int.tdiv_eq_ediv_of_nonneg
def qj:=@Nat.succ_mul
def qv:=@List.drop_eq_getElem_cons
def qR:=@List.flatten_append
def qS:=@List.length_take_le
def qT:=@List.replicate_succ
def rR:=@List.set_eq_of_length_le
def rS:=@if_false
def sA:=@List.getElem?_drop
def sH:=@List.getElem?_cons_zero
def uc:=@Int.toNat_natCast
def ud:=@List.findIdx_lt_length_of_exists
def ue:=@List.map_set
def uf:=@Nat.le_of_eq
def vI:=@Option.getD_some
def vJ:=@bne_iff_ne
def vK:=@not_or
def wT:=@List.mem_of_mem_drop
def zD:=@Array.getD_eq_getD_getElem?
def BU:=@Array.ext_getElem?
def BV:=@or_false
def DT:=@List.size_toArray
def DU:=@Option.some.injEq
def Hw:=@Nat.add_sub_cancel_left
def Hx:=@Nat.le_of_not_lt
def Jj:=@Array.getElem?_eq_none
def Jk:=@Int.lt_or_le
def Jl:=@List.drop_of_length_le
def JL:=@Bool.eq_iff_iff
def Mz:=@Bool.not_false
def MA:=@List.set_append_left
def MB:=@List.take_take
def MC:=@Nat.mul_le_mul
def MF:=@if_true
def Nq:=@List.getElem?_range
def Nr:=@List.replicate_zero
def Ns:=@List.take_succ_cons
def Nt:=@Nat.testBit_two_pow
def Oh:=@Bool.not_true
def Oi:=@Bool.true_and
def Oj:=@List.all_cons
def Ok:=@List.map_take
def Ol:=@Prod.mk.injEq
def Pu:=@List.set_eq_take_append_cons_drop
def QA:=@List.any_nil
def QB:=@List.reverse_cons
def QC:=@Nat.le_of_lt
def QD:=@Nat.sub_self
def QE:=@Nat.zero_mul
def SW:=@List.range_succ
def SZ:=@Iff.rfl
def S0:=@dif_pos
def Uu:=@List.mapM_cons
def Uv:=@Nat.eq_of_mul_eq_mul_right
def Uw:=@Nat.testBit_or
def UC:=@Array.mapM_eq_mapM_toList
def UD:=@List.exists_mem_of_ne_nil
def Vs:=@Array.getElem?_replicate
def Vt:=@Bool.false_or
def Vu:=@Bool.or_false
def Vv:=@List.eq_of_mem_replicate
def Xs:=@List.map_map
def Xt:=@List.mem_map
def Xu:=@List.set_set
def Xv:=@Nat.sub_zero
def XI:=@Array.getElem?_mapIdx
def XJ:=@Array.getElem?_toList
def XK:=@List.set_append_right
def XN:=@Nat.ble_eq_true_of_le
def Zd:=@Int.add_mul
def Zt:=@Array.length_toList
def Zu:=@Array.toList_zipIdx
def aai:=@Array.foldl_toList
def aaj:=@Bool.not_eq_false'
theorem dit{p A B:Prop}{i:Decidable p}(f:p->A)(g:¬p->B):(decide p=true->A)/\(decide p=false->B):=⟨λh=>f (of_decide_eq_true h),λh=>g (of_decide_eq_false h)⟩
theorem V{p:Prop}(h:p:=by omega):p:=h
theorem aL{p:Prop}(h:p:=by simp):p:=h
theorem bn{p:Prop}(h:p:=by decide):p:=h
theorem bF{p:Prop}(h:p:=by simp;omega):p:=h
end Go.Vc
section
namespace Go.Vc
variable{n:Nat}{a:Act}
abbrev E:=Array Obj
def af(m:E)(b o:Nat):Option Value:=
 match m[b]? with
 |some (.cells c _ _)=>c[o]?
 |_=>none
def vS(m:E)(b o:Nat):Bool:=
 match m[b]? with
 |some (.cells _ _ (c,a))=>c<=o&&o<a
 |_=>false
def rE(m:E)(b o:Nat)(v:Value):E:=
 m.modify b λ
  | .cells c e f=>.cells (c.setIfInBounds o v) e f
  |x=>x
def zT(w:World)(b o:Nat):w.cell? ⟨b,o,none⟩=af w.heap b o:=by
 simp only[World.cell?,af];cases h:w.heap[b]? with
 |none=>rfl
 |some x=>cases x<;>simp
def QZ(w:World)(b o:Nat):w.frozen? ⟨b,o,none⟩=vS w.heap b o:=by
 simp only[World.frozen?,vS];cases h:w.heap[b]? with
 |none=>rfl
 |some x=>cases x<;>simp
def O0(w:World)(b o:Nat)(v:Value):(w.setCell ⟨b,o,none⟩ v).heap=rE w.heap b o v:=by
 simp only[World.setCell,rE];congr 1
structure pD(w w':World):Prop where
 os:w'.os=w.os
 tape:w'.tape=w.tape
 output:w'.output=w.output
def pD.az(w:World):pD w w:=⟨rfl,rfl,rfl⟩
def pD.trans{a b c:World}(h:pD a b)(k:pD b c):pD a c:=⟨k.os.trans h.os,k.tape.trans h.tape,k.output.trans h.output⟩
def aN(P:Program)(f:FuncId)(b:List Value)(m:E)(K:Value->E->Prop):Prop:=
 ∀w:World,w.heap=m->Calls P f b.toArray w λe a=>∃v,e=.returned v/\pD w a/\K v a.heap
def aN.mono{P:Program}{f:FuncId}{b:List Value}{m:E}{K a:Value->E->Prop}(h:aN P f b m K)
 (e:∀v c,K v c->a v c):aN P f b m a:=
 λw i=>(h w i).mono λ_ _⟨v,d,g,c⟩=>⟨v,d,g,e _ _ c⟩
inductive O where
 |nil
 |mk (b o len cap:Nat)
 |zW (b o sp:Nat)
def O.v:O->Value
 | .nil=>.slice none 0 0
 | .mk b o l c=>.slice (some ⟨b,o,none⟩) l c
 | .zW b o a=>.slice (some ⟨b,o,some a⟩) 0 0
def O.len:O->Nat
 | .nil=>0
 | .mk _ _ l _=>l
 | .zW _ _ _=>0
def O.cap:O->Nat
 | .nil=>0
 | .mk _ _ _ c=>c
 | .zW _ _ _=>0
def O.D:O->Nat
 | .nil=>0
 | .mk b _ _ _=>b
 | .zW b _ _=>b
def O.off:O->Nat
 | .nil=>0
 | .mk _ o _ _=>o
 | .zW _ o _=>o
@[simp] theorem O.RY (b o sp:Nat):(O.zW b o sp).len=0:=rfl
@[simp] theorem O.UU (b o sp:Nat):(O.zW b o sp).cap=0:=rfl
@[simp] theorem O.OT:O.nil.len=0:=rfl
@[simp] theorem O.UW:O.nil.cap=0:=rfl
@[simp] theorem O.Zj:O.nil.D=0:=rfl
@[simp] theorem O.Zp:O.nil.off=0:=rfl
@[simp] theorem O.gH (b o l c:Nat):(O.mk b o l c).len=l:=rfl
@[simp] theorem O.OC (b o l c:Nat):(O.mk b o l c).cap=c:=rfl
@[simp] theorem O.jD (b o l c:Nat):(O.mk b o l c).D=b:=rfl
@[simp] theorem O.mZ (b o l c:Nat):(O.mk b o l c).off=o:=rfl
def O.Gi:O->Bool
 | .nil=>true
 | .mk _ _ _ _=>false
 | .zW _ _ _=>false
@[simp] theorem O.XD:O.nil.Gi=true:=rfl
@[simp] theorem O.XC (b o sp:Nat):(O.zW b o sp).Gi=false:=rfl
@[simp] theorem O.Yw (b o l c:Nat):(O.mk b o l c).Gi=false:=rfl
def O.cv:O->Option Addr
 | .nil=>none
 | .mk b o _ _=>some ⟨b,o,none⟩
 | .zW b o a=>some ⟨b,o,some a⟩
def O.Xr(s:O):s.v=.slice s.cv s.len s.cap:=by cases s<;>rfl
inductive Ce where
 |i (n:Int)
 |u (k:IntKind) (n:Int)
 |t (x:Bool)
 |s (x:O)
 |p (b o:Nat)
 |pn
 |fn (f:Fn) (first captured:Array Value)
 |fv (q:Fn×Array Value×Array Value)
 |nf
 |str (x:ByteArray)
 |mp (b:Nat)
 |mn
 |bp (k b o:Nat)
def Ce.v:Ce->Value
 | .i n=>.int .i64 n
 | .u k n=>.int k n
 | .t x=>.bool x
 | .s x=>x.v
 | .p b o=>.pointer (some ⟨b,o,none⟩)
 | .pn=>.pointer none
 | .fn f a c=>.func f a c
 | .fv q=>.func q.1 q.2.1 q.2.2
 | .nf=>.nilFunc
 | .str x=>.string x
 | .mp b=>.map (some b)
 | .mn=>.map none
 | .bp _ b o=>.pointer (some ⟨b,o,none⟩)
inductive AV where
 |c (x:Ce)
 |agg (l:List Ce)
def AV.v:AV->Value
 | .c x=>x.v
 | .agg l=>.agg (l.map Ce.v).toArray
inductive SV where
 |c (x:Ce)
 |tt
 |ff
 |agg (l:List Ce)
 |Xq (l:List AV)
 |un
 |fW
 |box (b e:Nat) (l:List Ce)
 |zQ (b e:Nat) (l:List Ce)
def SV.v:SV->Value
 | .c x=>x.v
 | .tt=>.bool true
 | .ff=>.bool false
 | .agg l=>.agg (l.map Ce.v).toArray
 | .Xq l=>.tuple (l.map AV.v).toArray
 | .un=>undef
 | .fW=>undef
 | .box _ _ _=>undef
 | .zQ _ _ _=>undef
def SV.Is:SV->Value->Prop
 | .fW,_=>True
 | .box _ _ _,_=>True
 | .zQ _ _ _,_=>True
 |s,v=>v=s.v
def AV.sv:AV->SV
 | .c x=>.c x
 | .agg l=>.agg l
def AV.aag(x:AV):x.sv.v=x.v:=by cases x<;>rfl
abbrev Fr:=List (Nat×SV)
def il:Fr->Nat->SV
 |[],_=>.fW
 |(u,x)::r,t=>bif Nat.beq u t then x else il r t
def SV.nb:SV->SV
 | .box _ _ _=>.fW
 | .zQ _ _ _=>.fW
 |x=>x
def uh(a:Fr)(d:Option Nat)(x:SV):Fr:=
 match d with
 |some d=>(d,x.nb)::a
 |none=>a
def SV.Ua{x:SV}{v:Value}(h:x.Is v):x.nb.Is v:=by
 cases x<;>first|exact h|trivial
def Ce.lM(x:Ce):x.v.cells=#[x.v]:=by
 cases x with
 |s y=>cases y<;>rfl
 |_=>rfl
def kM:Value->Option Ce
 | .int .i64 n=>some (.i n)
 | .int k n=>some (.u k n)
 | .bool x=>some (.t x)
 | .slice none 0 0=>some (.s .nil)
 | .pointer none=>some .pn
 | .nilFunc=>some .nf
 | .string x=>some (.str x)
 |_=>none
def NJ{x:Value}{c:Ce}(h:kM x=some c):c.v=x:=by
 unfold kM at h;split at h<;>simp at h<;>subst h<;>rfl
def pJ:List Value->Option (List Ce)
 |[]=>some []
 |v::b=>match kM v,pJ b with
  |some c,some a=>some (c::a)
  |_,_=>none
def KS:∀{b:List Value}{a:List Ce},pJ b=some a->a.map Ce.v=b
 |[],_,h=>by simp[pJ]at h;subst h;rfl
 |v::b,a,h=>by
  simp only[pJ]at h;split at h
  .rename_i e f c d;simp at h;subst h;simp[NJ c,KS d]
  .simp at h
def FO:Value->SV
 | .bool true=>.tt
 | .bool false=>.ff
 | .agg a=>match pJ a.toList with
  |some l=>.agg l
  |none=>.fW
 | .tuple a=>bif a.toList.isEmpty then .un else .fW
 |v=>match kM v with
  |some c=>.c c
  |none=>.fW
def QP(x:Value):(FO x).Is x:=by
 unfold FO;split
 .rfl
 .rfl
 .rename_i a;split
  .rename_i l b;show Value.agg a=.agg (l.map Ce.v).toArray;rw[KS b]
  .trivial
 .rename_i a;cases h:a.toList.isEmpty
  .trivial
  .show Value.tuple a=undef;have:a=#[]:=by simpa using h
   rw[this];rfl
 .split
  .rename_i c a;exact(NJ a).symm
  .trivial
def ev(a:Fr):Operand->SV
 | .tmp t=>(il a t).nb
 | .const v=>FO v
 | .global g=>.c (.p g 0)
 | .func f=>.c (.fn (.func f) #[] #[])
structure j9(n:Nat)(fr:Fr)(a:Act):Prop where
 size:a.tmps.size=n
 defers:a.defers=[]
 aG:∀t,(il fr t).Is (a.tmps.getD t undef)
def j9.ev{b:Fr}(h:j9 n b a)(x:Operand):(ev b x).Is (a.eval x):=by
 cases x with
 |tmp t=>exact SV.Ua (h.aG t)
 |const v=>exact QP v
 |global g=>rfl
 |func f=>rfl
def j9.put{n:Nat}{b:Fr}{a:Act}(h:j9 n b a){d:Option Nat}{x:SV}{v:Value}(g:x.Is v)(hd:∀t,d=some t->t<n):
 j9 n (uh b d x) (a.put d v):=by
 cases d with
 |none=>exact h
 |some d=>
  refine⟨by simpa[Act.put]using h.size,h.defers,λt=>?_⟩
  have f:d<a.tmps.size:=by rw[h.size];exact hd d rfl
  simp only[uh,il,Act.put]
  by_cases e:d=t
  .subst e
   simp only[Nat.beq_refl,jJ]
   simpa[f]using SV.Ua g
  .have:Nat.beq d t=false:=by
    cases c:Nat.beq d t
    .rfl
    .exact absurd (bq c) e
   simp only[this,mL]
   have:=h.aG t
   simpa[jT e]using this
def j9.cons{b:Fr}(h:j9 n b a)(t:Nat){x:SV}(c:∀v,x.Is v):j9 n ((t,x)::b) a:=by
 refine⟨h.size,h.defers,λu=>?_⟩;simp only[il];cases d:Nat.beq t u
 .exact h.aG u
 .exact c _
def j9.fW{b:Fr}(h:j9 n b a)(t:Nat):j9 n ((t,.fW)::b) a:=by
 refine⟨h.size,h.defers,λu=>?_⟩;simp only[il];cases c:Nat.beq t u
 .exact h.aG u
 .trivial
end Go.Vc
end
section
namespace Go.Vc
variable{P:Program}{t b e:Nat}
inductive Sh where
 |I
 |U (k:IntKind)
 |T
 |S
 |P
 |F
 |M
 deriving DecidableEq
abbrev Sh.ty:Sh->Type
 | .I=>Int
 | .U _=>Int
 | .T=>Bool
 | .S=>O
 | .P=>Nat×Nat
 | .F=>Fn×Array Value×Array Value
 | .M=>Nat
abbrev Sh.mk:(s:Sh)->s.ty->Ce
 | .I,n=>.i n
 | .U k,n=>.u k n
 | .T,x=>.t x
 | .S,x=>.s x
 | .P,q=>.p q.1 q.2
 | .F,v=>.fv v
 | .M,b=>.mp b
def Sh.zero:Sh->Ce
 | .I=>.i 0
 | .U k=>.u k 0
 | .T=>.t false
 | .S=>.s .nil
 | .P=>.pn
 | .F=>.nf
 | .M=>.mn
inductive TK where
 |cell
 |slice (elem:Nat)
 |struct (offs:List (Nat×Nat))
 |tuple (ts:List Nat)
 |map (key elem:Nat)
structure TI where
 H9:TK
 sh:List Sh
 bytes:Nat
abbrev TT:=List (Nat×TI)
def fK:TT->Nat->Option TI
 |[],_=>none
 |(u,x)::r,t=>bif Nat.beq u t then some x else fK r t
def O2:Sh->Value->Bool
 | .I,.int .i64 0=>true
 | .U k,.int a 0=>decide (k=a)
 | .T,.bool false=>true
 | .S,.slice none 0 0=>true
 | .P,.pointer none=>true
 | .F,.nilFunc=>true
 | .M,.map none=>true
 |_,_=>false
def O6{s:Sh}{v:Value}(h:O2 s v=true):v=s.zero.v:=by
 unfold O2 at h;split at h<;>first|rfl|(simp at h;subst h;rfl)|simp at h
def Fu:List Value->List Sh->Bool
 |[],[]=>true
 |v::b,s::a=>O2 s v&&Fu b a
 |_,_=>false
def BT:∀{b:List Value}{a:List Sh},Fu b a=true->b=a.map λs=>s.zero.v
 |[],[],_=>rfl
 |v::b,s::a,h=>by
  simp only[Fu,bM]at h;simp[O6 h.1,BT h.2]
 |[],_::_,h=>by simp[Fu]at h
 |_::_,[],h=>by simp[Fu]at h
def NP:List Field->List (Nat×Nat)->Bool
 |[],[]=>true
 |f::a,(o,t)::r=>Nat.beq f.offset o&&Nat.beq f.type t&&NP a r
 |_,_=>false
def LA:∀{a:List Field}{b:List (Nat×Nat)},NP a b=true->a.map (λf=>(f.offset,f.type))=b
 |[],[],_=>rfl
 |f::a,(o,t)::r,h=>by
  simp only[NP,bM]at h;simp[bq h.1.1,bq h.1.2,LA h.2]
 |[],_::_,h=>by simp[NP]at h
 |_::_,[],h=>by simp[NP]at h
def Ao:TypeDesc->List Sh->Bool
 | .bool,[.T]=>true
 | .int .i64,[.I]=>true
 | .int k,[.U k']=>decide (k=k')
 | .pointer _,[.P]=>true
 | .func ..,[.F]=>true
 |_,_=>false
def Cb(i:TypeInfo)(a:TI)(b:Bool):Bool:=
 Nat.beq i.size a.sh.length&&Nat.beq i.bytes a.bytes&&
 (match i.zero with
  |some (.agg c)=>b&&Fu c.toList a.sh
  |some z=>!b&&Fu [z] a.sh
  |none=>false)
def YG(t:Nat):Nat:=t+1000000
def UY(P:Program)(t:Nat):Bool:=
 match P.underlying t with
 |some (.struct a)=>a.toList.all (λf=>f.name != "_")&&!P.stoodInHeld t&&!P.eqGuardType P.depth t
 |_=>false
def yD(P:Program)(t:Nat)(a:TI):Bool:=
 match a.H9 with
 | .tuple _=>if t<1000000 then true else UY P (t -1000000)
 | .slice e=>match P.info? t,P.underlying t with
  |some i,some (.slice b)=>Nat.beq e b&&Cb i a false
  |_,_=>false
 | .struct d=>match P.info? t,P.underlying t with
  |some i,some (.struct c)=>NP c.toList d&&Cb i a true
  |_,_=>false
 | .map k e=>match P.info? t,P.underlying t with
  |some i,some (.map c b)=>Nat.beq k c&&Nat.beq e b&&Cb i a false
  |_,_=>false
 | .cell=>match P.info? t,P.underlying t with
  |some i,some d=>Ao d a.sh&&Cb i a false
  |_,_=>false
def uD(P:Program)(T:TT):Prop:=T.all (λx=>yD P x.1 x.2)=true
def Qq:∀{T:TT}{t:Nat}{b:TI},fK T t=some b->(t,b)∈T
 |[],_,_,h=>by simp[fK]at h
 |(u,x)::r,t,b,h=>by
  simp only[fK]at h;cases a:Nat.beq u t
  .rw[a]at h;exact ai _ (Qq h)
  .rw[a]at h;have:=bq a;simp at h;subst h;subst this;exact bg
def uD.yD{T:TT}(h:uD P T){a:TI}(b:fK T t=some a):yD P t a=true:=
 List.all_eq_true.1 h _ (Qq b)
def uD.cmp{T:TT}(h:uD P T){l:List Nat}{c:List Sh}(a:fK T (YG t)=some ⟨.tuple l,c,b⟩):UY P t=true:=by
 have:=h.yD a;simp only[Go.Vc.yD]at this;rw[ae (by unfold YG;omega),show YG t -1000000=t by unfold YG;omega]at this;exact this
structure KG(P:Program)(t:Nat)(ti:TI)(agg:Bool):Prop where
 aan:∃i,P.info? t=some i/\i.size=ti.sh.length/\i.bytes=ti.bytes/\
  ∃z,i.zero=some z/\z.cells.toList=(ti.sh.map λs=>s.zero.v)/\(agg=false->∀cs,z≠.agg cs)
def sQ{g:TI}{i:TypeInfo}{c:Bool}(j:P.info? t=some i)(h:Cb i g c=true):KG P t g c:=by
 simp only[Cb,bM]at h;refine⟨i,j,bq h.1.1,bq h.1.2,?_⟩;have a:=h.2;split at a
 .rename_i d b;simp only[bM]at a;exact⟨_,b,by simpa[Value.cells]using BT a.2,λf=>by rw[f]at a;simp at a⟩
 .rename_i z f b;simp only[bM]at a;refine⟨_,b,?_,λ_ d e=>f d (by rw[e])⟩;have:=BT a.2;rw[<-this];cases z<;>first|rfl|exact(f _ rfl).elim
 .simp at a
def km{a:List Sh}(h:yD P t ⟨.slice e,a,b⟩=true):P.underlying t=some (.slice e)/\KG P t ⟨.slice e,a,b⟩ false:=by
 simp only[yD]at h;split at h
 .rename_i i f c d;simp only[bM]at h;have:=bq h.1;subst this;exact⟨d,sQ c h.2⟩
 .simp at h
def Co{k:Nat}{a:List Sh}(h:yD P t ⟨.map k e,a,b⟩=true):P.underlying t=some (.map k e)/\KG P t ⟨.map k e,a,b⟩ false:=by
 simp only[yD]at h;split at h
 .rename_i j l i f g;simp only[bM]at h;have c:=bq h.1.1;have d:=bq h.1.2;subst c;subst d;exact⟨g,sQ f h.2⟩
 .simp at h
def nk{c:List (Nat×Nat)}{d:List Sh}(h:yD P t ⟨.struct c,d,b⟩=true):
 (∃a,P.underlying t=some (.struct a)/\a.toList.map (λf=>(f.offset,f.type))=c)/\KG P t ⟨.struct c,d,b⟩ true:=by
 simp only[yD]at h
 split at h
 .rename_i i a e f
  simp only[bM]at h
  exact⟨⟨a,f,LA h.1⟩,sQ e h.2⟩
 .simp at h
def nW{a:List Sh}(h:yD P t ⟨.cell,a,b⟩=true):
 (∃d,P.underlying t=some d/\Ao d a=true)/\KG P t ⟨.cell,a,b⟩ false:=by
 simp only[yD]at h
 split at h
 .rename_i i d c e
  simp only[bM]at h
  exact⟨⟨d,e,h.1⟩,sQ c h.2⟩
 .simp at h
def TI.agg(a:TI):Bool:=match a.H9 with| .struct _=>true|_=>false
def TI.uJ(a:TI):Bool:=match a.H9 with| .tuple _=>true|_=>false
def kD{T:TT}(f:uD P T){d:TI}(g:fK T t=some d)(j:d.uJ=false)(w:World):
 (sizeOf t).run P w=.ok d.sh.length w:=by
 have h:=f.yD g
 obtain⟨H9,k,b⟩:=d
 have:∃i,P.info? t=some i/\i.size=k.length:=by
  cases H9 with
  |cell=>obtain⟨_,⟨i,a,c,_⟩⟩:=nW h;exact⟨i,a,c⟩
  |slice e=>obtain⟨_,⟨i,a,c,_⟩⟩:=km h;exact⟨i,a,c⟩
  |map l e=>obtain⟨_,⟨i,a,c,_⟩⟩:=Co h;exact⟨i,a,c⟩
  |struct o=>obtain⟨_,⟨i,a,c,_⟩⟩:=nk h;exact⟨i,a,c⟩
  |tuple l=>simp[TI.uJ]at j
 obtain⟨i,a,c⟩:=this
 simp[sizeOf,typeInfo,a,c]
def Gu{T:TT}(g:uD P T){f:TI}(j:fK T t=some f)(k:f.uJ=false):
 ∃i,i.bytes=f.bytes/\i.size=f.sh.length/\(∀w,(typeInfo t).run P w=.ok i w)/\P.info? t=some i:=by
 have h:=g.yD j
 obtain⟨H9,l,b⟩:=f
 have:∃i,P.info? t=some i/\i.size=l.length/\i.bytes=b:=by
  cases H9 with
  |cell=>obtain⟨_,⟨i,a,c,d,_⟩⟩:=nW h;exact⟨i,a,c,d⟩
  |slice e=>obtain⟨_,⟨i,a,c,d,_⟩⟩:=km h;exact⟨i,a,c,d⟩
  |map m e=>obtain⟨_,⟨i,a,c,d,_⟩⟩:=Co h;exact⟨i,a,c,d⟩
  |struct o=>obtain⟨_,⟨i,a,c,d,_⟩⟩:=nk h;exact⟨i,a,c,d⟩
  |tuple m=>simp[TI.uJ]at k
 obtain⟨i,a,c,d⟩:=this
 exact⟨i,d,c,λw=>by simp[typeInfo,a],a⟩
def wq{T:TT}(m:uD P T){k:TI}(n:fK T t=some k)(o:k.uJ=false):
 ∃z,z.cells.toList=k.sh.map (λs=>s.zero.v)/\(∀w,(zeroValue t).run P w=.ok z w)/\(k.agg=false->∀a,z≠.agg a):=by
 have h:=m.yD n
 obtain⟨H9,l,b⟩:=k
 have:∃i,P.info? t=some i/\∃z,i.zero=some z/\z.cells.toList=(l.map λs=>s.zero.v)/\((TI.mk H9 l b).agg=false->∀a,z≠.agg a):=by
  cases H9 with
  |cell=>obtain⟨_,⟨i,a,g,j,z,c,d,f⟩⟩:=nW h;exact⟨i,a,z,c,d,λ_=>f rfl⟩
  |slice e=>obtain⟨_,⟨i,a,g,j,z,c,d,f⟩⟩:=km h;exact⟨i,a,z,c,d,λ_=>f rfl⟩
  |map p e=>obtain⟨_,⟨i,a,g,j,z,c,d,f⟩⟩:=Co h;exact⟨i,a,z,c,d,λ_=>f rfl⟩
  |struct p=>obtain⟨_,⟨i,a,g,j,z,c,d,f⟩⟩:=nk h;exact⟨i,a,z,c,d,λh=>by simp[TI.agg]at h⟩
  |tuple d=>simp[TI.uJ]at o
 obtain⟨i,a,z,g,j,c⟩:=this
 exact⟨z,j,λw=>by simp[zeroValue,typeInfo,a,g],c⟩
def Io{T:TT}(d:uD P T){a:TI}(f:fK T t=some a)(g:a.uJ=false)(w:World):
 (isAgg t).run P w=.ok a.agg w:=by
 have h:=d.yD f
 obtain⟨H9,j,b⟩:=a
 cases H9 with
 |cell=>
  obtain⟨⟨i,hd,c⟩,_⟩:=nW h
  unfold Ao at c
  split at c<;>first|(simp at c;done)|simp[isAgg,run_underlying hd,TI.agg]
 |slice e=>obtain⟨hd,_⟩:=km h;simp[isAgg,run_underlying hd,TI.agg]
 |map k e=>obtain⟨hd,_⟩:=Co h;simp[isAgg,run_underlying hd,TI.agg]
 |struct o=>obtain⟨⟨c,hd,_⟩,_⟩:=nk h;simp[isAgg,run_underlying hd,TI.agg]
 |tuple c=>simp[TI.uJ]at g
end Go.Vc
end
section
namespace Go.Vc
def lz:SV->Option Bool
 | .tt=>some true
 | .ff=>some false
 | .c (.t x)=>some x
 |_=>none
def SV.jL:SV->Bool
 | .fW=>false
 | .box _ _ _=>false
 | .zQ _ _ _=>false
 |_=>true
def cO(n:Int):Int:=IntKind.i64.wrap n
def Ie{α:Type}:List α->Nat->Option α
 |[],_=>none
 |x::_,0=>some x
 |_::r,n+1=>Ie r n
def pP{α:Type}:∀(l:List α)(n:Nat),Ie l n=l[n]?
 |[],_=>by simp[Ie]
 |x::_,0=>by simp[Ie]
 |_::r,n+1=>by simp[Ie,pP r n]
def VW(m:E)(b o:Nat):Nat->List Sh->(List Ce->Prop)->Prop
 |_,[],k=>k []
 |j,s::r,k=>∃x:s.ty,af m b (o+j)=some (s.mk x).v/\VW m b o (j+1) r λl=>k (s.mk x::l)
def Vq(a b:Int):Int:=cO ((a%18446744073709551616).toNat^^^(b%18446744073709551616).toNat:Nat)
def rW(c:BinOp)(a b:Int)(k:SV->Prop):Prop:=
 match c with
 | .add=>k (.c (.i (cO (a+b))))
 | .sub=>k (.c (.i (cO (a -b))))
 | .mul=>k (.c (.i (cO (a*b))))
 | .quo=>b≠0/\k (.c (.i (cO (a.tdiv b))))
 | .rem=>b≠0/\k (.c (.i (a.tmod b)))
 | .xor=>k (.c (.i (Vq a b)))
 | .eql=>k (.c (.t (a==b)))
 | .neq=>k (.c (.t (a !=b)))
 | .lss=>k (.c (.t (decide (a<b))))
 | .leq=>k (.c (.t (decide (a<=b))))
 | .gtr=>k (.c (.t (decide (a>b))))
 | .geq=>k (.c (.t (decide (a>=b))))
 |_=>False
def UQ(c:BinOp)(a b:Bool)(k:SV->Prop):Prop:=
 match c with
 | .eql=>k (.c (.t (a==b)))
 | .neq=>k (.c (.t (!(a==b))))
 |_=>False
def Vd(a:BinOp)(s:O)(k:SV->Prop):Prop:=
 match a with
 | .eql=>k (.c (.t s.Gi))
 | .neq=>k (.c (.t (!s.Gi)))
 |_=>False
def Zs(a:UnOp)(x:SV)(k:SV->Prop):Prop:=
 match a,x with
 | .not,.tt=>k .ff
 | .not,.ff=>k .tt
 | .not,.c (.t b)=>k (.c (.t (!b)))
 | .neg,.c (.i n)=>k (.c (.i (cO (0 -n))))
 |_,_=>False
def O.cut(x:O)(a d e:Nat):O:=
 match x with
 | .nil=>.nil
 | .mk b o _ c=>.mk b (if c=a then o else o+a*e) (d -a) (c -a)
 | .zW b o c=>.zW b o c
def SV.cells:SV->Option (List Ce)
 | .c x=>some [x]
 | .tt=>some [.t true]
 | .ff=>some [.t false]
 | .agg l=>some l
 |_=>none
def mh(l:List Ce)(b:Nat)(a:List Ce):List Ce:=
 match b,l with
 |0,l=>match a,l with
  |[],l=>l
  |n::a,_::l=>n::mh l 0 a
  |_::_,[]=>[]
 |b+1,x::l=>x::mh l b a
 |_+1,[]=>[]
termination_by structural l
def FJ(T:TT)(c:Fr)(e:List (Nat×Nat)):List Ce->List (Nat×Operand)->(List Ce->Prop)->Prop
 |a,[],k=>k a
 |a,(i,x)::r,k=>
  match Ie e i,(ev c x).cells with
  |some (d,t),some b=>
   match fK T t with
   |some f=>bif !f.uJ&&Nat.beq b.length f.sh.length&&Nat.ble (d+b.length) a.length then FJ T c e (mh a d b) r k else False
   |none=>False
  |_,_=>False
def vt(T:TT):List (Nat×Nat)->Bool
 |[]=>true
 |(_,t)::r=>(match fK T t with|some a=>!a.uJ|none=>false)&&vt T r
def MX(a:Fr)(x:Option Operand)(d:Int)(k:Int->Prop):Prop:=
 match x with
 |none=>k d
 |some x=>match ev a x with
  | .c (.i n)=>k n
  |_=>False
def Xf(T:TT)(t:Nat)(s:O)(n:Int)(k:SV->Prop):Prop:=
 match fK T t with
 |some ⟨.slice e,_,_⟩=>match fK T e with
  |some a=>bif a.uJ then False else 0<=n/\n<(s.len:Int)/\k (.c (.p s.D (s.off+n.toNat*a.sh.length)))
  |none=>False
 |_=>False
def P5(T:TT)(m:E)(t b o:Nat)(k:SV->Prop):Prop:=
 match fK T t with
 |some ⟨.struct _,a,_⟩=>VW m b o 0 a λl=>k (.agg l)
 |some ⟨.cell,[s],_⟩=>∃x:s.ty,af m b o=some (s.mk x).v/\k (.c (s.mk x))
 |some ⟨.slice _,[_],_⟩=>∃x:O,af m b o=some x.v/\k (.c (.s x))
 |_=>False
def Rl(T:TT)(a:Fr)(t:Nat)(s:O)(d c:Option Operand)(k:SV->Prop):Prop:=
 match fK T t with
 |some ⟨.slice e,_,_⟩=>match fK T e with
  |some b=>bif b.uJ then False else
   MX a d 0 λl=>MX a c (s.len:Int) λh=>0<=l/\l<=h/\h<=(s.cap:Int)/\k (.c (.s (s.cut l.toNat h.toNat b.sh.length)))
  |none=>False
 |_=>False
def OL(T:TT)(t f:Nat)(l:List Ce)(k:SV->Prop):Prop:=
 match fK T t with
 |some ⟨.struct c,_,_⟩=>match Ie c f with
  |some (b,u)=>match fK T u with
   |some a=>bif a.uJ then False else bif a.agg then k (.agg ((l.drop b).take a.sh.length))else(match Ie l b with|some x=>k (.c x)|none=>False)
   |none=>False
  |none=>False
 |_=>False
def FT(T:TT)(t f o:Nat)(mk:Nat->SV)(k:SV->Prop):Prop:=
 match fK T t with
 |some ⟨.struct c,_,_⟩=>match Ie c f with
  |some (b,u)=>match fK T u with
   |some a=>bif a.uJ||Nat.beq a.sh.length 0 then False else k (mk (o+b))
   |none=>False
  |none=>False
 |_=>False
def ML(a b:Nat)(k:Prop):Prop:=a=b/\k
def aD(b:Nat)(k:Prop):ML b b k=k:=by simp[ML]
def Hp:List Ce->Nat->Nat->Option (List Ce)
 |_,_,0=>some []
 |l,o,n+1=>match Ie l o,Hp l (o+1) n with
  |some c,some r=>some (c::r)
  |_,_=>none
def NH(T:TT)(t:Nat)(a:List Ce)(o:Nat)(k:SV->Prop):Prop:=
 match fK T t with
 |some ⟨.struct _,b,_⟩=>match Hp a o b.length with
  |some l=>k (.agg l)
  |none=>False
 |some ⟨.cell,[_],_⟩=>match Ie a o with
  |some c=>k (.c c)
  |none=>False
 |some ⟨.slice _,[_],_⟩=>match Ie a o with
  |some c=>k (.c c)
  |none=>False
 |some ⟨.map _ _,[_],_⟩=>match Ie a o with
  |some c=>k (.c c)
  |none=>False
 |_=>False
def Tv(T:TT)(c:Fr)(d:Builtin)(e:List Nat)(f:List Operand)(k:SV->Prop):Prop:=
 match d,e,f with
 | .len,[t],[x]=>match fK T t,ev c x with
  |some ⟨.slice _,_,_⟩,.c (.s s)=>k (.c (.i (s.len:Int)))
  |_,_=>False
 | .max,_,[x,y]=>match ev c x,ev c y with
  | .c (.i a),.c (.i b)=>k (.c (.i (if b>a then b else a)))
  |_,_=>False
 | .min,_,[x,y]=>match ev c x,ev c y with
  | .c (.i a),.c (.i b)=>k (.c (.i (if b<a then b else a)))
  |_,_=>False
 |_,_,_=>False
def XB(T:TT):Nat->List (Nat×Nat)->List Ce->List Ce->Option Bool
 |_,[],[],[]=>some true
 |i,(o,u)::c,.i a::l,.i b::r=>bif Nat.beq o i then match fK T u,XB T (i+1) c l r with
  |some ⟨.cell,[.I],_⟩,some z=>some (a==b&&z)
  |_,_=>none else none
 |_,_,_,_=>none
def eqA(T:TT)(t:Nat)(l r:List Ce)(k:SV->Prop):Prop:=
 match fK T (YG t),fK T t with
 |some ⟨.tuple _,_,_⟩,some ⟨.struct a,_,_⟩=>match XB T 0 a l r with
  |some z=>k (.c (.t z))
  |none=>False
 |_,_=>False
def rd(T:TT)(a:Fr)(m:E)(k:SV->Prop):Op->Prop
 | .move x| .assign x=>k (ev a x)
 | .pick d c b=>match ev a d with
  | .tt=>k (ev a c)
  | .ff=>k (ev a b)
  | .c (.t x)=>match lz (ev a c),lz (ev a b)with
   |some y,some z=>k (.c (.t (bif x then y else z)))
   |_,_=>False
  |_=>False
 | .nilCheck x=>match ev a x with
  | .c (.p b o)=>k (.c (.p b o))
  | .c (.bp q b o)=>k (.c (.bp q b o))
  | .c (.fn (.func f) c d)=>k (.c (.fn (.func f) c d))
  | .c (.fv q)=>∃g,q.1=.func g/\k (.c (.fv q))
  |_=>False
 | .binOp d t x y _=>match ev a x,ev a y with
  | .c (.i c),.c (.i b)=>rW d c b k
  | .c (.s s),.c (.s .nil)=>match fK T t with
   |some ⟨.slice _,_,_⟩=>Vd d s k
   |_=>False
  | .agg l,.agg r=>match d with
   | .eql=>eqA T t l r k
   |_=>False
  |sx,e=>match fK T t,lz sx,lz e with
   |some ⟨.cell,[.T],_⟩,some c,some b=>UQ d c b k
   |_,_,_=>False
 | .unOp d _ x=>Zs d (ev a x) k
 | .convert s t x=>match fK T s,fK T t,ev a x with
  |some ⟨.cell,[_],_⟩,some ⟨.cell,[.I],_⟩,.c (.u _ n)=>k (.c (.i (cO n)))
  |_,_,_=>False
 | .fieldAddr t x f=>match ev a x with
  | .c (.p b o)=>FT T t f o (λo=>.c (.p b o)) k
  | .c (.bp q b o)=>FT T t f o (λo=>.c (.bp q b o)) k
  |_=>False
 | .field t x f=>match ev a x with
  | .agg l=>OL T t f l k
  |_=>False
 | .indexAddr t x i=>match ev a x,ev a i with
  | .c (.s s),.c (.i n)=>Xf T t s n k
  |_,_=>False
 | .load t x=>match ev a x with
  | .c (.p b o)=>P5 T m t b o k
  | .c (.bp q b o)=>match il a q with
   | .box c _ d=>ML c b (NH T t d o k)
   | .zQ c _ d=>ML c b (NH T t d o k)
   |_=>P5 T m t b o k
  |_=>False
 | .extract x i=>match ev a x with
  | .Xq l=>match Ie l i with
   |some y=>k y.sv
   |none=>False
  |_=>False
 | .slice t x c b none=>match ev a x with
  | .c (.s s)=>Rl T a t s c b k
  |_=>False
 | .build t c=>match fK T t with
  |some ⟨.struct b,d,_⟩=>bif vt T b then FJ T a b (d.map Sh.zero) c.toList λl=>k (.agg l)else False
  |_=>False
 | .call ⟨.builtin c,b,d⟩=>Tv T a c d.toList b.toList k
 |_=>False
def lO(a:Fr)(q b e:Nat)(l:List Ce):Prop:=il a q=.box b e l\/il a q=.zQ b e l
structure Bx(n:Nat)(fr:Fr)(m:E):Prop where
 D:∀q b e l,lO fr q b e l->m[b]? =some (.cells (l.map Ce.v).toArray e)
 OF:∀q q' b e l b' e' l',q≠q'->lO fr q b e l->lO fr q' b' e' l'->b≠b'
 key:∀q b e l,lO fr q b e l->n<=q
def SY(T:TT)(c:Fr):Op->List (Nat×Nat)
 | .load t x=>match ev c x,fK T t with
  | .c (.p b o),some a=>(List.range a.sh.length).map λj=>(b,o+j)
  | .c (.bp _ b o),some a=>(List.range a.sh.length).map λj=>(b,o+j)
  |_,_=>[]
 |_=>[]
end Go.Vc
end
section
namespace Go.Vc
variable{s:SV}{b:Bool}
def SV.Is.eq{v:Value}(h:s.Is v)(a:s.jL=true):v=s.v:=by
 cases s<;>first|exact h|simp[SV.jL]at a
def nN(s:SV):s.Is s.v:=by cases s<;>first|rfl|trivial
def j9.eq{n:Nat}{b:Fr}{a:Act}(h:j9 n b a){x:Operand}{s:SV}(c:Vc.ev b x=s)(d:s.jL=true):a.eval x=s.v:=by
 have:=h.ev x;rw[c]at this;exact this.eq d
def wW(h:lz s=some b):s.jL=true/\s.v=.bool b:=by
 unfold lz at h;split at h<;>simp_all [SV.jL,SV.v,Ce.v]
def j9.Zl{n:Nat}{c:Fr}{a:Act}(h:j9 n c a){x:Operand}(d:lz (Vc.ev c x)=some b):a.eval x=.bool b:=by
 rw[h.eq rfl (wW d).1,(wW d).2]
def vR(b o n:Nat):(⟨b,o,none⟩:Addr).add n=⟨b,o+n,none⟩:=by
 unfold Addr.add;split
 .rename_i h;subst h;rfl
 .rfl
def Ci:∀(l:List Ce)(a:Nat)(b:List Ce)(i:Nat),a+b.length<=l.length->
 (mh l a b)[i]? =if a<=i/\i<a+b.length then b[i -a]? else l[i]?
 |[],0,[],i,_=>by simp[mh]
 |[],0,_::_,_,h=>by simp at h
 |[],_+1,_,_,h=>by simp at h
 |x::l,0,[],i,_=>by simp[mh]
 |x::l,0,n::b,i,h=>by
  simp only[mh];cases i with
  |zero=>simp
  |succ i=>
   have:=Ci l 0 b i (by simp at h;omega);simp only[ij,this];simp
 |x::l,a+1,b,i,h=>by
  simp only[mh];cases i with
  |zero=>simp
  |succ i=>
   have:=Ci l a b i (by simp at h;omega);simp only[ij,this];have e:(i+1 -(a+1))=i -a:=V;simp only[e];congr 1;simp;omega
def NL(c:List Value):∀(k a:Nat)(b:Array Value)(i:Nat),
 ((c.zipIdx k).foldl (λ(d:Array Value)(p:Value×Nat)=>d.setIfInBounds (a+p.2) p.1) b)[i]? =
  if a+k<=i/\i<a+k+c.length/\i<b.size then c[i -(a+k)]? else b[i]? :=by
 induction c with
 |nil=>intro k a b i;simp;intro h;omega
 |cons v c g=>
  intro k a b i
  simp only[List.zipIdx_cons,List.foldl_cons,g,Array.size_setIfInBounds,aZ]
  by_cases d:i=a+k
  .subst d
   by_cases e:a+k<b.size
   .simp[e];try omega
   .simp[e];try omega
  .have:¬(a+k=i):=λf=>d f.symm
   rw[jT this]
   by_cases e:a+k<=i/\i<a+k+(c.length+1)/\i<b.size
   .rw[an e,an V]
    have:i -(a+k)=(i -(a+(k+1)))+1:=V
    rw[this,ij]
   .rw[ae e,ae V]
def pI{l:List Ce}(h:s.cells=some l):s.jL=true/\s.v.cells=(l.map Ce.v).toArray:=by
 cases s with
 |c x=>simp[SV.cells]at h;subst h;exact⟨rfl,by simp[SV.v,Ce.lM]⟩
 |tt=>simp[SV.cells]at h;subst h;exact⟨rfl,rfl⟩
 |ff=>simp[SV.cells]at h;subst h;exact⟨rfl,rfl⟩
 |agg a=>simp[SV.cells]at h;subst h;exact⟨rfl,rfl⟩
 |Xq _=>simp[SV.cells]at h
 |un=>simp[SV.cells]at h
 |fW=>simp[SV.cells]at h
 |box _ _ _=>simp[SV.cells]at h
 |zQ _ _ _=>simp[SV.cells]at h
end Go.Vc
end
section
namespace Go.Vc
variable{x y:Operand}{c:TypeId}{h b f o:Nat}{g:List Ce}
variable{e:Program}{T:TT}
def oW(e:Program)(T:TT)(b:Fr)(m:E)(a:Act)(o:Oper)(k:SV->Prop):Prop:=
 ∃x v,k x/\x.Is v/\∀w:World,(∀q∈SY T b o.op,af w.heap q.1 q.2=af m q.1 q.2)->(execOp a.eval o).run e w=.ok (.value v) w
section
variable{n:Nat}{i:Fr}{a:Act}{j:E}{k:SV->Prop}{q:Option Tmp}{v:TypeId}{u:String}{p:Array Edge}{r:Option (Nat×Bool)}
def TU(b:j9 n i a)(h:k (ev i x)):oW e T i j a ⟨q,.move x,v,u,p,r⟩ k:=
 ⟨_,_,h,b.ev x,λw _=>by simp[execOp]⟩
def SA(b:j9 n i a)(h:k (ev i x)):oW e T i j a ⟨q,.assign x,v,u,p,r⟩ k:=
 ⟨_,_,h,b.ev x,λw _=>by simp[execOp]⟩
def Q3(c:j9 n i a){f:Operand}(h:rd T i j k (.pick f x y)):oW e T i j a ⟨q,.pick f x y,v,u,p,r⟩ k:=by
 simp only[rd]at h;split at h
 .rename_i d;exact⟨_,_,h,c.ev x,λw _=>by simp[execOp,c.eq d rfl,SV.v,asBool]⟩
 .rename_i d;exact⟨_,_,h,c.ev y,λw _=>by simp[execOp,c.eq d rfl,SV.v,asBool]⟩
 .rename_i b d;split at h
  .rename_i m o g l;refine⟨_,_,h,nN _,λw _=>?_⟩;simp[execOp,c.eq d rfl,SV.v,Ce.v,asBool,c.Zl g,c.Zl l];try (cases b<;>rfl)
  .exact h.elim
 .exact h.elim
def Ld(d:j9 n i a)(h:rd T i j k (.nilCheck x)):oW e T i j a ⟨q,.nilCheck x,v,u,p,r⟩ k:=by
 simp only[rd]at h;split at h
 .rename_i b o c;exact⟨_,_,h,nN _,λw _=>by simp[execOp,d.eq c rfl,SV.v,Ce.v]⟩
 .rename_i m b o c;exact⟨_,_,h,nN _,λw _=>by simp[execOp,d.eq c rfl,SV.v,Ce.v]⟩
 .rename_i f g l c;exact⟨_,_,h,nN _,λw _=>by simp[execOp,d.eq c rfl,SV.v,Ce.v]⟩
 .rename_i m c;obtain⟨s,g,l⟩:=h;exact⟨_,_,l,nN _,λw _=>by simp[execOp,d.eq c rfl,SV.v,Ce.v,g]⟩
 .exact h.elim
def UR{a:BinOp}{x y:Int}(h:rW a x y k):∃s v,k s/\s.Is v/\∀w:World,(binOp a c (.int .i64 x) (.int .i64 y)).run e w=.ok v w:=by
 cases a<;>simp only[rW]at h
 case quo=>exact⟨_,_,h.2,nN _,λw=>by simp[binOp,Op.intDiv,h.1,SV.v,Ce.v,cO]⟩
 case rem=>exact⟨_,_,h.2,nN _,λw=>by simp[binOp,Op.intDiv,h.1,SV.v,Ce.v]⟩
 case xor=>exact⟨_,_,h,nN _,λw=>by simp[binOp,Op.intBits,SV.v,Ce.v,cO,Vq,IntKind.bits];rfl⟩
 all_goals exact⟨_,_,h,nN _,λw=>by simp[binOp,Op.intArith,Op.intCmp,SV.v,Ce.v,cO]⟩
def PQ(a:BinOp)(c:TypeId)(d f:Operand)(b:IntKind)(x:Int)(y:Value)(w:World):(eqGuard a c d f (.int b x) y).run e w=.ok () w:=by
 cases a<;>simp[eqGuard]
def OJ(a:BinOp)(c:TypeId)(b d:Operand)(x:Bool)(y:Value)(w:World):(eqGuard a c b d (.bool x) y).run e w=.ok () w:=by
 cases a<;>simp[eqGuard]
def QU(hd:e.underlying c=some .bool)(x y:Bool)(w:World):(Op.equal c (.bool x) (.bool y)).run e w=.ok (x==y) w:=by
 have:Op.equal c (.bool x) (.bool y)=Op.equalIn (9999+1) c (.bool x) (.bool y):=rfl;rw[this];generalize 9999=h;simp[Op.equalIn,run_underlying hd]
def JO{a:TypeId}(hd:e.underlying c=some (.slice a))(s:O)(w:World):(Op.equal c s.v (.slice none 0 0)).run e w=.ok s.Gi w:=by
 have:Op.equal c s.v (.slice none 0 0)=Op.equalIn (9999+1) c s.v (.slice none 0 0):=rfl;rw[this];generalize 9999=h;cases s<;>simp[Op.equalIn,run_underlying hd,O.v]
def PR(hd:e.underlying c=some (.int .i64))(x y:Int)(w:World):(Op.equalIn (h+1) c (.int .i64 x) (.int .i64 y)).run e w=.ok (x==y) w:=by
 simp[Op.equalIn,run_underlying hd]
def P9(d:uD e T){u:Nat}(f:fK T u=some ⟨.cell,[.I],b⟩){a:Array Value}{c:Nat}{v:Value}(h:a[c]? =some v)(w:World):(part u a c).run e w=.ok v w:=by
 simp[part,Io d f rfl,TI.agg,h]
def TP(n:uD e T){X Y:Array Value}(A:World):∀(j:List Field)(i:Nat)(l:List (Nat×Nat))(g r:List Ce)(z:Bool),j.map (λf=>(f.offset,f.type))=l->(∀f∈j,f.name≠ "_")->
 (∀k d,g[k]? =some d->X[i+k]? =some d.v)->(∀k d,r[k]? =some d->Y[i+k]? =some d.v)->XB T i l g r=some z->
 (forIn (m:=Sem) j ((none,()):Option Bool×PUnit) λf _=>do
  if f.name≠ "_" then
   if !(<-Op.equalIn (h+1) f.type (<-part f.type X f.offset) (<-part f.type Y f.offset))then pure (.done (some false,()))else pure (.yield (none,()))
  else pure (.yield (none,()))).run e A=.ok (if z=true then(none,())else(some false,())) A:=by
 intro j
 induction j with
 |nil=>
  intro i l g r z u v p q c
  subst u
  cases g<;>cases r<;>simp[XB]at c
  subst c
  simp
 |cons f j K=>
  intro i l g r z u v p q c
  subst u
  simp only[cK]at c
  unfold XB at c
  split at c
  .simp at*
  .rename_i i _ _ _ _ o N l a g b r C
   obtain⟨⟨rfl,rfl⟩,rfl⟩:=by simpa using C
   cases s:Nat.beq f.offset i
   .rw[s]at c;simp at c
   .rw[s]at c;simp only[jJ]at c
    have x:=bq s
    split at c
    .rename_i M L w J
     simp only[DU]at c
     obtain⟨⟨B,D,y⟩,_⟩:=nW (n.yD w)
     have F:B=.int .i64:=by unfold Ao at y;split at y<;>simp_all
     subst F
     have H:X[f.offset]? =some (.int .i64 a):=by have:=p 0 (.i a) rfl;rw[x];exact this
     have I:Y[f.offset]? =some (.int .i64 b):=by have:=q 0 (.i b) rfl;rw[x];exact this
     have G:=K (i+1) _ g r L rfl (λt E=>v t (ai _ E)) (λk d t=>by have:=p (k+1) d (by simpa using t);rw[<-this];congr 1;omega) (λk d t=>by have:=q (k+1) d (by simpa using t);rw[<-this];congr 1;omega) J
     rw[List.forIn_cons,Sem.run_bind,an (v f bg)]
     simp only[Sem.run_bind,P9 n w H,P9 n w I,Result.andThen_ok,PR D]
     cases t:(a==b)
     .rw[t]at c;subst c;simp
     .rw[t]at c;simp only[Oi]at c;subst c
      simp only[Oh,js,rS,Sem.run_pure,Result.andThen_ok]
      exact G
    .simp at c
  .simp at c
def OK(j:uD e T){a:Array Field}(p:e.underlying c=some (.struct a))(o:e.stoodInHeld c=false)(n:∀f∈a.toList,f.name≠ "_"){r:List Ce}{z:Bool}
 (l:XB T 0 (a.toList.map λf=>(f.offset,f.type)) g r=some z)(w:World):(Op.equal c (.agg (g.map Ce.v).toArray) (.agg (r.map Ce.v).toArray)).run e w=.ok z w:=by
 have:Op.equal c (.agg (g.map Ce.v).toArray) (.agg (r.map Ce.v).toArray)=Op.equalIn (9998+1+1) c (.agg (g.map Ce.v).toArray) (.agg (r.map Ce.v).toArray):=rfl
 rw[this]
 generalize 9998=h
 rw[Op.equalIn]
 simp only[Sem.run_bind,run_underlying p,Result.andThen_ok]
 have m:=TP j (h:=h) (X:=(g.map Ce.v).toArray) (Y:=(r.map Ce.v).toArray) w a.toList 0 _ g r z rfl n (λk i b=>by simp[b]) (λk i b=>by simp[b]) l
 have b:(program:Sem Program).run e w=.ok e w:=rfl
 rw[b,Result.andThen_ok,ae (by simp[o]),Sem.run_bind,<-Array.forIn_toList,m]
 cases z<;>rfl
def Su(h:UY e c=true):∃a,e.underlying c=some (.struct a)/\(∀f∈a.toList,f.name≠ "_")/\e.stoodInHeld c=false/\e.eqGuardType e.depth c=false:=by
 unfold UY at h;split at h
 .rename_i a b;simp only[bM,List.all_eq_true,vJ,iQ]at h;exact⟨a,b,h.1.1,h.1.2,h.2⟩
 .cases h
def PO(h:e.eqGuardType e.depth c=false)(f g:Operand)(a b:Array Value)(w:World):(eqGuard .eql c f g (.agg a) (.agg b)).run e w=.ok () w:=by
 have d:(program:Sem Program).run e w=.ok e w:=rfl;simp only[eqGuard,Sem.run_bind];simp[d,h]
def MK(a:BinOp)(c:TypeId)(b d:Operand)(s:O)(y:Value)(w:World):(eqGuard a c b d s.v y).run e w=.ok () w:=by
 cases s<;>cases a<;>simp[eqGuard,O.v]
def PW(m:uD e T)(d:j9 n i a){z:BinOp}{D:TypeId}(b:rd T i j k (.binOp z c x y D)):oW e T i j a ⟨q,.binOp z c x y D,v,u,p,r⟩ k:=by
 simp only[rd]at b;split at b
 .rename_i L M f l;obtain⟨s,E,A,w,C⟩:=UR (e:=e) (c:=c) b;refine⟨s,E,A,w,λB _=>?_⟩;simp only[execOp,d.eq f rfl,d.eq l rfl,SV.v,Ce.v,Sem.run_bind];simp[PQ,C]
 .rename_i s f l;split at b
  .rename_i I J H A;have w:=(km (m.yD A)).1;have F:a.eval x=s.v:=d.eq f rfl;have G:a.eval y=.slice none 0 0:=d.eq l rfl;cases z<;>simp only[Vd]at b
   all_goals
    first
    |exact b.elim
    |exact⟨_,_,b,nN _,λB _=>by
     have C:∀o:BinOp,o=.eql\/o=.neq->binOp o c s.v (.slice none 0 0)=(if o=.eql then(do pure (.bool (<-Op.equal c s.v (.slice none 0 0))))else(do pure (.bool (!(<-Op.equal c s.v (.slice none 0 0)))))):=by
      intro o E;rcases E with rfl|rfl<;>cases s<;>rfl
     simp only[execOp,F,G,Sem.run_bind,MK,Result.andThen_ok];rw[C _ aL];simp[JO w,SV.v,Ce.v]⟩
  .exact b.elim
 .rename_i g N f l;split at b
  .unfold eqA at b;split at b
   .rename_i G A;split at b
    .rename_i R C;obtain⟨O,w,J,K,H⟩:=Su (m.cmp G);obtain⟨⟨Q,s,I⟩,_⟩:=nk (m.yD A);rw[w]at s;obtain rfl:=(TypeDesc.struct.inj (jN s));rw[<-I]at C;refine⟨_,_,b,nN _,λB _=>?_⟩;have E:a.eval x=.agg (g.map Ce.v).toArray:=d.eq f rfl;have F:a.eval y=.agg (N.map Ce.v).toArray:=d.eq l rfl;simp only[execOp,E,F,Sem.run_bind,PO H,Result.andThen_ok,binOp,OK m w K J C];rfl
    .exact b.elim
   .exact b.elim
  .exact b.elim
 .split at b
  .rename_i L M w f l;obtain⟨⟨h,hd,A⟩,_⟩:=nW (m.yD w);have s:h=.bool:=by
    cases h<;>simp_all [Ao]
   subst s;cases z<;>simp only[UQ]at b
   all_goals
    first
    |exact b.elim
    |exact⟨_,_,b,nN _,λB _=>by
     simp only[execOp,d.Zl f,d.Zl l,Sem.run_bind,OJ,Result.andThen,binOp,QU hd];rfl⟩
  .exact b.elim
def MP(d:uD e T)(l:j9 n i a){s:TypeId}(b:rd T i j k (.convert s c x)):oW e T i j a ⟨q,.convert s c x,v,u,p,r⟩ k:=by
 simp only[rd]at b;split at b
 .rename_i B b1 b2 z A t w y;obtain⟨⟨h,hd,_⟩,_⟩:=nW (d.yD t);obtain⟨⟨g,m,f⟩,_⟩:=nW (d.yD w);have o:g=.int .i64:=by unfold Ao at f;split at f<;>simp_all
  subst o;exact⟨_,_,b,nN _,λC _=>by
   simp only[execOp,l.eq y rfl,SV.v,Ce.v,Sem.run_bind];simp[convert,run_underlying hd,run_underlying m,Conv.intToInt,cO]⟩
 .exact b.elim
def Q4(b:j9 n i a){f:UnOp}(h:rd T i j k (.unOp f c x)):oW e T i j a ⟨q,.unOp f c x,v,u,p,r⟩ k:=by
 simp only[rd]at h;generalize d:ev i x=sx at h;unfold Zs at h;split at h
 .exact⟨_,_,h,nN _,λw _=>by simp[execOp,b.eq d rfl,SV.v,Op.unary]⟩
 .exact⟨_,_,h,nN _,λw _=>by simp[execOp,b.eq d rfl,SV.v,Op.unary]⟩
 .exact⟨_,_,h,nN _,λw _=>by simp[execOp,b.eq d rfl,SV.v,Ce.v,Op.unary]⟩
 .exact⟨_,_,h,nN _,λw _=>by simp[execOp,b.eq d rfl,SV.v,Ce.v,Op.unary,Op.intArith,cO]⟩
 .exact h.elim
def DB(l:uD e T)(L:j9 n i a){mk:Nat->SV}(E:∀o,(mk o).v=.pointer (some ⟨b,o,none⟩))(J:a.eval x=.pointer (some ⟨b,o,none⟩))(h:FT T c f o mk k):
 oW e T i j a ⟨q,.fieldAddr c x f,v,u,p,r⟩ k:=by
 unfold FT at h
 split at h
 .rename_i N O K H
  split at h
  .rename_i M P s
   split at h
   .rename_i g I
    cases d:(g.uJ||Nat.beq g.sh.length 0)
    .rw[d]at h
     simp only[br]at d
     obtain⟨⟨z,C,D⟩,_⟩:=nk (l.yD H)
     rw[pP,<-D,cJ]at s
     obtain⟨y,A,m⟩:=Option.map_eq_some_iff.1 s
     simp only[Ol]at m
     obtain⟨rfl,rfl⟩:=m
     have G:=λw=>kD l I d.1 w
     have F:g.sh.length≠0:=λt=>by rw[t]at d;simp at d
     refine⟨_,_,h,nN _,λw _=>?_⟩
     have B:z[f]? =some y:=by simpa using A
     rw[E]
     simp[execOp,Instr.fieldAt,J,run_underlying C,B,Instr.sureAddr,fieldPlace,G,F,vR]
    .rw[d]at h;exact h.elim
   .exact h.elim
  .exact h.elim
 .exact h.elim
def JP(l:uD e T)(d:j9 n i a)(h:rd T i j k (.fieldAddr c x f)):oW e T i j a ⟨q,.fieldAddr c x f,v,u,p,r⟩ k:=by
 simp only[rd]at h;split at h
 .rename_i b o g;exact DB l d (λo=>rfl) (d.eq g rfl) h
 .rename_i m b o g;exact DB l d (λo=>rfl) (d.eq g rfl) h
 .exact h.elim
def PY(l:uD e T)(m:j9 n i a)(h:rd T i j k (.field c x f)):oW e T i j a ⟨q,.field c x f,v,u,p,r⟩ k:=by
 simp only[rd]at h;split at h
 .rename_i g C;unfold OL at h;split at h
  .rename_i N O L K;split at h
   .rename_i M P A;split at h
    .rename_i E B;cases b:E.uJ
     .rw[b]at h;obtain⟨⟨G,z,I⟩,_⟩:=nk (l.yD K);rw[pP,<-I,cJ]at A;obtain⟨F,H,s⟩:=Option.map_eq_some_iff.1 A;simp only[Ol]at s;obtain⟨rfl,rfl⟩:=s;have J:=λw=>kD l B b w;have o:=λw=>Io l B b w;have t:G[f]? =some F:=by simpa using H
      cases d:E.agg
      .simp only[d,mL]at h;split at h
       .rename_i y D;refine⟨_,_,h,nN _,λw _=>?_⟩;rw[pP]at D;simp[execOp,Instr.field,m.eq C rfl,SV.v,run_underlying z,t,asAgg,part,o,d,D]
       .exact h.elim
      .simp only[d,mL,jJ]at h;refine⟨_,_,h,nN _,λw _=>?_⟩;simp[execOp,Instr.field,m.eq C rfl,SV.v,run_underlying z,t,asAgg,part,o,d,J,List.map_drop,Ok]
     .rw[b]at h;exact h.elim
    .exact h.elim
   .exact h.elim
  .exact h.elim
 .exact h.elim
def JQ(l:uD e T)(g:j9 n i a)(h:rd T i j k (.indexAddr c x y)):oW e T i j a ⟨q,.indexAddr c x y,v,u,p,r⟩ k:=by
 simp only[rd]at h;split at h
 .rename_i E J C D;unfold Xf at h;split at h
  .rename_i I L G A;split at h
   .rename_i F t;cases f:F.uJ
    .rw[f]at h;obtain⟨m,d,s⟩:=h;have B:=(km (l.yD A)).1;have z:=λw=>kD l t f w;cases E with
     |nil=>simp[O.len]at d;omega
     |zW _ _ _=>simp[O.len]at d;omega
     |mk b o K H=>
      refine⟨_,_,s,nN _,λw _=>?_⟩;simp only[O.len]at d;simp[execOp,Instr.indexAt,g.eq C rfl,g.eq D rfl,SV.v,Ce.v,O.v,asIntOf,run_underlying B,m,d,z,vR,O.D,O.off]
    .rw[f]at h;exact h.elim
   .exact h.elim
  .exact h.elim
 .exact h.elim
def P4:∀(d:List Sh)(b o a:Nat)(k:List Ce->Prop),VW j b o a d k->∃g,k g/\g.length=d.length/\∀i,i<d.length->af j b (o+a+i)=(g[i]?).map Ce.v
 |[],_,_,_,_,h=>⟨[],h,rfl,λi c=>by simp at c⟩
 |s::r,b,o,a,k,h=>by
  obtain⟨x,n,h⟩:=h;obtain⟨g,l,m,f⟩:=P4 r b o (a+1) _ h;refine⟨s.mk x::g,l,by simp[m],λi c=>?_⟩;cases i with
  |zero=>simpa using n
  |succ i=>
   have:=f i (by simpa using c);have e:o+(a+1)+i=o+a+(i+1):=V;rw[e]at this;simpa using this
def mV(B:uD e T)(S:j9 n i a)(I:a.eval x=.pointer (some ⟨b,o,none⟩)){f:TI}(H:fK T c=some f)(G:f.uJ=false)
 (K:∀d,d<f.sh.length->(b,o+d)∈SY T i (.load c x))(E:g.length=f.sh.length)(L:∀z,z<f.sh.length->af j b (o+z)=(g[z]?).map Ce.v)
 {s:SV}(U:s.jL=true)(O:(f.agg=true/\s.v=.agg (g.map Ce.v).toArray)\/(f.agg=false/\∃m,g=[m]/\s.v=m.v))(N:k s):
 oW e T i j a ⟨q,.load c x,v,u,p,r⟩ k:=by
 refine⟨s,s.v,N,nN _,λl R=>?_⟩
 have Q:=kD B H G l
 have C:=Io B H G l
 have D:∀d,d<f.sh.length->af l.heap b (o+d)=(g[d]?).map Ce.v:=λd h=>by rw[R (b,o+d) (K d h),L d h]
 rcases O with⟨t,y⟩|⟨t,m,y,J⟩
 .have F:=run_loadCells_list (P:=e) (w:=l) ⟨b,o,none⟩ (g.map Ce.v) (λd V h=>by
   rw[vR,zT];have M:d<f.sh.length:=by
    rcases aW d f.sh.length with A|A
    .exact A
    .rw[cN bF]at h;simp at h
   rw[D d M,<-cJ,h])
  simp only[dY]at F
  simp only[execOp,Instr.loadAt,I,Instr.sureAddr,loadVar,Sem.run_bind,Sem.run_pure,C,t,Result.andThen_ok,Q,MF]
  simp[<-E,F,y]
 .subst y
  have A:=D 0 (by rw[<-E];simp)
  simp at A
  simp only[execOp,Instr.loadAt,I,Instr.sureAddr,loadVar,Sem.run_bind,Sem.run_pure,C,t,Result.andThen_ok]
  simp[zT,A,J]
def Js(C:uD e T)(B:j9 n i a)(D:a.eval x=.pointer (some ⟨b,o,none⟩))
 (A:∀d f,fK T c=some d->f<d.sh.length->(b,o+f)∈SY T i (.load c x))(h:P5 T j c b o k):oW e T i j a ⟨q,.load c x,v,u,p,r⟩ k:=by
 unfold P5 at h
 split at h
 .rename_i H I F d
  obtain⟨g,w,G,E⟩:=P4 _ _ _ _ _ h
  exact mV C B D d rfl (λf t=>A _ f d t) G (λz m=>by simpa using E z m) (s:=.agg g) rfl (Or.inl ⟨rfl,rfl⟩) w
 .rename_i G F d
  obtain⟨y,E,w⟩:=h
  exact mV C B D d rfl (λf t=>A _ f d t) (g:=[G.mk y]) rfl (λz m=>by
   have:z=0:=by simpa using m
   subst this;exact E) (s:=.c (G.mk y)) rfl (Or.inr ⟨rfl,_,rfl,rfl⟩) w
 .rename_i G H F d
  obtain⟨y,E,w⟩:=h
  exact mV C B D d rfl (λf t=>A _ f d t) (g:=[.s y]) rfl (λz m=>by
   have:z=0:=by simpa using m
   subst this;exact E) (s:=.c (.s y)) rfl (Or.inr ⟨rfl,_,rfl,rfl⟩) w
 .exact h.elim
def Ms:∀{a:List Ce}{b o:Nat}{g:List Ce},Hp a o b=some g->g.length=b/\∀i,i<b->a[o+i]? =g[i]?
 |a,0,o,g,h=>by simp[Hp]at h;subst h;simp
 |a,b+1,o,g,h=>by
  simp only[Hp]at h;split at h
  .rename_i j r c f;simp at h;subst h;obtain⟨d,e⟩:=Ms f;refine⟨by simp[d],λi k=>?_⟩;cases i with
   |zero=>rw[pP]at c;simpa using c
   |succ i=>
    have:=e i V;rw[show o+(i+1)=o+1+i by omega];simpa using this
  .simp at h
def Jr(C:uD e T)(B:j9 n i a){H:Nat}{G:List Ce}(E:a.eval x=.pointer (some ⟨b,o,none⟩))
 (A:∀d m,fK T c=some d->m<d.sh.length->(b,o+m)∈SY T i (.load c x))(I:j[b]? =some (.cells (G.map Ce.v).toArray H))(h:NH T c G o k):
 oW e T i j a ⟨q,.load c x,v,u,p,r⟩ k:=by
 have D:∀f,af j b f=(G[f]?).map Ce.v:=λf=>by simp[af,I]
 unfold NH at h
 split at h
 .rename_i K L F d
  split at h
  .rename_i g J
   obtain⟨t,w⟩:=Ms J
   exact mV C B E d rfl (λm z=>A _ m d z) t (λf y=>by rw[D,w f y]) (s:=.agg g) rfl (Or.inl ⟨rfl,rfl⟩) h
  .exact h.elim
 .rename_i J F d
  split at h
  .rename_i t w
   rw[pP]at w
   exact mV C B E d rfl (λm z=>A _ m d z) (g:=[t]) rfl (λf y=>by
    have:f=0:=by simpa using y
    subst this;rw[D];simp[w]) (s:=.c t) rfl (Or.inr ⟨rfl,_,rfl,rfl⟩) h
  .exact h.elim
 .rename_i H J F d
  split at h
  .rename_i t w
   rw[pP]at w
   exact mV C B E d rfl (λm z=>A _ m d z) (g:=[t]) rfl (λf y=>by
    have:f=0:=by simpa using y
    subst this;rw[D];simp[w]) (s:=.c t) rfl (Or.inr ⟨rfl,_,rfl,rfl⟩) h
  .exact h.elim
 .rename_i L K J F d
  split at h
  .rename_i t w
   rw[pP]at w
   exact mV C B E d rfl (λm z=>A _ m d z) (g:=[t]) rfl (λf y=>by
    have:f=0:=by simpa using y
    subst this;rw[D];simp[w]) (s:=.c t) rfl (Or.inr ⟨rfl,_,rfl,rfl⟩) h
  .exact h.elim
 .exact h.elim
def Q2(l:uD e T)(d:j9 n i a)(B:Bx n i j)(h:rd T i j k (.load c x)):oW e T i j a ⟨q,.load c x,v,u,p,r⟩ k:=by
 simp only[rd]at h;split at h
 .rename_i b o f;exact Js l d (d.eq f rfl) (λm g A z=>by simp only[SY,f,A];exact List.mem_map.2 ⟨g,List.mem_range.2 z,rfl⟩) h
 .rename_i C b o f;have w:∀m g,fK T c=some m->g<m.sh.length->(b,o+g)∈SY T i (.load c x):=λm g A z=>by simp only[SY,f,A];exact List.mem_map.2 ⟨g,List.mem_range.2 z,rfl⟩
  split at h
  .rename_i D t s y;obtain⟨rfl,h⟩:=h;exact Jr l d (d.eq f rfl) w (B.D C _ t s (Or.inl y)) h
  .rename_i D t s y;obtain⟨rfl,h⟩:=h;exact Jr l d (d.eq f rfl) w (B.D C _ t s (Or.inr y)) h
  .exact Js l d (d.eq f rfl) w h
 .exact h.elim
end
end Go.Vc
end
section
namespace Go.Vc
variable{x:Operand}{t:TypeId}
variable{P:Program}{T:TT}
section
variable{n:Nat}{b:Fr}{a:Act}{m:E}{k:SV->Prop}{d:Option Tmp}{g:TypeId}{f:String}{c:Array Edge}{e:Option (Nat×Bool)}
def MQ(l:j9 n b a){j:Nat}(h:rd T b m k (.extract x j)):oW P T b m a ⟨d,.extract x j,g,f,c,e⟩ k:=by
 simp only[rd]at h;split at h
 .rename_i p o;split at h
  .rename_i y i;refine⟨_,_,h,nN _,λw _=>?_⟩;rw[pP]at i;rw[AV.aag];have:a.eval x=.tuple (p.map AV.v).toArray:=l.eq o rfl;simp[execOp,Instr.extract,this,i]
  .exact h.elim
 .exact h.elim
def NR(c:j9 n b a){x:Option Operand}{d:Int}{k:Int->Prop}(h:MX b x d k):
 (x=none/\k d)\/∃y i,x=some y/\a.eval y=.int .i64 i/\k i:=by
 unfold MX at h
 split at h
 .exact Or.inl ⟨rfl,h⟩
 .rename_i y
  split at h
  .rename_i i e
   exact Or.inr ⟨y,i,rfl,c.eq e rfl,h⟩
  .exact h.elim
def pT(k:IntKind)(i:Int)(y:Nat)(c:BoundsCode)(a:0<=i)(b:i<=y)(w:World):(Instr.sliceBound (.int k i) y c).run P w=.ok i.toNat w:=by
 simp[Instr.sliceBound,asIntOf,a,b]
def Ye(b o l c a d e:Nat):(O.cut (.mk b o l c) a d e).v=.slice (if c=a then some ⟨b,o,none⟩else(some (⟨b,o,none⟩:Addr)).map (·.add (a*e))) (d -a) (c -a):=by
 show Value.slice _ _ _=_;simp only[vR,nX];split<;>rfl
def PZ(J:uD P T)(r:j9 n b a){A y:Option Operand}(i:rd T b m k (.slice t x A y none)):oW P T b m a ⟨d,.slice t x A y none,g,f,c,e⟩ k:=by
 simp only[rd]at i;split at i
 .rename_i s G;unfold Rl at i;split at i
  .rename_i v N M L;split at i
   .rename_i B K;cases D:B.uJ
    .rw[D]at i;have F:=(km (J.yD L)).1;have E:=λw=>kD J K D w;have z:∀(l h:Int),0<=l->l<=h->h<=(s.cap:Int)->
      (∀w:World,(Instr.sliceBounds true s.len s.cap (A.map a.eval) (y.map a.eval) none).run P w=.ok (l.toNat,h.toNat,s.cap) w)->
      ∀w:World,(execOp a.eval ⟨d,.slice t x A y none,g,f,c,e⟩).run P w=.ok (.value (Ce.s (s.cut l.toNat h.toNat B.sh.length)).v) w:=by
      intro l h o p j q w
      cases s with
      |nil=>
       simp only[O.cap,O.len]at q j
       have:h=0:=V
       have:l=0:=V
       subst this;subst h
       simp[execOp,Instr.sliceAt,r.eq G rfl,SV.v,Ce.v,O.v,run_underlying F,Instr.slice,q,E,O.cut]
      |zW u C H=>
       simp only[O.cap,O.len]at q j
       have:h=0:=V
       have:l=0:=V
       subst this;subst h
       simp[execOp,Instr.sliceAt,r.eq G rfl,SV.v,Ce.v,O.v,run_underlying F,Instr.slice,q,E,O.cut]
      |mk u I H C=>
       simp only[O.cap,O.len]at q
       have v:(Ce.s ((O.mk u I H C).cut l.toNat h.toNat B.sh.length)).v=_:=Ye u I H C l.toNat h.toNat B.sh.length
       rw[v]
       have:a.eval x=.slice (some ⟨u,I,none⟩) H C:=r.eq G rfl
       simp[execOp,Instr.sliceAt,this,run_underlying F,Instr.slice,q,E]
     simp only[mL]at i;rcases NR r i with⟨rfl,C⟩|⟨Q,l,rfl,H,C⟩<;>rcases NR r C with⟨rfl,o,p,j,u⟩|⟨R,h,rfl,I,o,p,j,u⟩
     .exact⟨_,_,u,nN _,λw _=>z _ _ o p j (λw=>by simp[Instr.sliceBounds]) w⟩
     .exact⟨_,_,u,nN _,λw _=>z _ _ o p j (λw=>by simp[Instr.sliceBounds,I,pT _ _ _ _ (by omega:0<=h) j]) w⟩
     .exact⟨_,_,u,nN _,λw _=>z _ _ o p j (λw=>by simp[Instr.sliceBounds,H,pT _ _ _ _ o p]) w⟩
     .exact⟨_,_,u,nN _,λw _=>z _ _ o p j (λw=>by
       have v:l<=(h.toNat:Int):=V;simp[Instr.sliceBounds,I,H,pT _ _ _ _ (by omega:0<=h) j,pT _ _ _ _ o v]) w⟩
    .rw[D]at i;exact i.elim
   .exact i.elim
  .exact i.elim
 .exact i.elim
def KP(w:uD P T)(q:j9 n b a)(p:List (Nat×Nat))(jg:Nat->Option (Nat×Nat))
 (r:∀i d t f,Ie p i=some (d,t)->fK T t=some f->f.uJ=false->jg i=some (d,f.sh.length)):
 ∀(s:List (Nat×Operand))(c:List Ce)(k:List Ce->Prop),FJ T b p c s k->
  ∃l,k l/\Instr.fill jg (c.map Ce.v).toArray (s.map λe=>(e.1,a.eval e.2))=some (l.map Ce.v).toArray
 |[],c,k,h=>⟨c,h,rfl⟩
 |(i,x)::H,c,k,h=>by
  simp only[FJ]at h;split at h
  .rename_i d t e E D;split at h
   .rename_i f F;cases g:(!f.uJ&&Nat.beq e.length f.sh.length&&Nat.ble (d+e.length) c.length)
    .rw[g]at h;exact h.elim
    .rw[g]at h;simp only[bM,iQ]at g;obtain⟨⟨y,m⟩,o⟩:=g;have m:=bq m;have o:=lL o;obtain⟨l,A,C⟩:=KP w q p jg r H (mh c d e) k h;refine⟨l,A,?_⟩;obtain⟨B,z⟩:=pI D;have G:a.eval x=(ev b x).v:=q.eq rfl B;simp only[cK,Instr.fill,r i d t f E F y,G,z,DT,dY,m];rw[ae bF,<-C];congr 1;apply BU;intro j;have u:=NL (e.map Ce.v) 0 d (c.map Ce.v).toArray j;rw[<-aai,Zu];have v:=Ci c d e j o;rw[show((List.map Ce.v (mh c d e)).toArray)[j]? =((mh c d e)[j]?).map Ce.v by simp,v];rw[u];simp;split<;>split<;>first|rfl|(exfalso;omega)|(congr 1;omega)
   .exact h.elim
  .exact h.elim
def YF(T:TT)(t:Nat):Nat:=match fK T t with|some a=>a.sh.length|none=>0
def Jy(c:uD P T)(w:World):∀(a:List Field),(∀f∈a,∃b,fK T f.type=some b/\b.uJ=false)->
 (a.mapM (λf=>do pure (f.offset,<-sizeOf f.type):Field->Sem (Nat×Nat))).run P w=.ok (a.map λf=>(f.offset,YF T f.type)) w
 |[],_=>aL
 |f::a,h=>by
  obtain⟨b,d,j⟩:=h f aL;have e:=Jy c w a (λg i=>h g (by simp[i]));simp only[Uu,Sem.run_bind,kD c d j,Result.andThen_ok,Sem.run_pure]at e⊢;rw[e];simp[YF,d]
def JA:∀{d:List (Nat×Nat)},vt T d=true->∀p∈d,∃a,fK T p.2=some a/\a.uJ=false
 |[],_,_,h=>by simp at h
 |(o,t)::r,h,p,c=>by
  simp only[vt,bM]at h;rcases List.mem_cons.1 c with rfl|c
  .have b:=h.1;split at b
   .rename_i a e;exact⟨a,e,by simpa using b⟩
   .simp at b
  .exact JA h.2 p c
def PX(l:uD P T)(z:j9 n b a){o:Array (Nat×Operand)}(i:rd T b m k (.build t o)):oW P T b m a ⟨d,.build t o,g,f,c,e⟩ k:=by
 simp only[rd]at i;split at i
 .rename_i y K M v;cases q:vt T y
  .rw[q]at i;exact i.elim
  rw[q]at i;obtain⟨⟨j,D,s⟩,_⟩:=nk (l.yD v);obtain⟨L,I,J,Q⟩:=wq l v rfl;have A:∀h∈j.toList,∃r,fK T h.type=some r/\r.uJ=false:=λh B=>
   JA q (h.offset,h.type) (by rw[<-s];exact List.mem_map.2 ⟨h,B,rfl⟩)
  have G:∀w:World,(j.mapM (λh=>do pure (h.offset,<-sizeOf h.type):Field->Sem (Nat×Nat))).run P w=.ok (j.toList.map λh=>(h.offset,YF T h.type)).toArray w:=by
   intro w;rw[UC,Sem.run_map,Jy l w j.toList A];rfl
  obtain⟨R,E,F⟩:=KP l z y (λx=>((j.toList.map λh=>(h.offset,YF T h.type)).toArray)[x]?) (λx S t r u H O=>by
   rw[pP,<-s,cJ]at u;obtain⟨N,C,p⟩:=Option.map_eq_some_iff.1 u;simp only[Ol]at p;obtain⟨rfl,rfl⟩:=p;simp only[lK,cJ,C,nX,YF,H]) _ _ _ i
  refine⟨_,_,E,nN _,λw _=>?_⟩;have u:L.cells=((K.map Sh.zero).map Ce.v).toArray:=by
   apply Array.toList_inj.1;simp[I]
  have C:(o.map λp=>(p.1,a.eval p.2)).toList=o.toList.map λp=>(p.1,a.eval p.2):=aL;simp only[execOp,Instr.build,Sem.run_bind,J,Result.andThen_ok,run_underlying D,G,u,C,F];simp[SV.v]
 .exact i.elim
def Cc(d:j9 n b a):∀{c:List Operand},c.all (λx=>(ev b x).jL)=true->c.map a.eval=c.map λx=>(ev b x).v
 |[],_=>rfl
 |x::c,h=>by
  simp only[Oj,bM]at h;simp only[cK,d.eq rfl h.1,Cc d h.2]
def MO(v:uD P T)(l:j9 n b a){s:Builtin}{i:Array Operand}{r:Array TypeId}(h:rd T b m k (.call ⟨.builtin s,i,r⟩)):
 oW P T b m a ⟨d,.call ⟨.builtin s,i,r⟩,g,f,c,e⟩ k:=by
 simp only[rd]at h
 unfold Tv at h
 split at h
 .rename_i t x z p
  split at h
  .rename_i D E C q y o
   refine⟨_,_,h,nN _,λw _=>?_⟩
   have A:=(km (v.yD y)).1
   have u:r=#[t]:=Array.toList_inj.1 (by simpa using z)
   have j:i=#[x]:=Array.toList_inj.1 (by simpa using p)
   subst u;subst j
   have B:a.eval x=q.v:=l.eq o rfl
   cases q<;>simp[execOp,resolve,invoke,builtin,Builtin.len_,run_underlying A,B,O.v,goInt,SV.v,Ce.v,O.len]
  .exact h.elim
 .rename_i x y p
  split at h
  .rename_i u z o q
   refine⟨_,_,h,nN _,λw _=>?_⟩
   have j:i=#[x,y]:=Array.toList_inj.1 (by simpa using p)
   subst j
   simp[execOp,resolve,invoke,builtin,Builtin.max_,Builtin.max2,l.eq o rfl,l.eq q rfl,SV.v,Ce.v]
  .exact h.elim
 .rename_i x y p
  split at h
  .rename_i u z o q
   refine⟨_,_,h,nN _,λw _=>?_⟩
   have j:i=#[x,y]:=Array.toList_inj.1 (by simpa using p)
   subst j
   simp[execOp,resolve,invoke,builtin,Builtin.min_,Builtin.min2,l.eq o rfl,l.eq q rfl,SV.v,Ce.v]
  .exact h.elim
 .exact h.elim
def LF(j:uD P T)(i:j9 n b a)(s:Bx n b m)(o:Oper)(h:rd T b m k o.op):oW P T b m a o k:=by
 obtain⟨d,l,g,f,c,e⟩:=o;cases l with
 |move x=>exact TU i h
 |assign x=>exact SA i h
 |pick p x y=>exact Q3 i h
 |nilCheck x=>exact Ld i h
 |binOp l t x y q=>exact PW j i h
 |unOp l t x=>exact Q4 i h
 |convert q t x=>exact MP j i h
 |fieldAddr t x q=>exact JP j i h
 |field t x q=>exact PY j i h
 |indexAddr t x y=>exact JQ j i h
 |load t x=>exact Q2 j i s h
 |extract x r=>exact MQ i h
 |slice t x u r mx=>cases mx with
  |none=>exact PZ j i h
  |some y=>exact h.elim
 |build t r=>exact PX j i h
 |call p=>
  obtain⟨r,u,w⟩:=p;cases r with
  |builtin v=>exact MO j i h
  |value q=>exact h.elim
  |invoke v q=>exact h.elim
 |_=>exact h.elim
end
end Go.Vc
end
section
namespace Go.Vc
variable{m m':E}{b o e n q:Nat}{l:List Ce}
def ah(m:E)(b o:Nat):List Ce->E
 |[]=>m
 |c::r=>ah (rE m b o c.v) b (o+1) r
def fL(m:E)(b o n:Nat):Prop:=∀j,j<n->(af m b (o+j)).isSome=true/\vS m b (o+j)=false
def fR(m:E)(b o:Nat)(l:List Ce):Prop:=∀(i:Nat)(c:Ce),l[i]? =some c->af m b (o+i)=some c.v
def mK(a:List Ce)(n:Nat):List Ce:=(List.replicate n a).flatten
def bt(l:List Ce):Array Value:=(l.map Ce.v).toArray
def Ri(m:E)(b o:Nat)(v:Value):(rE m b o v).size=m.size:=by simp[rE]
def LP(m:E)(b o:Nat)(v:Value){j:Nat}(h:j≠b):(rE m b o v)[j]? =m[j]? :=by
 simp only[rE,lJ];rw[ae (λe=>h e.symm)]
def av:∀(l:List Ce)(m:E)(b o:Nat),(ah m b o l).size=m.size
 |[],_,_,_=>rfl
 |c::r,m,b,o=>by simp only[ah];rw[av r,Ri]
def bd:∀(l:List Ce)(m:E)(b o:Nat){j:Nat},j≠b->(ah m b o l)[j]? =m[j]?
 |[],_,_,_,_,_=>rfl
 |c::r,m,b,o,j,h=>by simp only[ah];rw[bd r _ _ _ h,LP m b o _ h]
def lB{v:Value}(h:af m b o=some v):b<m.size:=by
 rcases aW b m.size with a|a
 .exact a
 .simp[af,Jj a]at h
def aE(h:m'[b]? =m[b]?)(o:Nat):af m' b o=af m b o:=by simp only[af,h]
def cD(m:E)(b:Nat)(e:Nat)(l:List Ce):Prop:=m[b]? =some (.cells (bt l) e)
def Un(l:List Ce)(i:Nat):(bt l)[i]? =(l[i]?).map Ce.v:=by simp[bt]
def cD.cp(h:cD m b e l)(o:Nat):af m b o=(l[o]?).map Ce.v:=by
 have a:m[b]? =some (.cells (bt l) e (0,0)):=h;simp only[af,a,Un]
def cD.iD(h:cD m b e l):fR m b 0 l:=λi c a=>by rw[h.cp,bT,a];rfl
def cD.lt(h:cD m b e l):b<m.size:=(Array.getElem?_eq_some_iff.1 h).1
def cD.vS{m:E}{b e:Nat}{l:List Ce}(h:cD m b e l)(o:Nat):vS m b o=false:=by
 have a:m[b]? =some (.cells (bt l) e (0,0)):=h;simp[Vc.vS,a]
def cD.fL(h:cD m b e l)(c:o+n<=l.length):fL m b o n:=λj a=>by
 refine⟨?_,h.vS _⟩;rw[h.cp];simp;omega
def cD.push(m:E)(l:List Ce)(e:Nat):cD (m.push (.cells (bt l) e)) m.size e l:=by simp[cD]
def cD.congr(a:cD m b e l)(h:m'[b]? =m[b]?):cD m' b e l:=by
 unfold cD at*;rw[h];exact a
def cD.rE{m:E}{b e:Nat}{l:List Ce}(h:cD m b e l)(o:Nat)(c:Ce):cD (rE m b o c.v) b e (l.set o c):=by
 have d:m[b]? =some (.cells (bt l) e (0,0)):=h;have f:=h.lt;simp only[cD,Vc.rE,lJ,MF,d,nX];congr 2;apply BU;intro i;simp only[bt,Array.getElem?_setIfInBounds,lK,cJ,jG,DT,dY];by_cases e:o=i
 .subst e;by_cases a:o<l.length
  .simp[a]
  .simp[a]
 .simp[e]
def je(l:List Ce)(o:Nat):List Ce->List Ce
 |[]=>l
 |c::r=>je (l.set o c) (o+1) r
def kU:∀(r l:List Ce)(o:Nat),(je l o r).length=l.length
 |[],_,_=>rfl
 |c::r,l,o=>by simp only[je];rw[kU r];simp
def wt:∀(r l:List Ce)(o i:Nat),(je l o r)[i]? =if o<=i/\i<o+r.length/\i<l.length then r[i -o]? else l[i]?
 |[],l,o,i=>by simp[je];intro h;omega
 |c::r,l,o,i=>by
  simp only[je];rw[wt r,jG];simp only[dZ,aZ];by_cases b:o=i
  .subst b;by_cases a:o<l.length
   .simp[a];try omega
   .simp[a];try omega
  .by_cases a:o<=i/\i<o+(r.length+1)/\i<l.length
   .rw[an a,an V,show i -o=(i -(o+1))+1 by omega,ij]
   .rw[ae a,ae V];simp[b]
def cD.ah{m:E}{b e:Nat}:∀{r l:List Ce}{m:E}{o:Nat},cD m b e l->cD (ah m b o r) b e (je l o r)
 |[],_,_,_,h=>h
 |c::r,l,m,o,h=>by
  simp only[Vc.ah,je];exact cD.ah (m:=m) (h.rE o c)
def vo(t:Nat):List Nat->Bool
 |[]=>false
 |u::r=>Nat.beq u t||vo t r
def Ia{t:Nat}:∀{M:List Nat},vo t M=true->t∈M
 |[],h=>by simp[vo]at h
 |u::r,h=>by
  simp only[vo,bR]at h;rcases h with h|h
  .rw[bq h];exact bg
  .exact ai _ (Ia h)
def ME(n:Nat):Fr->List Nat->List Nat
 |[],_=>[]
 |(q,x)::r,a=>bif Nat.ble n q&&!vo q a then
  match x with
  | .box b _ _=>b::ME n r (q::a)
  | .zQ b _ _=>b::ME n r (q::a)
  |_=>ME n r (q::a)
  else ME n r a
def eF(l:List Nat)(m m':E):Prop:=∀b∈l,m'[b]? =m[b]?
def Aw(l:List Nat)(m m':E)(k:Prop):Prop:=
 match l with
 |[]=>k
 |_=>eF l m m'/\k
def mz{l:List Nat}{k:Prop}(h:Aw l m m' k):eF l m m'/\k:=by
 unfold Aw at h;split at h
 .exact⟨(λb a=>by cases a),h⟩
 .exact h
def Hr{n:Nat}{q b e:Nat}{l:List Ce}(c:n<=q):∀{j:Fr}{a:List Nat},q∉a->lO j q b e l->b∈ME n j a
 |[],a,_,h=>by rcases h with h|h<;>simp[il]at h
 |(u,x)::r,a,g,h=>by
  simp only[ME];cases f:Nat.beq u q
  .have k:u≠q:=λe=>by subst e;simp at f
   have d:lO r q b e l:=by
    unfold lO at h⊢;simpa only[il,f,mL]using h
   have i:q∉u::a:=by
    simp only[aV,vK];exact⟨λe=>k e.symm,g⟩
   cases(Nat.ble n u&&!vo u a)
   .exact Hr c g d
   .simp only[jJ];split
    .exact ai _ (Hr c i d)
    .exact ai _ (Hr c i d)
    .exact Hr c i d
  .have:=bq f;subst this;have i:vo u a=false:=by
    cases k:vo u a
    .rfl
    .exact absurd (Ia k) g
   have d:Nat.ble n u=true:=XN c;simp only[i,d,Mz,Bool.and_self,jJ];unfold lO at h;simp only[il,f,jJ]at h;rcases h with h|h<;>rw[h]<;>exact bg
def Bx.fW{c:Fr}(h:Bx n c m){x:SV}(i:∀b e l,x≠.box b e l/\x≠.zQ b e l):Bx n ((q,x)::c) m:=by
 have d:∀{u b e l},lO ((q,x)::c) u b e l->lO c u b e l:=by
  intro u b e l a;unfold lO at a⊢;simp only[il]at a;cases g:Nat.beq q u
  .rw[g]at a;exact a
  .rw[g]at a;rcases a with a|a
   .exact absurd a (i b e l).1
   .exact absurd a (i b e l).2
 exact⟨λq b e l f=>h.D q b e l (d f),λq t b e l j k s r o p=>h.OF q t b e l j k s r (d o) (d p),λq b e l f=>h.key q b e l (d f)⟩
def SV.Yz(x:SV)(b e:Nat)(l:List Ce):x.nb≠.box b e l/\x.nb≠.zQ b e l:=by
 cases x<;>exact⟨by simp[SV.nb],by simp[SV.nb]⟩
def Bx.put{a:Fr}(h:Bx n a m)(d:Option Nat)(x:SV):Bx n (uh a d x) m:=by
 cases d with
 |none=>exact h
 |some d=>exact h.fW (SV.Yz x)
def Bx.dq{a:Fr}(h:Bx n a m)(d:eF (ME n a []) m m'):Bx n a m':=
 ⟨λq b e l c=>by rw[d b (Hr (h.key q b e l c) aL c)];exact h.D q b e l c,h.OF,h.key⟩
def Bx.push{a:Fr}(h:Bx n a m)(o:Obj):Bx n a (m.push o):=
 ⟨λq b e l d=>by
  have c:=h.D q b e l d;have f:=(Array.getElem?_eq_some_iff.1 c).1;rw[mP,ae V];exact c,h.OF,h.key⟩
def Bx.new{d:Fr}(h:Bx n d m)(x:n<=q)(t:Nat)(l:List Ce):Bx n ((q,.box m.size t l)::d) (m.push (.cells (bt l) t)):=by
 have w:=h.push (.cells (bt l) t);have p:∀{u b e l},lO d u b e l->b<m.size:=λa=>(Array.getElem?_eq_some_iff.1 (h.D _ _ _ _ a)).1;have g:∀{u b e c},lO ((q,.box m.size t l)::d) u b e c->(u=q/\b=m.size/\e=t/\c=l)\/(u≠q/\lO d u b e c):=by
  intro u b e c a;unfold lO at a⊢;simp only[il]at a;cases f:Nat.beq q u
  .rw[f]at a;exact Or.inr ⟨λe=>by subst e;simp at f,a⟩
  .rw[f]at a;have:=bq f;subst this;rcases a with a|a
   .simp at a;exact Or.inl ⟨rfl,a.1.symm,a.2.1.symm,a.2.2.symm⟩
   .simp at a
 refine⟨λu b e c a=>?_,λu B b e z r s A o v k=>?_,λu b e c a=>?_⟩
 .rcases g a with⟨rfl,rfl,rfl,rfl⟩|⟨_,a⟩
  .simp[bt]
  .exact w.D u b e c a
 .rcases g v with⟨rfl,rfl,rfl,rfl⟩|⟨f,j⟩
  .rcases g k with⟨rfl,rfl,rfl,rfl⟩|⟨y,i⟩
   .exact absurd rfl o
   .have:=p i;omega
  .rcases g k with⟨rfl,rfl,rfl,rfl⟩|⟨y,i⟩
   .have:=p j;omega
   .exact h.OF u B b e z r s A o j i
 .rcases g a with⟨rfl,rfl,rfl,rfl⟩|⟨_,a⟩
  .exact x
  .exact h.key u b e c a
def Bx.oA{j:Fr}(h:Bx n j m){f:List Ce}(E:il j q=.box b e f)(o:Nat)(l:List Ce):Bx n ((q,.box b e (je f o l))::j) (ah m b o l):=by
 have k:lO j q b e f:=Or.inl E;have D:cD m b e f:=h.D q b e f k;have p:∀{u c d g},lO ((q,.box b e (je f o l))::j) u c d g->(u=q/\c=b/\d=e/\g=je f o l)\/(u≠q/\lO j u c d g):=by
  intro u c d g a;unfold lO at a⊢;simp only[il]at a;cases i:Nat.beq q u
  .rw[i]at a;exact Or.inr ⟨λe=>by subst e;simp at i,a⟩
  .rw[i]at a;have:=bq i;subst this;rcases a with a|a
   .simp at a;exact Or.inl ⟨rfl,a.1.symm,a.2.1.symm,a.2.2.symm⟩
   .simp at a
 refine⟨λu c d g a=>?_,λu s b1 t A b2 v B y C x=>?_,λu c d g a=>?_⟩
 .rcases p a with⟨rfl,rfl,rfl,rfl⟩|⟨i,a⟩
  .exact cD.ah (m:=m) D
  .rw[bd l m b o (h.OF u q c d g b e f i a k)];exact h.D u c d g a
 .rcases p C with⟨rfl,rfl,rfl,rfl⟩|⟨i,w⟩
  .rcases p x with⟨rfl,rfl,rfl,rfl⟩|⟨z,r⟩
   .exact absurd rfl y
   .exactλe=>h.OF s u b2 v B _ _ _ z r k e.symm
  .rcases p x with⟨rfl,rfl,rfl,rfl⟩|⟨z,r⟩
   .exact h.OF u s b1 t A _ _ _ i w k
   .exact h.OF u s b1 t A b2 v B y w r
 .rcases p a with⟨rfl,rfl,rfl,rfl⟩|⟨_,a⟩
  .exact h.key u c d f k
  .exact h.key u c d g a
def FQ(a:Fr):List Ce->Option Fr
 |[]=>some a
 | .bp q _ _::r=>match il a q with
  | .zQ _ _ _=>none
  |_=>FQ ((q,.fW)::a) r
 |_::r=>FQ a r
def AV.UX:AV->List Ce
 | .c x=>[x]
 | .agg l=>l
def SV.UX:SV->List Ce
 | .c x=>[x]
 | .agg l=>l
 | .Xq l=>l.flatMap AV.UX
 |_=>[]
def TQ(a:Fr)(l:List SV):Option Fr:=FQ a (l.flatMap SV.UX)
def qD{n:Nat}{f:Act}{m:E}:∀{l:List Ce}{a c:Fr},FQ a l=some c->j9 n a f->Bx n a m->j9 n c f/\Bx n c m
 |[],a,c,h,e,d=>by simp[FQ]at h;subst h;exact⟨e,d⟩
 |g::r,a,c,h,e,d=>by
  cases g with
  |bp q b o=>
   simp only[FQ]at h;split at h
   .simp at h
   .exact qD h (e.fW q) (d.fW aL)
  |_=>exact qD (l:=r) (by simpa[FQ]using h) e d
end Go.Vc
end
section
namespace Go.Vc
variable{P:Program}{T:TT}
def OV(m:E)(k:E->Prop):Prop:=k m
def jO(m:E)(f:Nat)(b:List Ce)(e:Nat)(s x:O)(k:O->E->Prop):Prop:=
 ∃a:List Ce,a.length=x.len*b.length/\fR m x.D x.off a/\
  (s.len+x.len<=s.cap->fL m s.D (s.off+s.len*b.length) a.length/\
   k (match s with| .nil=>.nil| .mk d o l c=>.mk d o (l+x.len) c| .zW d o g=>.zW d o g) (ah m s.D (s.off+s.len*b.length) a))/\
  (s.cap<s.len+x.len->(s.len+x.len)*e<=140737488355328/\∃old:List Ce,old.length=s.len*b.length/\fR m s.D s.off old/\
   ∀c,s.len+x.len<=c->k (.mk m.size 0 (s.len+x.len) c) (m.push (.cells (bt (old++a++mK b (c -(s.len+x.len)))) f)))
def W7(m:E)(c:Nat)(s x:O)(k:SV->E->Prop):Prop:=
 ∃a:List Ce,a.length=Nat.min x.len s.len*c/\fR m x.D x.off a/\fL m s.D s.off a.length/\
  OV (ah m s.D s.off a) λb=>k (.c (.i (Nat.min x.len s.len:Nat))) b
def UB:List Sh->(List Ce->Prop)->Prop
 |[],k=>k []
 |s::r,k=>∃x:s.ty,UB r λl=>k (s.mk x::l)
def Sx(T:TT):List Nat->(List AV->Prop)->Prop
 |[],k=>k []
 |t::r,k=>match fK T t with
  |some ⟨.struct _,b,_⟩=>UB b λl=>Sx T r λa=>k (.agg l::a)
  |some ⟨.cell,[s],_⟩=>∃x:s.ty,Sx T r λa=>k (.c (s.mk x)::a)
  |some ⟨.slice _,[_],_⟩=>∃x:O,Sx T r λa=>k (.c (.s x)::a)
  |_=>False
def Qd(T:TT)(t:Nat)(v:Value)(k:SV->Prop):Prop:=
 match fK T t with
 |some ⟨.tuple [],_,_⟩=>k .fW
 |some ⟨.tuple a,_,_⟩=>Sx T a λl=>v=.tuple (l.map AV.v).toArray/\k (.Xq l)
 |some ⟨.struct _,a,_⟩=>UB a λl=>v=.agg (l.map Ce.v).toArray/\k (.agg l)
 |some ⟨.cell,[s],_⟩=>∃x:s.ty,v=(s.mk x).v/\k (.c (s.mk x))
 |some ⟨.slice _,[_],_⟩=>∃x:O,v=x.v/\k (.c (.s x))
 |_=>False
def Tz(P:Program)(T:TT)(G:List Nat)(n:Nat)(a:Fr)(m:E)(e:Nat)(h:Operand)(b:List Operand)(k:Fr->SV->E->Prop):Prop:=
 match TQ a (b.map (ev a))with
 |none=>False
 |some d=>match ev a h with
  | .c (.fn (.func g) first f)=>bif G.elem g&&b.all (λx=>(ev a x).jL)then
   aN P g (first.toList++(b.map λx=>(ev a x).v)++f.toList) m λv c=>Aw (ME n d []) m c (Qd T e v λx=>k d x c)
   else False
  | .c (.fv q)=>bif b.all (λx=>(ev a x).jL)then
   ∃g,q.1=.func g/\G.elem g=true/\aN P g (q.2.1.toList++(b.map λx=>(ev a x).v)++q.2.2.toList) m λv c=>Aw (ME n d []) m c (Qd T e v λx=>k d x c)
   else False
  |_=>False
def DH(m:E)(b:Nat)(l:List (Int×Int)):Prop:=
 ∃a c,m[b]? =some (.map a c)/\a.toList.map (λe=>(e.key,e.val))=l.map λp=>(Value.int .i64 p.1,Value.int .i64 p.2)
def vr(l:List (Int×Int))(k:Int):Int:=
 match l with
 |[]=>0
 |(j,v)::r=>if k=j then v else vr r k
def JU(l:List (Int×Int))(k v:Int):List (Int×Int):=
 match l with
 |[]=>[(k,v)]
 |(j,u)::r=>if k=j then(j,v)::r else(j,u)::JU r k v
def xp(T:TT)(d:Fr)(b:Nat):List Ce->List (Nat×Operand)->(List Ce->Prop)->Prop
 |a,[],k=>k a
 |a,(i,x)::r,k=>
  match(ev d x).cells with
  |some c=>bif Nat.beq c.length b&&Nat.ble (i*b+c.length) a.length then xp T d b (mh a (i*b) c) r k else False
  |none=>False
def SG(n:Nat)(b:Fr)(d:Option Nat)(m:E)(t:Nat)(l:List Ce)(k:Fr->SV->E->Prop):Prop:=
 match d with
 |some a=>match il b (n+a)with
  | .zQ _ _ _=>False
  |_=>OV (m.push (.cells (bt l) t)) λc=>k ((n+a,.box m.size t l)::b) (.c (.bp (n+a) m.size 0)) c
 |none=>OV (m.push (.cells (bt l) t)) λc=>k b (.c (.p m.size 0)) c
def Pf(n:Nat)(c:Fr)(m:E)(x:SV)(l:List Ce)(k:Fr->SV->E->Prop):Prop:=
 match x with
 | .c (.p b o)=>fL m b o l.length/\OV (ah m b o l) λa=>Aw (ME n c []) m a (k c .un a)
 | .c (.bp q b o)=>match il c q with
  | .box d f e=>bif Nat.ble (o+l.length) e.length then ML d b (OV (ah m b o l) λa=>k ((q,.box d f (je e o l))::c) .un a)else False
  | .zQ _ _ _=>False
  |_=>fL m b o l.length/\OV (ah m b o l) λa=>Aw (ME n c []) m a (k c .un a)
 |_=>False
def wr(P:Program)(T:TT)(G:List Nat)(n:Nat)(a:Fr)(m:E)(h:Option Nat)(o:Nat)(k:Fr->SV->E->Prop):Op->Prop
 | .alloc t=>match fK T t with
  |some f=>bif f.uJ then False else SG n a h m t (f.sh.map Sh.zero) k
  |none=>False
 | .box t x=>match(ev a x).cells with
  |some l=>match FQ a l with
   |some d=>SG n d h m t l k
   |none=>False
  |none=>False
 | .buildSlice t g i=>match fK T t with
  |some ⟨.slice e,_,_⟩=>match fK T e with
   |some c=>bif c.uJ||!(Nat.ble (g*c.sh.length) 16777216)then False else
    xp T a c.sh.length (mK (c.sh.map Sh.zero) g) i.toList λl=>match FQ a l with
     |some d=>OV (m.push (.cells (bt l) e)) λb=>k d (.c (.s (.mk m.size 0 g g))) b
     |none=>False
   |none=>False
  |_=>False
 | .store t x y=>match(ev a y).cells,fK T t with
  |some l,some f=>bif f.uJ||!(Nat.beq l.length f.sh.length)then False else match FQ a l with
   |some d=>Pf n d m (ev a x) l k
   |none=>False
  |_,_=>False
 | .makeSlice t x y=>match fK T t,ev a x,ev a y with
  |some ⟨.slice e,_,_⟩,.c (.i l),.c (.i f)=>match fK T e with
   |some c=>bif c.uJ then False else 0<=l/\l<=f/\(c.bytes:Int)*f<=281474976710656/\f<=9223372036854775807/\
    OV (m.push (.cells (bt (mK (c.sh.map Sh.zero) f.toNat)) e)) λb=>k a (.c (.s (.mk m.size 0 l.toNat f.toNat))) b
   |none=>False
  |_,_,_=>False
 | .makeFunc g first f=>bif first.toList.all (λx=>(ev a x).jL)&&f.toList.all (λx=>(ev a x).jL)then
  match TQ a (first.toList.map (ev a)++f.toList.map (ev a))with
  |some d=>k d (.c (.fn g (first.toList.map λx=>(ev a x).v).toArray (f.toList.map λx=>(ev a x).v).toArray)) m
  |none=>False
  else False
 | .makeMap _ none=>OV (m.push (.map #[] 0)) λb=>k a (.c (.mp m.size)) b
 | .lookup t x y false=>match fK T t,ev a x,ev a y with
  |some ⟨.map f g,_,_⟩,.c (.mp d),.c (.i n)=>match fK T f,fK T g with
   |some ⟨.cell,[.I],_⟩,some ⟨.cell,[.I],_⟩=>∃l,DH m d l/\k a (.c (.i (vr l n))) m
   |_,_=>False
  |_,_,_=>False
 | .mapUpdate t x y z=>match fK T t,ev a x,ev a y,ev a z with
  |some ⟨.map f _,_,_⟩,.c (.mp d),.c (.i g),.c (.i v)=>match fK T f with
   |some ⟨.cell,[.I],_⟩=>∃l,DH m d l/\∀b,DH b d (JU l g v)->b.size=m.size->(∀j,j≠d->b[j]? =m[j]?)->Aw (ME n a []) m b (k a .un b)
   |_=>False
  |_,_,_,_=>False
 | .call ⟨.value f,d,_⟩=>Tz P T G n a m o f d.toList k
 | .call ⟨.builtin .append,d,f⟩=>match d.toList,f.toList with
  |[x,y],[t,u]=>match fK T t,fK T u,ev a x,ev a y with
   |some ⟨.slice e,_,_⟩,some ⟨.slice _,_,_⟩,.c (.s s),.c (.s z)=>match fK T e with
    |some c=>bif c.uJ||Nat.beq c.bytes 0 then False else jO m e (c.sh.map Sh.zero) c.bytes s z λr b=>Aw (ME n a []) m b (k a (.c (.s r)) b)
    |none=>False
   |_,_,_,_=>False
  |_,_=>False
 | .call ⟨.builtin .copy,d,f⟩=>match d.toList,f.toList with
  |[x,y],t::_=>match fK T t,ev a x,ev a y with
   |some ⟨.slice e,_,_⟩,.c (.s s),.c (.s z)=>match fK T e with
    |some c=>bif c.uJ then False else W7 m c.sh.length s z λx b=>Aw (ME n a []) m b (k a x b)
    |none=>False
   |_,_,_=>False
  |_,_=>False
 |_=>False
def HN(P:Program)(g:Nat):Bool:=
 match P.funcs[g]? with
 |some a=>!(a.name== "runtime.NumGoroutine")&&a.body.isSome
 |none=>false
def UH(P:Program)(G:List Nat):Prop:=G.all (HN P)=true
def Qz(a:List Ce):∀(n i:Nat),i<n*a.length->(mK a n)[i]? =a[i%a.length]?
 |0,i,h=>by simp at h
 |n+1,i,h=>by
  have c:0<a.length:=by
   rcases j8 a.length with e|e
   .rw[e]at h;simp at h
   .exact e
  have e:mK a (n+1)=a++mK a n:=by simp[mK,qT]
  rw[e,List.getElem?_append];split
  .rename_i b;rw[Nat.mod_eq_of_lt b]
  .rename_i b;rw[Qz a n (i -a.length) (by rw[gQ,Nat.one_mul]at h;omega)];congr 1;rw[Nat.mod_eq_sub_mod (by omega:i>=a.length)]
def rQ(a:List Ce)(n:Nat):(mK a n).length=n*a.length:=by
 simp[mK]
def Ji(a:List Ce)(z:Array Value)(d:z.toList=a.map Ce.v)(n:Nat):
 (Array.range (n*a.length)).map (λi=>z[i%z.size]!)=bt (mK a n):=by
 apply BU
 intro i
 have j:z.size=a.length:=by rw[<-Zt,d];simp
 by_cases b:i<n*a.length
 .have f:=Qz a n i b
  have h:0<a.length:=by
   rcases j8 a.length with e|e
   .rw[e]at b;simp at b
   .exact e
  have g:i%a.length<a.length:=Nat.mod_lt _ h
  have c:(bt (mK a n))[i]? =((mK a n)[i]?).map Ce.v:=by simp[bt]
  rw[c,f,<-cJ,<-d]
  simp[b,j,g]
 .have c:(bt (mK a n))[i]? =none:=by simp[bt,rQ];omega
  rw[c]
  simp[b]
end Go.Vc
end
section
namespace Go.Vc
variable{c:SV}{l:List Ce}{t:TypeId}
variable{d:Program}{T:TT}{G:List Nat}
def Ce.Ve(c:Ce):c.v.oneCell'=true:=by
 cases c with
 |s y=>cases y<;>rfl
 |_=>rfl
def kX:∀(l:List Ce)(w:World)(b o:Nat),(w.setCells b o (l.map Ce.v)).heap=ah w.heap b o l
 |[],_,_,_=>rfl
 |c::r,w,b,o=>by
  simp only[cK,World.setCells,ah];rw[kX r,O0]
def rh:∀(l:List Value)(w:World)(a o:Nat),pD w (w.setCells a o l)
 |[],w,_,_=>pD.az w
 |c::r,w,a,o=>by
  simp only[World.setCells];exact pD.trans (b:=w.setCell ⟨a,o,none⟩ c) ⟨rfl,rfl,rfl⟩ (rh r _ a (o+1))
def Et(l:List Ce)(b o:Nat)(w:World)(h:fL w.heap b o l.length):
 (storeCells ⟨b,o,none⟩ (l.map Ce.v)).run d w=.ok () (w.setCells b o (l.map Ce.v)):=by
 have:=run_storeCells_cells (P:=d) b o (l.map Ce.v) 0 w
  (λj a=>by have:=(h j (by simpa using a)).1;rw[zT];simpa using this)
  (λj a=>by have:=(h j (by simpa using a)).2;rw[QZ];simpa using this)
  (λv a=>by obtain⟨c,_,rfl⟩:=List.mem_map.1 a;exact c.Ve)
 simpa using this
def Qg(l:List Ce)(b o:Nat)(a:World)(h:fR a.heap b o l):(loadCells ⟨b,o,none⟩ l.length).run d a=.ok (bt l) a:=by
 have:=run_loadCells_list (P:=d) (w:=a) ⟨b,o,none⟩ (l.map Ce.v) (λj v c=>by
  rw[vR,zT];rw[cJ]at c;obtain⟨e,f,rfl⟩:=Option.map_eq_some_iff.1 c;exact h j e f)
 simpa[bt]using this
section
variable{n:Nat}{b:Fr}{a:Act}{m:E}{k:Fr->SV->E->Prop}{e:Option Tmp}{f:TypeId}{i:String}{g:Array Edge}{h:Option (Nat×Bool)}
def Fx(d:Program)(n:Nat)(a:Act)(m:E)(o:Oper)(k:Fr->SV->E->Prop):Prop:=
 ∀(w:World),w.heap=m->∀(f:Act->World->Prop)(Q:Exit->Act->World->Prop),
  (∀e c v b,k e c b.heap->j9 n e a->Bx n e b.heap->c.Is v->pD w b->f (a.put o.dst v) b)->o.wp d a w f Q
def jP{o:Oper}{e:Fr}{v:Value}{w b:World}(h:j9 n e a)(g:Bx n e b.heap)(p:c.Is v)(m:pD w b)(i:k e c b.heap)(l:(execOp a.eval o).run d w=.ok (.value v) b)
 {f:Act->World->Prop}{Q:Exit->Act->World->Prop}(j:∀e c v b,k e c b.heap->j9 n e a->Bx n e b.heap->c.Is v->pD w b->f (a.put o.dst v) b):o.wp d a w f Q:=by
 unfold Oper.wp
 rw[l]
 exact j e c v b i h g p m
def NO{i:Option Nat}{t:Nat}(g:j9 n b a)(f:Bx n b m)(h:SG n b i m t l k):
 ∃d c,j9 n d a/\Bx n d (m.push (.cells (bt l) t))/\c.Is (.pointer (some ⟨m.size,0,none⟩))/\k d c (m.push (.cells (bt l) t)):=by
 unfold SG at h
 split at h
 .split at h
  .exact h.elim
  .rename_i e _ j
   exact⟨(n+e,.box m.size t l)::b,.c (.bp (n+e) m.size 0),g.cons _ (λ_=>trivial),f.new (Nat.le_add_right _ _) t l,rfl,h⟩
 .exact⟨b,.c (.p m.size 0),g,f.push _,rfl,h⟩
def Qp(s:j9 n b a)(g:Bx n b m)(h:Pf n b m c l k):
 ∃p d o,j9 n p a/\Bx n p (ah m d o l)/\(∀v,c.Is v->v=.pointer (some ⟨d,o,none⟩))/\fL m d o l.length/\k p .un (ah m d o l):=by
 unfold Pf at h
 split at h
 .obtain⟨q,r⟩:=mz h.2
  exact⟨_,_,_,s,g.dq q,λv e=>e,h.1,r⟩
 .split at h
  .rename_i w d o _ i j f u
   cases t:Nat.ble (o+l.length) f.length
   .rw[t]at h;exact h.elim
   .rw[t]at h
    obtain⟨rfl,h⟩:=h
    have x:cD m i j f:=g.D w i j f (Or.inl u)
    exact⟨(w,.box i j (je f o l))::b,_,_,s.cons _ (λ_=>trivial),g.oA u o l,λv e=>e,x.fL (lL t),h⟩
  .exact h.elim
  .obtain⟨q,r⟩:=mz h.2
   exact⟨_,_,_,s,g.dq q,λv e=>e,h.1,r⟩
 .exact h.elim
def QQ(y:uD d T)(s:j9 n b a)(q:Bx n b m)(j:wr d T G n b m e f k (.alloc t)):Fx d n a m ⟨e,.alloc t,f,i,g,h⟩ k:=by
 intro l D L Q B
 subst D;simp only[wr]at j;split at j
 .rename_i p C;cases o:p.uJ
  .rw[o]at j;obtain⟨I,F,H,K⟩:=wq y C o;have z:I.cells=bt (p.sh.map Sh.zero):=by apply Array.toList_inj.1;simp[F,bt]
   obtain⟨J,c,u,r,E,A⟩:=NO s q j;refine jP (w:=l) (c:=c) (v:=.pointer (some ⟨l.heap.size,0,none⟩)) (b:={l with heap:=l.heap.push (.cells (bt (p.sh.map Sh.zero)) t)}) u r E ⟨rfl,rfl,rfl⟩ A ?_ B;simp[execOp,Instr.alloc,H,newVar,newRow,z]
  .rw[o]at j;exact j.elim
 .exact j.elim
def TD(p:j9 n b a)(q:Bx n b m){c:Operand}(j:wr d T G n b m e f k (.box t c)):Fx d n a m ⟨e,.box t c,f,i,g,h⟩ k:=by
 intro o F L Q E
 subst F;simp only[wr]at j;split at j
 .rename_i l D;split at j
  .rename_i K A;obtain⟨y,s⟩:=qD A p q;obtain⟨B,z⟩:=pI D;obtain⟨J,I,u,r,H,C⟩:=NO y s j;refine jP (w:=o) (c:=I) (v:=.pointer (some ⟨o.heap.size,0,none⟩)) (b:={o with heap:=o.heap.push (.cells (bt l) t)}) u r H ⟨rfl,rfl,rfl⟩ C ?_ E;simp[execOp,Instr.box,newVar,newRow,p.eq rfl B,z,bt]
  .exact j.elim
 .exact j.elim
def MI(q:j9 n b a)(y:Bx n b m){o:Fn}{first l:Array Operand}(j:wr d T G n b m e f k (.makeFunc o first l)):Fx d n a m ⟨e,.makeFunc o first l,f,i,g,h⟩ k:=by
 intro r D F Q C
 subst D;simp only[wr]at j;cases p:(first.toList.all (λc=>(ev b c).jL)&&l.toList.all (λc=>(ev b c).jL))
 .rw[p]at j;exact j.elim
 .rw[p]at j;simp only[bM]at p;obtain⟨u,x⟩:=p;have s:(first.toList.map λc=>(ev b c).v).toArray=first.map a.eval:=by
   apply Array.toList_inj.1;simp[Cc q u]
  have t:(l.toList.map λc=>(ev b c).v).toArray=l.map a.eval:=by
   apply Array.toList_inj.1;simp[Cc q x]
  simp only[jJ]at j;split at j
  .rename_i E B;obtain⟨A,z⟩:=qD B q y;refine jP (w:=r) (b:=r) A z (v:=.func o (first.map a.eval) (l.map a.eval)) ?_ (pD.az r) j ?_ C
   .show Value.func o (first.map a.eval) (l.map a.eval)=Value.func o _ _;rw[s,t]
   .simp[execOp,Instr.makeFunc]
  .exact j.elim
def JF(p:j9 n b a)(e:Nat):
 ∀(q:List (Nat×Operand))(d:List Ce)(k:List Ce->Prop),xp T b e d q k->
  ∃l,k l/\Instr.fill (λi=>some (i*e,e)) (d.map Ce.v).toArray (q.map λf=>(f.1,a.eval f.2))=some (l.map Ce.v).toArray
 |[],d,k,h=>⟨d,h,rfl⟩
 |(i,c)::z,d,k,h=>by
  simp only[xp]at h;split at h
  .rename_i f x;cases g:(Nat.beq f.length e&&Nat.ble (i*e+f.length) d.length)
   .rw[g]at h;exact h.elim
   .rw[g]at h;simp only[bM]at g;obtain⟨m,o⟩:=g;have m:=bq m;have o:=lL o;obtain⟨l,u,w⟩:=JF p e z (mh d (i*e) f) k h;refine⟨l,u,?_⟩;obtain⟨v,t⟩:=pI x;have y:a.eval c=(ev b c).v:=p.eq rfl v;simp only[cK,Instr.fill,y,t,DT,dY,m];rw[ae bF,<-w];congr 1;apply BU;intro j;have r:=NL (f.map Ce.v) 0 (i*e) (d.map Ce.v).toArray j;rw[<-aai,Zu];have s:=Ci d (i*e) f j o;rw[show((List.map Ce.v (mh d (i*e) f)).toArray)[j]? =((mh d (i*e) f)[j]?).map Ce.v by simp,s];rw[r];simp;split<;>split<;>first|rfl|(exfalso;omega)|(congr 1;omega)
  .exact h.elim
def JN(B:uD d T)(D:j9 n b a)(N:Bx n b m){j:Nat}{z:Array (Nat×Operand)}(o:wr d T G n b m e f k (.buildSlice t j z)):Fx d n a m ⟨e,.buildSlice t j z,f,i,g,h⟩ k:=by
 intro q U ad Z Q
 subst U;simp only[wr]at o;split at o
 .rename_i L sh aa S;split at o
  .rename_i p H;cases r:(p.uJ||!(Nat.ble (j*p.sh.length) 16777216))
   .rw[r]at o;simp only[br,aaj]at r;have ab:=lL r.2;have I:=(km (B.yD S)).1;obtain⟨K,W,X,ac⟩:=wq B H r.1;have F:=λq=>kD B H r.1 q;obtain⟨l,y,s⟩:=JF D _ _ _ _ o;cases C:FQ b l with
    |none=>rw[C]at y;exact y.elim
    |some u=>
    rw[C]at y;obtain⟨P,O⟩:=qD C D N;refine jP (w:=q) (c:=.c (.s (.mk q.heap.size 0 j j))) (v:=.slice (some ⟨q.heap.size,0,none⟩) j j) (b:={q with heap:=q.heap.push (.cells (bt l) L)}) P (O.push _) rfl ⟨rfl,rfl,rfl⟩ y ?_ Q;have E:(z.map λu=>(u.1,a.eval u.2)).toList=z.toList.map λu=>(u.1,a.eval u.2):=aL;have Y:K.cells.toList=(p.sh.map Sh.zero).map Ce.v:=by simp[W]
    have J:(p.sh.map Sh.zero).length=p.sh.length:=aL;have jw:=Ji (p.sh.map Sh.zero) K.cells Y j;rw[J]at jw;by_cases A:j*p.sh.length=0
    .have R:mK (p.sh.map Sh.zero) j=[]:=by
      apply List.length_eq_zero_iff.1;rw[rQ,J,A]
     rw[R]at s;simp only[execOp,Instr.buildSlice,Sem.run_bind,run_underlying I,Result.andThen_ok,F,A];simp only[E];have M:(Array.map (λc=>(default:Value)) (Array.range 0))=#[]:=aL;simp at s⊢;rw[M,s];simp[newRow,bt]
    .simp only[execOp,Instr.buildSlice,Sem.run_bind,run_underlying I,Result.andThen_ok,F,A,rS];have:¬(j*p.sh.length>2^24):=V;simp only[this,rS,X,Sem.run_bind,Sem.run_pure,Result.andThen_ok,E];rw[jw];simp only[bt]at s⊢;simp[s,newRow]
   .rw[r]at o;exact o.elim
  .exact o.elim
 .exact o.elim
def QR(C:uD d T)(q:j9 n b a)(v:Bx n b m){c y:Operand}(j:wr d T G n b m e f k (.store t c y)):Fx d n a m ⟨e,.store t c y,f,i,g,h⟩ k:=by
 intro w R Y W K
 subst R;simp only[wr]at j;split at j
 .rename_i l s I Q;cases o:(s.uJ||!(Nat.beq l.length s.sh.length))
  .rw[o]at j;simp only[mL]at j;simp only[br,aaj]at o;split at j
   .rename_i X E;obtain⟨B,z⟩:=qD E q v;obtain⟨u,p,r,A,x,S,L,F⟩:=Qp B z j;have J:=bq o.2;obtain⟨H,D⟩:=pI I;have O:=λw=>kD C Q o.1 w;unfold Oper.wp;have M:(execOp a.eval ⟨e,.store t c y,f,i,g,h⟩).run d w=.ok .skip (w.setCells p r (l.map Ce.v)):=by
     have N:=Et (d:=d) l p r w L;have U:a.eval c=.pointer (some ⟨p,r,none⟩):=S _ (q.ev c);have V:(a.eval y).cells=(l.map Ce.v).toArray:=by rw[q.eq rfl H,D]
     simp only[execOp,Instr.storeAt,U,Instr.sureAddr,storeVar,Sem.run_bind,Sem.run_pure,Result.andThen_ok,O,V,DT,dY,J];simp[N]
    rw[M];exact K u .un undef _ (by rw[kX];exact F) A (by rw[kX];exact x) rfl (rh _ _ _ _)
   .exact j.elim
  .rw[o]at j;exact j.elim
 .exact j.elim
end
end Go.Vc
end
section
namespace Go.Vc
variable{b y f:Operand}{t:TypeId}{e:Array TypeId}
variable{c:Program}{T:TT}{G:List Nat}
section
variable{n:Nat}{g:Fr}{a:Act}{m:E}{k:Fr->SV->E->Prop}{i:Option Tmp}{h:TypeId}{o:String}{j:Array Edge}{l:Option (Nat×Bool)}
def Pn{b:Int}(e: -9223372036854775808<=b)(f:b<=9223372036854775807):IntKind.i64.wrap b=b:=by
 have a:((2:Int)^IntKind.i64.bits)=18446744073709551616:=bn;have c:((2:Int)^(IntKind.i64.bits -1))=9223372036854775808:=bn;have d:IntKind.i64.signed=true:=rfl;simp only[IntKind.wrap,a,c,d,Oi,ar];split<;>omega
def aP{b:Int}(a: -9223372036854775808<=b)(c:b<=9223372036854775807):cO b=b:=Pn a c
def KW(s:uD c T)(u:j9 n g a)(F:Bx n g m)(e:wr c T G n g m i h k (.makeSlice t b y)):Fx c n a m ⟨i,.makeSlice t b y,h,o,j,l⟩ k:=by
 intro q U ah ad J
 subst U;simp only[wr]at e;split at e
 .rename_i D sh ae p d Q Y hy;split at e
  .rename_i f z;cases r:f.uJ
   .rw[r]at e;obtain⟨h0,h1,h2,h3,I⟩:=e;have S:=(km (s.yD Q)).1;obtain⟨C,hz,ab,ag⟩:=wq s z r;obtain⟨ti,H,af,R,_⟩:=Gu s z r;have P:=λq=>kD s z r q;refine jP (w:=q) (c:=.c (.s (.mk q.heap.size 0 p.toNat d.toNat))) (v:=.slice (some ⟨q.heap.size,0,none⟩) p.toNat d.toNat) (b:={q with heap:=q.heap.push (.cells (bt (mK (f.sh.map Sh.zero) d.toNat)) D)}) u (F.push _) rfl ⟨rfl,rfl,rfl⟩ I ?_ J;have ac:C.cells.toList=(f.sh.map Sh.zero).map Ce.v:=by simp[hz]
    have B:(f.sh.map Sh.zero).length=f.sh.length:=aL;have jw:=Ji (f.sh.map Sh.zero) C.cells ac d.toNat;rw[B]at jw;have Z:a.eval b=.int .i64 p:=u.eq Y rfl;have aa:a.eval y=.int .i64 d:=u.eq hy rfl;have X:IntKind.i64.wrap p=p:=Pn V V;have W:IntKind.i64.wrap d=d:=Pn V V;have K:¬d<0:=V;have L:¬((f.bytes:Int)*d>2^48):=by
     have:(2:Int)^48=281474976710656:=bn;omega
    have M:¬p<0:=V;have N:¬p>d:=V;simp only[execOp,Instr.makeSlice,Sem.run_bind,run_underlying S,Result.andThen_ok,asInt,asIntOf,Z,aa,Sem.run_pure,R,X,W,H];simp only[K,L,M,N,decide_false,Vu,js,rS];simp only[Sem.run_bind,Sem.run_pure,Result.andThen_ok,run_askRoom,P];by_cases A:d.toNat*f.sh.length=0
    .have O:mK (f.sh.map Sh.zero) d.toNat=[]:=by
      apply List.length_eq_zero_iff.1;rw[rQ,B,A]
     rw[O];have E:(Array.map (λb=>(default:Value)) (Array.range 0))=#[]:=aL;simp[A,newRow,bt];rw[E]
    .simp only[A,rS,Sem.run_bind,ab,Result.andThen_ok,Sem.run_pure];rw[jw];simp[newRow]
   .rw[r]at e;exact e.elim
  .exact e.elim
 .exact e.elim
def KZ:∀{c:List Sh}{k:List Ce->Prop},UB c k->∃l,k l
 |[],_,h=>⟨_,h⟩
 |_::_,_,⟨b,h⟩=>let⟨_,a⟩:=KZ h;⟨_,a⟩
def FR:∀{e:List Nat}{k:List AV->Prop},Sx T e k->∃l,k l
 |[],_,h=>⟨_,h⟩
 |t::e,k,h=>by
  simp only[Sx]at h;split at h
  .obtain⟨l,c⟩:=KZ h;obtain⟨d,a⟩:=FR c;exact⟨_,a⟩
  .obtain⟨b,c⟩:=h;obtain⟨d,a⟩:=FR c;exact⟨_,a⟩
  .obtain⟨b,c⟩:=h;obtain⟨d,a⟩:=FR c;exact⟨_,a⟩
  .exact h.elim
def SK{t:Nat}{v:Value}{k:SV->Prop}(h:Qd T t v k):∃b:SV,b.Is v/\k b:=by
 unfold Qd at h;split at h
 .exact⟨.fW,trivial,h⟩
 .obtain⟨l,c,a⟩:=FR h;exact⟨.Xq l,c,a⟩
 .obtain⟨l,c,a⟩:=KZ h;exact⟨.agg l,c,a⟩
 .rename_i s _ _;obtain⟨b,c,a⟩:=h;exact⟨.c (s.mk b),c,a⟩
 .obtain⟨b,c,a⟩:=h;exact⟨.c (.s b),c,a⟩
 .exact h.elim
def KV(z:UH c G)(A:j9 n g a){q:Fr}(B:j9 n q a)(y:Bx n q m){d:Array Operand}{p:Nat}{first s:Array Value}(E:a.eval f=.func (.func p) first s)
 (H:G.elem p=true)(J:d.toList.all (λb=>(ev g b).jL)=true)
 (x:aN c p (first.toList++(d.toList.map λb=>(ev g b).v)++s.toList) m λv r=>Aw (ME n q []) m r (Qd T h v λb=>k q b r)):
 Fx c n a m ⟨i,.call ⟨.value f,d,e⟩,h,o,j,l⟩ k:=by
 intro w O V R K
 subst O
 have r:HN c p=true:=List.all_eq_true.1 z p (by simpa using H)
 have C:d.map a.eval=(d.toList.map λb=>(ev g b).v).toArray:=by
  apply Array.toList_inj.1;simp[<-Cc A J]
 unfold HN at r
 split at r
 .rename_i u F
  simp only[bM,iQ]at r
  have D:u.body.isNone=false:=by cases U:u.body<;>simp_all
  have L:(execOp a.eval ⟨i,.call ⟨.value f,d,e⟩,h,o,j,l⟩).run c w=
   .ok (.enter p (first.toList++(d.toList.map λb=>(ev g b).v)++s.toList).toArray) w:=by
   simp only[execOp,resolve,E,C,Deferred.ofValue,Sem.run_bind,Sem.run_pure,Result.andThen_ok,invoke,callFunc,run_program,F,r.1,D,js,rS]
   simp
  unfold Oper.wp
  rw[L]
  show Calls c p _ w _
  refine(x w rfl).mono ?_
  rintro S Q ⟨v,rfl,M,t⟩
  obtain⟨N,t⟩:=mz t
  obtain⟨b,P,I⟩:=SK t
  exact K q b v Q I B (y.dq N) P M
 .simp at r
def Sv(v:UH c G)(q:j9 n g a)(y:Bx n g m){r:Array Operand}(d:wr c T G n g m i h k (.call ⟨.value f,r,e⟩)):Fx c n a m ⟨i,.call ⟨.value f,r,e⟩,h,o,j,l⟩ k:=by
 simp only[wr,Tz]at d;split at d
 .exact d.elim
 rename_i D z;obtain⟨w,u⟩:=qD z q y;split at d
 .rename_i s first x t
  cases p:(G.elem s&&r.toList.all (λb=>(ev g b).jL))
  .rw[p]at d;exact d.elim
  .rw[p]at d;simp only[bM]at p;exact KV v q w u (q.eq t rfl) p.1 p.2 d
 .rename_i x t;cases p:(r.toList.all (λb=>(ev g b).jL))
  .rw[p]at d;exact d.elim
  .rw[p]at d;obtain⟨s,A,B,d⟩:=d;have C:a.eval f=.func (.func s) x.2.1 x.2.2:=by
    rw[<-A];exact q.eq t rfl
   exact KV v q w u C B p d
 .exact d.elim
def sK(a:c.underlying t=some (.int .i64))(e:Bool)(b:Int)(w:World):(Instr.checkKey e 10000 t (.int .i64 b)).run c w=.ok () w:=by
 have:Instr.checkKey e 10000 t (.int .i64 b)=Instr.checkKey e (9999+1) t (.int .i64 b):=rfl;rw[this];generalize 9999=d;simp[Instr.checkKey,run_underlying a]
def zX(b:Int):∀(a:List MapEntry)(l:List (Int×Int))(i:Nat),a.map (λe=>(e.key,e.val))=l.map (λp=>(Value.int .i64 p.1,Value.int .i64 p.2))->
 (Instr.findNow (.int .i64) (.int .i64 b) a i=some none/\vr l b=0/\(∀v,JU l b v=l++[(b,v)]))\/
 ∃j u,Instr.findNow (.int .i64) (.int .i64 b) a i=some (some (i+j,.int .i64 u))/\vr l b=u/\j<a.length/\l[j]? =some (b,u)/\∀v,JU l b v=l.set j (b,v)
 |[],[],i,_=>Or.inl ⟨rfl,rfl,λv=>rfl⟩
 |[],_::_,i,h=>by simp at h
 |_::_,[],i,h=>by simp at h
 |e::a,(j,u)::l,i,h=>by
  simp only[cK,List.cons.injEq,Ol]at h;obtain⟨⟨r,s⟩,h⟩:=h;have k:Instr.sameNow (.int .i64) (.int .i64 b) e.key=some (b==j):=by rw[r];simp[Instr.sameNow]
  by_cases c:b=j
  .subst c;refine Or.inr ⟨0,u,?_,?_,aL,aL,?_⟩
   .simp[Instr.findNow,k,s]
   .simp[vr]
   .intro v;simp[JU]
  .have m:(b==j)=false:=by simpa using c
   rcases zX b a l (i+1) h with⟨d,f,g⟩|⟨q,t,d,f,g,o,p⟩
   .refine Or.inl ⟨?_,?_,?_⟩
    .simp[Instr.findNow,k,m,d]
    .simp[vr,c,f]
    .intro v;simp[JU,c,g]
   .refine Or.inr ⟨q+1,t,?_,?_,by simpa using g,by simpa using o,?_⟩
    .have n:i+1+q=i+(q+1):=V;simp[Instr.findNow,k,m,d,n]
    .simp[vr,c,f]
    .intro v;simp[JU,c,p]
def OG(f:j9 n g a)(e:Bx n g m){r:Option Operand}(d:wr c T G n g m i h k (.makeMap t r)):Fx c n a m ⟨i,.makeMap t r,h,o,j,l⟩ k:=by
 intro b q s Q p
 subst q;cases r with
 |some r=>exact d.elim
 |none=>
  refine jP (w:=b) (c:=.c (.mp b.heap.size)) (v:=.map (some b.heap.size)) (b:={b with heap:=b.heap.push (.map #[] 0)}) f (e.push _) rfl ⟨rfl,rfl,rfl⟩ d ?_ p;simp[execOp,Instr.makeMap]
def PL(s:uD c T)(r:j9 n g a)(L:Bx n g m){z:Bool}(d:wr c T G n g m i h k (.lookup t b y z)):Fx c n a m ⟨i,.lookup t b y z,h,o,j,l⟩ k:=by
 intro e W ag ad S
 subst W;cases z with
 |true=>exact d.elim
 |false=>
  simp only[wr]at d;split at d
  .rename_i kt et sh ae B f V X Y;split at d
   .rename_i b1 b2 R P;obtain⟨u,⟨C,J,O,N⟩,Q⟩:=d;have F:=(Co (s.yD V)).1;obtain⟨⟨K,hd,E⟩,_⟩:=nW (s.yD R);have M:K=.int .i64:=by
     unfold Ao at E;split at E<;>simp_all
    subst M;obtain⟨A,Z,ac,ab⟩:=wq s P rfl;have aa:A=.int .i64 0:=by
     have:A.cells.toList=[Value.int .i64 0]:=Z;have U:=ab rfl;cases A<;>first|(simp[Value.cells]at this;done)|(simp[Value.cells]at this;rw[this.1,this.2])|exact absurd rfl (U _)
    have H:a.eval b=.map (some B):=r.eq X rfl;have I:a.eval y=.int .i64 f:=r.eq Y rfl;have D:(getObj B).run c e=.ok (.map C J) e:=by simp[getObj,Sem.run,O]
    refine jP (w:=e) (c:=.c (.i (vr u f))) (v:=.int .i64 (vr u f)) (b:=e) r L rfl (pD.az e) Q ?_ S;rcases zX f C.toList u 0 N with⟨p,q,_⟩|⟨af,ah,p,q,_⟩
    .simp[execOp,Instr.lookup,run_underlying F,H,I,D,sK hd,Instr.findKey,run_underlying hd,p,ac,aa,q]
    .simp[execOp,Instr.lookup,run_underlying F,H,I,D,sK hd,Instr.findKey,run_underlying hd,p,q]
   .exact d.elim
  .exact d.elim
def KX(L:uD c T)(s:j9 n g a)(K:Bx n g m){z:Operand}(r:wr c T G n g m i h k (.mapUpdate t b y z)):Fx c n a m ⟨i,.mapUpdate t b y z,h,o,j,l⟩ k:=by
 intro w hw ai ag Q
 subst hw;simp only[wr]at r;split at r
 .rename_i kt et sh ah e d v ht hx hy hz;split at r
  .rename_i b1 ae;obtain⟨Y,⟨p,q,E,x⟩,P⟩:=r;have U:=(Co (L.yD ht)).1;obtain⟨⟨Z,hd,R⟩,_⟩:=nW (L.yD ae);have aa:Z=.int .i64:=by
    unfold Ao at R;split at R<;>simp_all
   subst aa;have V:a.eval b=.map (some e):=s.eq hx rfl;have W:a.eval y=.int .i64 d:=s.eq hy rfl;have X:a.eval z=.int .i64 v:=s.eq hz rfl;have N:(getObj e).run c w=.ok (.map p q) w:=by simp[getObj,Sem.run,E]
   have S:∀I,(setObj e I).run c w=.ok () {w with heap:=w.heap.setIfInBounds e I}:=λI=>by simp[setObj,Sem.run,E]
   have M:e<w.heap.size:=(Array.getElem?_eq_some_iff.1 E).1;unfold Oper.wp;rcases zX d p.toList Y 0 x with⟨C,h2,D⟩|⟨f,aj,C,h2,D,J,h5⟩
   .have H:(execOp a.eval ⟨i,.mapUpdate t b y z,h,o,j,l⟩).run c w=.ok .skip {w with heap:=w.heap.setIfInBounds e (.map (p.push {key:=.int .i64 d,val:=.int .i64 v,born:=q}) (q+1))}:=by
     simp[execOp,Instr.mapUpdate,run_underlying U,V,W,X,N,sK hd,Instr.findKey,run_underlying hd,C,S]
    rw[H];have u:=mz (P {w with heap:=w.heap.setIfInBounds e (.map (p.push {key:=.int .i64 d,val:=.int .i64 v,born:=q}) (q+1))}.heap ?_ aL ?_)
    .exact Q g .un undef _ u.2 s (K.dq u.1) rfl ⟨rfl,rfl,rfl⟩
    .refine⟨_,_,by simp[M];exact⟨rfl,rfl⟩,?_⟩;rw[D];simp[x]
    .intro f F;simp[jT (kG F)]
   .have ad:(p[f]?).map (·.key)=some (.int .i64 d):=by
     have:=nY (λA=>(A[f]?).map (·.1)) x;simpa[J]using this
    have af:(Instr.keyThatStays (.int .i64 d) (.int .i64 d)).run c w=.ok (.int .i64 d) w:=by
     simp[Instr.keyThatStays,Instr.sameBits]
    have H:(execOp a.eval ⟨i,.mapUpdate t b y z,h,o,j,l⟩).run c w=.ok .skip {w with heap:=w.heap.setIfInBounds e (.map (p.modify f λB=>{B with key:=.int .i64 d,val:=.int .i64 v}) q)}:=by
     simp only[execOp,Instr.mapUpdate,run_underlying U,V,W,X,N,sK hd,Instr.findKey,run_underlying hd,C,Sem.run_bind,Result.andThen_ok,Sem.run_pure,bT,ad,vI,af,S]
    rw[H];have u:=mz (P {w with heap:=w.heap.setIfInBounds e (.map (p.modify f λB=>{B with key:=.int .i64 d,val:=.int .i64 v}) q)}.heap ?_ aL ?_)
    .exact Q g .un undef _ u.2 s (K.dq u.1) rfl ⟨rfl,rfl,rfl⟩
    .refine⟨_,_,by simp[M];exact⟨rfl,rfl⟩,?_⟩;rw[h5];apply gX;intro A;have B:=nY (λ(q':List (Value×Value))=>q'[A]?) x;simp only[cJ]at B;simp only[cJ,jG,XJ,lJ]at B⊢;by_cases O:f=A
     .subst O;have ac:f<Y.length:=(List.getElem?_eq_some_iff.1 J).1;have ab:f<p.size:=by simpa using D
      simp[ac,ab]
     .simp only[O,rS];exact B
    .intro f F;simp[jT (kG F)]
  .exact r.elim
 .exact r.elim
def tF(l:List Ce)(z:O)(a f:Nat)(d:l.length=a*f)(w:World)(h:fR w.heap z.D z.off l)(e:a<=z.len):
 (Builtin.firstCells f a z.v).run c w=.ok (bt l) w:=by
 cases z with
 |nil=>
  have b:a=0:=by simp at e;omega
  have:l=[]:=List.length_eq_zero_iff.1 (by rw[d,b];simp)
  subst this
  simp[Builtin.firstCells,O.v,bt]
 |zW g i j=>
  have b:a=0:=by simp at e;omega
  have:l=[]:=List.length_eq_zero_iff.1 (by rw[d,b];simp)
  subst this
  simp[Builtin.firstCells,O.v,bt,b,loadCells,loadCellsFrom]
 |mk b o i g=>
  simp only[Builtin.firstCells,O.v,<-d]
  exact Qg l b o w h
def Po(a:List Ce)(z:Array Value)(b:z.toList=a.map Ce.v)(n:Nat):Builtin.zeroCells z n=bt (mK a n):=by
 have c:z.size=a.length:=by rw[<-Zt,b];simp
 rw[<-Ji a z b n,Builtin.zeroCells,c]
def Qv(l r:List Ce):bt (l++r)=bt l++bt r:=by simp[bt]
def PK(H:uD c T)(C:j9 n g a)(L:Bx n g m){Z:Array Operand}(q:wr c T G n g m i h k (.call ⟨.builtin .append,Z,e⟩)):Fx c n a m ⟨i,.call ⟨.builtin .append,Z,e⟩,h,o,j,l⟩ k:=by
 intro d hw aM aE N
 subst hw;simp only[wr]at q;split at q
 .rename_i b y t aD am az;split at q
  .rename_i B sh aF e2 aN aG s z ht aA hx hy;split at q
   .rename_i f ac;cases u:(f.uJ||Nat.beq f.bytes 0)
    .rw[u]at q;simp only[br]at u;obtain⟨A,Q,ar,ah,ai⟩:=q;have e1:Z=#[b,y]:=Array.toList_inj.1 (by simpa using am);have al:e=#[t,aD]:=Array.toList_inj.1 (by simpa using az);subst e1;subst al;have U:=(km (H.yD ht)).1;have W:=(km (H.yD aA)).1;obtain⟨zv,hz,ak,aK⟩:=wq H ac u.1;obtain⟨ti,hb,aJ,af,_⟩:=Gu H ac u.1;have S:=λd=>kD H ac u.1 d;have X:a.eval b=s.v:=C.eq hx rfl;have Y:a.eval y=z.v:=C.eq hy rfl;have E:(Builtin.lenOf z.v).run c d=.ok z.len d:=by cases z<;>simp[Builtin.lenOf,O.v,O.len]
     have aj:(f.sh.map Sh.zero).length=f.sh.length:=aL;rw[aj]at Q;simp only[aj]at ah ai;have M:∀r:World,r.heap=d.heap->(Builtin.firstCells f.sh.length z.len z.v).run c r=.ok (bt A) r:=λr ag=>
      tF A z z.len f.sh.length Q r (by rw[ag];exact ar) (ad _)
     have ay:=s.Xr;by_cases D:s.len+z.len<=s.cap
     .obtain⟨R,p⟩:=ah D;cases s with
      |nil=>
       simp only[O.OT,O.UW]at D R p;have J:z.len=0:=V;have:A=[]:=List.length_eq_zero_iff.1 (by rw[Q,J];simp);subst this;obtain⟨ab,p⟩:=mz p;refine jP (w:=d) (c:=.c (.s .nil)) (v:=.slice none 0 0) (b:=d) C L rfl (pD.az d) p ?_ N;have I:a.eval b=.slice none 0 0:=X;have F:=M d rfl;simp only[execOp,resolve,Sem.run_bind,Sem.run_pure,Result.andThen_ok,invoke,builtin,Builtin.append_,np,cK,fF,I,Y];rw[J]at E F;simp[run_underlying U,run_underlying W,S,E,F]
      |zW K o0 sp=>
       simp only[O.RY,O.UU]at D R p;have J:z.len=0:=V;have:A=[]:=List.length_eq_zero_iff.1 (by rw[Q,J];simp);subst this;obtain⟨ab,p⟩:=mz p;refine jP (w:=d) (c:=.c (.s (.zW K o0 sp))) (v:=.slice (some ⟨K,o0,some sp⟩) 0 0) (b:=d) C L rfl (pD.az d) p ?_ N;have I:a.eval b=.slice (some ⟨K,o0,some sp⟩) 0 0:=X;have F:=M d rfl;simp only[execOp,resolve,Sem.run_bind,Sem.run_pure,Result.andThen_ok,invoke,builtin,Builtin.append_,np,cK,fF,I,Y];rw[J]at E F;simp[run_underlying U,run_underlying W,S,E,F,bt,storeCells]
      |mk F K J aa=>
       simp only[O.gH,O.OC,O.jD,O.mZ]at D R p;obtain⟨ab,p⟩:=mz p;refine jP (w:=d) (c:=.c (.s (.mk F K (J+z.len) aa))) (v:=.slice (some ⟨F,K,none⟩) (J+z.len) aa) (b:=d.setCells F (K+J*f.sh.length) (A.map Ce.v)) C (by rw[kX];exact L.dq ab) rfl (rh _ _ _ _) (by rw[kX];exact p) ?_ N;have an:=Et (d:=c) A F (K+J*f.sh.length) d R;have I:a.eval b=.slice (some ⟨F,K,none⟩) J aa:=X;simp only[execOp,resolve,Sem.run_bind,Sem.run_pure,Result.andThen_ok,invoke,builtin,Builtin.append_,np,cK,fF,I,Y];simp[run_underlying U,run_underlying W,S,E,D,M d rfl,vR,bt,an]
     .obtain⟨ab,old,av,ax,p⟩:=ai V;have aH:=growslice_fits (need:=s.len+z.len) (old:=s.cap) (bytes:=f.bytes) V ab;have K:f.bytes≠0:=λB=>by rw[B]at u;simp at u
      have aI:¬(((s.len+z.len:Nat):Int)>IntKind.i64.max/\f.bytes=0):=λhh=>K hh.2;have aw:∀r:World,r.heap=d.heap->(Builtin.firstCells f.sh.length s.len s.v).run c r=.ok (bt old) r:=λr ag=>
       tF old s s.len f.sh.length av r (by rw[ag];exact ax) (ad _)
      let I:Question:=.appendCap (s.len+z.len) s.cap B;let nc:=I.cut (d.tape d.drawn I);let J:World:={d with drawn:=d.drawn+1};have ap:s.len+z.len<=nc:=Nat.le_add_right _ _;refine jP (w:=d) (c:=.c (.s (.mk d.heap.size 0 (s.len+z.len) nc))) (v:=.slice (some ⟨d.heap.size,0,none⟩) (s.len+z.len) nc)
       (b:={J with heap:=d.heap.push (.cells (bt (old++A++mK (f.sh.map Sh.zero) (nc -(s.len+z.len)))) B)}) C (L.push _) rfl ⟨rfl,rfl,rfl⟩ (mz (p nc ap)).2 ?_ N
      have aC:zv.cells.toList=(f.sh.map Sh.zero).map Ce.v:=by simp[hz]
      have aa:=Po (f.sh.map Sh.zero) zv.cells aC (nc -(s.len+z.len));have an:I.forced=false:=rfl;have aq:¬(Builtin.nextslicecap (s.len+z.len) s.cap*f.bytes>2^48):=by
       have:(2:Nat)^48=281474976710656:=bn;omega
      simp only[execOp,resolve,Sem.run_bind,Sem.run_pure,Result.andThen_ok,invoke,builtin,Builtin.append_,np,cK,fF,X,Y];have F:=aw J rfl;have R:=M J rfl;rw[ay]at F⊢;simp only[lK,sH,ij,Sem.run_bind,run_underlying U,run_underlying W,Result.andThen_ok,S,Sem.run_pure,E,js,rS,D,af,hb,false_or];simp only[K,and_false,rS,aq,Sem.run_bind,run_choose,an,js,Result.andThen_ok,af,run_askRoom,F,Mz,MF,R,ak,aa,newRow,run_newObj,Sem.run_pure];simp[Qv];rw[hb,ae V,ae (show¬(Question.appendCap (s.len+z.len) s.cap B).forced=true by simp[Question.forced])];have au:(Builtin.firstCells f.sh.length s.len (Value.slice s.cv s.len s.cap)).run c d.drew=.ok (bt old) d.drew:=F;have ao:(Builtin.firstCells f.sh.length z.len z.v).run c d.drew=.ok (bt A) d.drew:=R;simp only[af,Result.andThen_ok,au,ao,ak];have aB:Builtin.zeroCells zv.cells ((Question.appendCap (s.len+z.len) s.cap B).cut (d.tape d.drawn (Question.appendCap (s.len+z.len) s.cap B)) -(s.len+z.len))=bt (mK (f.sh.map Sh.zero) (nc -(s.len+z.len))):=aa;rw[aB];rfl
    .rw[u]at q;exact q.elim
   .exact q.elim
  .exact q.elim
 .exact q.elim
end
end Go.Vc
end
section
namespace Go.Vc
variable{b:Program}{T:TT}{G:List Nat}
section
variable{n:Nat}{c:Fr}{a:Act}{m:E}{k:Fr->SV->E->Prop}{d:Option Tmp}{e:TypeId}{h:String}{f:Array Edge}{g:Option (Nat×Bool)}
def Sw(M:uD b T)(t:j9 n c a)(U:Bx n c m){r:Array Operand}{K:Array TypeId}(i:wr b T G n c m d e k (.call ⟨.builtin .copy,r,K⟩)):Fx b n a m ⟨d,.call ⟨.builtin .copy,r,K⟩,e,h,f,g⟩ k:=by
 intro j hw ah ae W
 subst hw;simp only[wr]at i;split at i
 .rename_i q R ad ai V ab;split at i
  .rename_i ag sh af s z ht hx hy;split at i
   .rename_i J aa;cases u:J.uJ
    .rw[u]at i;obtain⟨o,C,X,Y,y⟩:=i;obtain⟨Z,y⟩:=mz y;have S:r=#[q,R]:=Array.toList_inj.1 (by simpa using V);subst S;have E:K[0]? =some ad:=by rw[<-XJ,ab];rfl
     have F:=(km (M.yD ht)).1;have D:=λj=>kD M aa u j;have H:a.eval q=s.v:=t.eq hx rfl;have I:a.eval R=z.v:=t.eq hy rfl;have A:(Builtin.lenOf z.v).run b j=.ok z.len j:=by cases z<;>simp[Builtin.lenOf,O.v,O.len]
     have l:(Builtin.firstCells J.sh.length (Nat.min z.len s.len) z.v).run b j=.ok (bt o) j:=
      tF o z _ J.sh.length C j X (Nat.min_le_left _ _)
     refine jP (w:=j) (c:=.c (.i (Nat.min z.len s.len:Nat))) (v:=.int .i64 (Nat.min z.len s.len:Nat)) (b:=j.setCells s.D s.off (o.map Ce.v)) t (by rw[kX];exact U.dq Z) rfl (rh _ _ _ _) (by rw[kX];exact y) ?_ W;cases s with
     |nil=>
      have B:Nat.min z.len O.nil.len=0:=aL;have:o=[]:=List.length_eq_zero_iff.1 (by rw[C,B];simp);subst this;have p:a.eval q=.slice none 0 0:=H;simp only[O.OT]at l⊢;simp only[execOp,resolve,Sem.run_bind,Sem.run_pure,Result.andThen_ok,invoke,builtin,Builtin.copy_,np,cK,fF,p,I,E];simp only[lK,sH,ij,Sem.run_bind,run_underlying F,Result.andThen_ok,A,D,l,Sem.run_pure];rfl
     |zW L N Q=>
      have B:Nat.min z.len (O.zW L N Q).len=0:=aL;have:o=[]:=List.length_eq_zero_iff.1 (by rw[C,B];simp);subst this;have p:a.eval q=.slice (some ⟨L,N,some Q⟩) 0 0:=H;simp only[O.RY]at l⊢;simp only[execOp,resolve,Sem.run_bind,Sem.run_pure,Result.andThen_ok,invoke,builtin,Builtin.copy_,np,cK,fF,p,I,E];simp only[lK,sH,ij,Sem.run_bind,run_underlying F,Result.andThen_ok,A,D,l,Sem.run_pure,bt];rfl
     |mk B L ac N=>
      have Q:=Et (d:=b) o B L j Y;have p:a.eval q=.slice (some ⟨B,L,none⟩) ac N:=H;simp only[O.gH]at l⊢;simp only[execOp,resolve,Sem.run_bind,Sem.run_pure,Result.andThen_ok,invoke,builtin,Builtin.copy_,np,cK,fF,p,I,E];simp only[lK,sH,ij,Sem.run_bind,run_underlying F,Result.andThen_ok,A,D,l,Sem.run_pure,bt,Q];rfl
    .rw[u]at i;exact i.elim
   .exact i.elim
  .exact i.elim
 .exact i.elim
def Qx(o:uD b T)(u:UH b G)(l:j9 n c a)(j:Bx n c m)(p:Oper)(i:wr b T G n c m p.dst p.type k p.op):Fx b n a m p k:=by
 obtain⟨d,v,e,h,f,g⟩:=p;cases v with
 |alloc t=>exact QQ o l j i
 |box t x=>exact TD l j i
 |buildSlice t q r=>exact JN o l j i
 |store t x y=>exact QR o l j i
 |makeSlice t x y=>exact KW o l j i
 |makeFunc r first q=>exact MI l j i
 |makeMap t w=>exact OG l j i
 |lookup t x y q=>exact PL o l j i
 |mapUpdate t x y z=>exact KX o l j i
 |call r=>
  obtain⟨s,t,x⟩:=r;cases s with
  |builtin q=>
   cases q with
   |append=>exact PK o l j i
   |copy=>exact Sw o l j i
   |_=>exact i.elim
  |value q=>exact Sv u l j i
  |invoke w q=>exact i.elim
 |_=>exact i.elim
end
end Go.Vc
end
section
namespace Go.Vc
variable{b:Array Bool}{j:Nat}{L:List (Nat×(World->Prop))}{a:Act}{w:World}
section
variable{P:Program}{c:Array Oper}{Q:Exit->Act->World->Prop}{d:Region.Mode}{e:Nat->Nat->Bool}
def vF(P:Program)(d:Region.Mode)(c:Array Oper)(Q:Exit->Act->World->Prop)(e:Nat->Nat->Bool)(L:List (Nat×(World->Prop))):Nat->Array Bool->Act->World->Prop
 |0,b,a,w=>Region.ready d c b=[]/\Q .normal a w
 |h+1,b,a,w=>
  (Region.ready d c b=[]->Q .normal a w)/\
  ∀i∈Region.ready d c b,wpOp P c Q i (λg f=>(∀x∈L,e i x.1=false->x.2 w->x.2 f)/\vF P d c Q e L h (b.setIfInBounds i true) g f) a w
def Mx{L:List (Nat×(World->Prop))}:∀(f:Nat)(b:Array Bool)(a:Act)(w:World),vF P d c Q e L f b a w->wpAny P d c Q f b a w
 |0,_,_,_,h=>h
 |f+1,_,_,_,h=>⟨h.1,λk j=>wpOp_mono (λg l i=>Mx f _ g l i.2) (h.2 k j)⟩
def DS{L g:List (Nat×(World->Prop))}(j:∀x∈g,x∈L):∀(f:Nat)(b:Array Bool)(a:Act)(w:World),vF P d c Q e L f b a w->vF P d c Q e g f b a w
 |0,_,_,_,h=>h
 |f+1,_,_,_,h=>⟨h.1,λn l=>wpOp_mono (λk o i=>⟨λx m=>i.1 x (j x m),DS j f _ k o i.2⟩) (h.2 n l)⟩
def Hy(e:Nat->Nat->Bool)(b:Array Bool):Prop:=∀i,b.getD i false=true->∀r,e i r=true->b.getD r false=true
def UE(d:Region.Mode)(c:Array Oper)(e:Nat->Nat->Bool):Prop:=
 ∀(i r:Nat)(o:Oper),c[i]? =some o->e i r=true->∃a∈o.after,Region.binds d a=true/\(a.on=r\/e a.on r=true)
def xt(k:UE d c e)(l:Hy e b)(n:j∈Region.ready d c b){r:Nat}(p:e j r=true):b.getD r false=true:=by
 obtain⟨_,q,o,g⟩:=mem_ready.1 n;obtain⟨f,m,i,h⟩:=k j r q o p;have a:=g f m i;rcases h with rfl|h
 .exact a
 .exact l _ a r h
def Hy.set(k:UE d c e)(a:Hy e b)(l:j∈Region.ready d c b):Hy e (b.setIfInBounds j true):=by
 intro i f r h;by_cases g:j=i
 .subst g;exact getD_set_true (xt k a l h)
 .rw[getD_set_ne false g]at f;exact getD_set_true (a i f r h)
def Hu{i:Nat}{l:Oper}{F:Value}{S:World->Prop}(I:UE d c e)(C:c[i]? =some l)(O:∀(j:Nat)(R:Oper) q p,c[j]? =some R->R.op≠.select q p)
 (V:∀f a w,Q (.panic f) (a.put l.dst F) w->Q (.panic f) a w):
 ∀(r:Nat)(b:Array Bool)(a:Act)(w:World),Hy e b->
  (∀j m,c[j]? =some m->j≠i->b.getD j true=false->(∀f∈m.after,Region.binds d f=true->f.on≠i)->l.apart c m=true)->
  i∈Region.ready d c b->YieldsIf P c S l F a->S w->
  vF P d c Q e ((i,S)::L) r (b.setIfInBounds i true) (a.put l.dst F) w->vF P d c Q e L (r+1) b a w:=by
 intro r
 induction r with
 |zero=>
  intro b a w _ _ k y x H
  refine⟨λh=>(by rw[h]at k;cases k),λj n=>?_⟩
  by_cases g:j=i
  .subst g;exact y.wpOp C x ⟨λz _ _ h=>h,H⟩
  .have:=ready_mono n g
   rw[H.1]at this
   cases this
 |succ r ih=>
  intro b a w J K k y x H
  refine⟨λh=>(by rw[h]at k;cases k),λj n=>?_⟩
  by_cases g:j=i
  .subst g;exact y.wpOp C x ⟨λz _ _ h=>h,DS (λz E=>ai _ E) _ _ _ _ H⟩
  .have u:=H.2 j (ready_mono n g)
   obtain⟨N,m,D,W⟩:=mem_ready.1 n
   have s:b.getD i false=false:=by
    have G:=(mem_ready.1 k).1;rcases aW i b.size with A|A
    .simp[A]at G⊢;exact G
    .simp[Jj A]
   have ad:∀f∈m.after,Region.binds d f=true->f.on≠i:=λf Y B Z=>by
    have u:=W f Y B;rw[Z,s]at u;cases u
   have X:e j i=false:=by
    cases B:e j i
    .rfl
    .have:=xt I J n B;rw[s]at this;cases this
   have U:=wpOp_putIf D (K j m D g N ad) (λq p=>O i l q p C) (λq p=>O j m q p D) V y u
   have aa:∀o t,c[o]? =some t->o≠i->(b.setIfInBounds j true).getD o true=false->
    (∀f∈t.after,Region.binds d f=true->f.on≠i)->l.apart c t=true:=λo t hk ab s ac=>by
    refine K o t hk ab ?_ ac
    by_cases M:j=o
    .subst M;exact N
    .rw[getD_set_ne true M]at s;exact s
   refine wpOp_mono (λT w' v=>⟨λz E=>v.2.1 z (ai _ E),
    ih (b.setIfInBounds j true) T w' (J.set I n) aa (ready_mono k (kG g)) v.1 (v.2.1 (i,S) bg X x) ?_⟩) U
   rw[Array.setIfInBounds_comm _ _ g]
   exact v.2.2
def Rp{f:Nat}(k:Region.ready d c b≠[])
 (j:∀i∈Region.ready d c b,wpOp P c Q i (λh g=>(∀x∈L,e i x.1=false->x.2 w->x.2 g)/\vF P d c Q e L f (b.setIfInBounds i true) h g) a w):
 vF P d c Q e L (f+1) b a w:=⟨λg=>absurd g k,j⟩
def Qw(f:Region.ready d c b=[])(h:Q .normal a w):
 ∀g,vF P d c Q e L g b a w
 |0=>⟨f,h⟩
 |_+1=>⟨λ_=>h,by rw[f];simp⟩
end
end Go.Vc
end
section
namespace Go.Vc
variable{o:Oper}{a:Act}{m:E}
variable{b:Program}{T:TT}{G:List Nat}{n:Nat}
def Lm:Op->Bool
 | .alloc _| .box ..| .buildSlice ..| .store ..| .makeSlice ..| .makeMap ..| .lookup ..| .mapUpdate ..| .makeFunc ..=>true
 | .call ⟨.builtin .append,_,_⟩| .call ⟨.builtin .copy,_,_⟩=>true
 | .call ⟨.builtin _,_,_⟩=>false
 | .call _=>true
 |_=>false
def sB(n:Nat):Option Nat->Bool
 |none=>true
 |some d=>Nat.blt d n
def Lg(a:List Oper)(j:Nat):Option Nat:=
 match Ie a j with
 |some o=>o.dst
 |none=>none
def gd(e:List Oper)(a:Fr)(g:Option (Nat×Bool))(Pt b:Fr->Prop):Prop:=
 match g with
 |none=>Pt a
 |some (j,c)=>match Lg e j with
  |none=>False
  |some d=>match il a d with
   | .tt=>bif c then Pt a else b a
   | .ff=>bif c then b a else Pt a
   | .un=>b a
   | .c (.t x)=>(x=true->bif c then Pt ((d,.tt)::a)else b ((d,.tt)::a))/\(x=false->bif c then b ((d,.ff)::a)else Pt ((d,.ff)::a))
   |_=>False
def sG(b:Program)(T:TT)(G:List Nat)(n:Nat)(c:List Oper):List Oper->Fr->E->(Fr->E->Prop)->Prop
 |[],a,m,k=>k a m
 |o::jQ,a,m,k=>
  bif sB n o.dst then
   gd c a o.guard
    (λa=>bif Lm o.op then wr b T G n a m o.dst o.type (λd x e=>sG b T G n c jQ (uh d o.dst x) e k) o.op
     else rd T a m (λx=>sG b T G n c jQ (uh a o.dst x) m k) o.op)
    (λa=>sG b T G n c jQ (uh a o.dst .un) m k)
  else False
def zV:List Oper->List Nat
 |[]=>[]
 |o::r=>match o.dst with
  |some d=>d::zV r
  |none=>zV r
def mG(M:List Nat)(a b:Act):Prop:=∀t,t∉M->b.tmps.getD t undef=a.tmps.getD t undef
def mG.az(M:List Nat)(a:Act):mG M a a:=λ_ _=>rfl
def mG.trans{M:List Nat}{a b c:Act}(h:mG M a b)(k:mG M b c):mG M a c:=λt d=>(k t d).trans (h t d)
def mG.put{M:List Nat}{d:Option Nat}(hd:∀t,d=some t->t∈M)(v:Value)(a:Act):mG M a (a.put d v):=by
 cases d with
 |none=>exact mG.az M a
 |some d=>
  intro t c;have b:d≠t:=λe=>c (e▸hd d rfl);simp[Act.put,jT b]
def Lt{d:Nat}(hd:o.dst=some d):∀(a:List Oper),o∈a->d∈zV a:=by
 intro a;induction a with
 |nil=>intro h;cases h
 |cons x r c=>
  intro h;rcases List.mem_cons.1 h with b|b
  .subst b;simp only[zV,hd];exact bg
  .have:=c b;unfold zV;cases x.dst with
   |none=>exact this
   |some e=>exact ai _ this
def D0{d:Option Nat}(h:sB n d=true):∀t,d=some t->t<n:=by
 rintro t rfl;have:Nat.blt t n=true:=h;simpa[Nat.blt,Nat.succ_le_iff]using this
def Jh(k:Array Oper){d:Fr}(f:j9 n d a)(e:Bx n d m)(o:Oper){Pt z:Fr->Prop}(h:gd k.toList d o.guard Pt z):
 (Region.wanted o (yielded k a.tmps)=true/\∃b,Pt b/\j9 n b a/\Bx n b m)\/
 (Region.wanted o (yielded k a.tmps)=false/\∃b,z b/\j9 n b a/\Bx n b m):=by
 unfold gd at h
 cases b:o.guard with
 |none=>
  rw[b]at h
  exact Or.inl ⟨by simp[Region.wanted,b],d,h,f,e⟩
 |some C=>
  obtain⟨r,v⟩:=C
  rw[b]at h
  simp only at h
  split at h
  .exact h.elim
  .rename_i g hd
   have y:(k[r]?).bind (·.dst)=some g:=by
    unfold Lg at hd;rw[pP]at hd;have B:k.toList[r]? =k[r]? :=aL;rw[B]at hd;split at hd
    .rename_i i c;rw[c];exact hd
    .simp at hd
   have i:=f.aG g
   have w:∀j:Bool,a.tmps.getD g undef=.bool j->yielded k a.tmps r=some j:=by
    intro j l;have:a.tmps[g]? =some (.bool j):=by
     cases q:a.tmps[g]? with
     |none=>rw[zD,q]at l;simp[undef]at l
     |some t=>rw[zD,q]at l;simp at l;rw[l]
    simp[yielded,y,this]
   split at h
   .rename_i p
    rw[p]at i
    have c:=w true i
    cases v
    .exact Or.inr ⟨by simp[Region.wanted,b,c],d,h,f,e⟩
    .exact Or.inl ⟨by simp[Region.wanted,b,c],d,h,f,e⟩
   .rename_i p
    rw[p]at i
    have c:=w false i
    cases v
    .exact Or.inl ⟨by simp[Region.wanted,b,c],d,h,f,e⟩
    .exact Or.inr ⟨by simp[Region.wanted,b,c],d,h,f,e⟩
   .rename_i p
    rw[p]at i
    have c:yielded k a.tmps r=none:=by
     have s:a.tmps.getD g undef=undef:=i;rw[zD]at s;unfold yielded;rw[y];cases q:a.tmps[g]? with
     |none=>simp[q]
     |some t=>rw[q]at s;simp at s;subst s;simp[q,undef]
    exact Or.inr ⟨by simp[Region.wanted,b,c],d,h,f,e⟩
   .rename_i x p
    rw[p]at i
    have c:=w x i
    have u:∀j:Bool,x=j->j9 n ((g,if j then SV.tt else SV.ff)::d) a:=by
     rintro j rfl;refine⟨f.size,f.defers,λA=>?_⟩;simp only[il];cases l:Nat.beq g A
     .exact f.aG A
     .have:=bq l;subst this;cases x<;>exact i
    obtain⟨s,t⟩:=h
    cases x
    .have t:=t rfl
     cases v
     .exact Or.inl ⟨by simp[Region.wanted,b,c],_,t,u false rfl,e.fW aL⟩
     .exact Or.inr ⟨by simp[Region.wanted,b,c],_,t,u false rfl,e.fW aL⟩
    .have s:=s rfl
     cases v
     .exact Or.inr ⟨by simp[Region.wanted,b,c],_,s,u true rfl,e.fW aL⟩
     .exact Or.inl ⟨by simp[Region.wanted,b,c],_,s,u true rfl,e.fW aL⟩
   .exact h.elim
def YE(g:uD b T){c:Fr}(f:j9 n c a)(e:Bx n c m){k:SV->Prop}(h:rd T c m k o.op){w:World}(p:w.heap=m)
 {d:Act->World->Prop}{Q:Exit->Act->World->Prop}(j:∀x v,k x->x.Is v->d (a.put o.dst v) w):o.wp b a w d Q:=by
 obtain⟨x,v,i,q,l⟩:=LF (P:=b) g f e o h
 unfold Oper.wp
 rw[l w (λr _=>by rw[p])]
 exact j x v i q
def vd(l:uD b T)(s:UH b G)(c:Array Oper){Q:Exit->Act->World->Prop}{K:World}{H:Act}:
 ∀(jQ:List Oper)(d:Fr)(m:E)(k:Fr->E->Prop)(a:Act)(w:World),(∀o∈jQ,o∈c.toList)->sG b T G n c.toList jQ d m k->j9 n d a->Bx n d m->w.heap=m->pD K w->
  mG (zV c.toList) H a->
  (∀g e f,k g f.heap->j9 n g e->Bx n g f.heap->pD K f->mG (zV c.toList) H e->Q .normal e f)->wpList b c Q jQ a w
 |[],d,m,k,a,w,_,h,y,v,e,r,p,q=>by
  subst e;exact q d a w h y v r p
 |o::jQ,d,m,k,a,w,I,h,y,v,e,r,p,q=>by
  simp only[sG]at h;cases hd:sB n o.dst
  .rw[hd]at h;exact h.elim
  .rw[hd]at h;simp only[jJ]at h;have z:=D0 hd;have A:∀u,o.dst=some u->u∈zV c.toList:=λu N=>Lt N _ (I o bg);have B:=λS P=>I S (ai _ P);unfold wpList;rcases Jh c y v o h with⟨D,g,t,j,i⟩|⟨D,g,O,j,i⟩
   .rw[an D];refine .inl ?_;cases J:Lm o.op
    .simp only[J,mL]at t;refine YE l j i t e λV U F C=>?_;exact vd l s c jQ _ m k _ w B F (j.put C z) (i.put _ _) e r (p.trans (mG.put A _ _)) q
    .simp only[J,jJ]at t;refine Qx l s j i o t w e _ _ λW V U f F M L C R=>?_;exact vd l s c jQ _ _ k _ f B F (M.put C z) (L.put _ _) rfl (r.trans R) (p.trans (mG.put A _ _)) q
   .rw[ae (by rw[D];simp)];exact vd l s c jQ _ m k _ w B O (j.put (x:=.un) rfl z) (i.put _ _) e r (p.trans (mG.put A _ _)) q
end Go.Vc
end
section
namespace Go.Vc
variable{P:Program}{T:TT}{G:List Nat}{n:Nat}
def uj:List Nat->Nat->Nat
 |[],_=>0
 |x::_,0=>x
 |_::r,n+1=>uj r n
def lD:List Edge->Nat
 |[]=>0
 |e::r=>bif Region.binds .any e then 2^e.on|||lD r else lD r
def od(a:List Nat):List Edge->Nat
 |[]=>0
 |e::r=>bif Region.binds .any e then(2^e.on|||uj a e.on)|||od a r else od a r
def lj(a:List Nat):List Oper->List Nat->List Nat->Bool
 |[],[],[]=>true
 |o::d,p::e,b::c=>Nat.beq p (lD o.after.toList)&&Nat.beq b (od a o.after.toList)&&lj a d e c
 |_,_,_=>false
def R8:Op->List Operand
 | .alloc _| .ready _| .waits _=>[]
 | .move x| .assign x| .box _ x| .load _ x| .nilCheck x| .unOp _ _ x| .convert _ _ x| .sliceToArrayPointer _ x| .makeInterface _ x
 | .makeChan _ x| .fieldAddr _ x _| .field _ x _| .range _ x| .next x _| .entry x| .typeAssert x _ _ _| .extract x _| .panic x| .recv _ x _=>[x]
 | .pick c a b=>[c,a,b]
 | .build _ b| .buildSlice _ _ b=>b.toList.map (·.2)
 | .store _ a v| .binOp _ _ a v _| .makeSlice _ a v| .indexAddr _ a v| .index _ a v| .lookup _ a v _| .mapEntry _ a v| .send a v=>[a,v]
 | .makeFunc _ first a=>first.toList++a.toList
 | .makeMap _ r=>r.toList
 | .slice _ x l h m=>[x]++l.toList++h.toList++m.toList
 | .mapUpdate _ m k v| .entryStore _ m k v| .insert _ m k v=>[m,k,v]
 | .call ⟨.value f,a,_⟩| .go ⟨.value f,a,_⟩| .defer ⟨.value f,a,_⟩=>f::a.toList
 | .call ⟨.invoke f _,a,_⟩| .go ⟨.invoke f _,a,_⟩| .defer ⟨.invoke f _,a,_⟩=>f::a.toList
 | .call ⟨.builtin _,a,_⟩| .go ⟨.builtin _,a,_⟩| .defer ⟨.builtin _,a,_⟩=>a.toList
 | .select a _=>(a.flatMap λc=>#[c.chan]++c.send.toArray).toList
def Uc(a:Op):a.operands.toList=R8 a:=by
 cases a<;>try (simp[Op.operands,R8];done)
 all_goals
  rename_i c
  obtain⟨b,d,e⟩:=c
  cases b<;>simp[Op.operands,R8,Call.operands]
def JK(d:Nat):List Operand->Bool
 |[]=>false
 | .tmp t::r=>Nat.beq t d||JK d r
 |_::r=>JK d r
def OU(a:List Oper)(o:Oper)(d:Nat):Bool:=
 JK d (R8 o.op)||(match o.guard with
  |some (g,_)=>(match Lg a g with|some t=>Nat.beq t d|none=>false)
  |none=>false)
def Oz(a:List Oper)(x y:Oper):Bool:=
 (match x.dst with
  |some d=>!OU a y d&&(match y.dst with|some e=>!Nat.beq d e|none=>true)
  |none=>true)&&
 (match y.dst with
  |some d=>!OU a x d
  |none=>true)
def Xo:Op->Bool
 | .select ..=>true
 |_=>false
def zP(b:List Oper)(i:Nat)(a:Nat)(o:Oper):Nat->List Oper->List Nat->Bool
 |_,[],_=>true
 |_,_,[]=>true
 |j,x::c,p::d=>(Nat.beq j i||Nat.testBit p i||Nat.testBit a j||Oz b o x)&&zP b i a o (j+1) c d
def FE(a:List Oper)(b:List Nat):Nat->List Oper->List Nat->Bool
 |_,[],_=>true
 |_,_,[]=>true
 |i,o::e,c::d=>!Xo o.op&&(Lm o.op||zP a i c o 0 a b)&&FE a b (i+1) e d
def kO(done p i:Nat):Bool:=!(Nat.testBit done i)&&Nat.beq (p&&&done) p
def xc(done:Nat):Nat->List Oper->List Nat->Option Nat
 |_,[],_=>none
 |_,_,[]=>none
 |i,o::a,p::b=>bif kO done p i&&!(Lm o.op)then some i else xc done (i+1) a b
def pQ(done:Nat):Nat->List Oper->List Nat->List Nat
 |_,[],_=>[]
 |_,_,[]=>[]
 |i,_::a,p::b=>bif kO done p i then i::pQ done (i+1) a b else pQ done (i+1) a b
def LN(m a:E):List (Nat×Nat)->Prop->Prop
 |[],k=>k
 |(b,o)::r,k=>af a b o=af m b o/\LN m a r k
def DP(a:Nat)(m b:E):List (Nat×List (Nat×Nat))->Prop->Prop
 |[],k=>k
 |(r,c)::L,k=>bif Nat.testBit a r then DP a m b L k else LN m b c (DP a m b L k)
def Ox:List Nat->(Nat->Prop)->Prop
 |[],_=>True
 |[i],f=>f i
 |i::r,f=>f i/\Ox r f
def oR(P:Program)(T:TT)(G:List Nat)(n:Nat)(b:List Oper)(c d:List Nat):Nat->Nat->Fr->E->List (Nat×List (Nat×Nat))->(Fr->E->Prop)->Prop
 |0,done,a,m,_,k=>match pQ done 0 b c with
  |[]=>k a m
  |_=>False
 |e+1,done,a,m,L,k=>
  match xc done 0 b c with
  |some i=>match Ie b i with
   |some o=>bif sB n o.dst then
    gd b a o.guard
     (λa=>rd T a m (λx=>oR P T G n b c d e (done|||2^i) (uh a o.dst x) m ((i,SY T a o.op)::L) k) o.op)
     (λa=>oR P T G n b c d e (done|||2^i) (uh a o.dst .un) m L k)
    else False
   |none=>False
  |none=>match pQ done 0 b c with
   |[]=>k a m
   |h=>Ox h λi=>match Ie b i with
    |some o=>bif sB n o.dst then
     gd b a o.guard
      (λa=>wr P T G n a m o.dst o.type (λg x f=>DP (uj d i) m f L (oR P T G n b c d e (done|||2^i) (uh g o.dst x) f L k)) o.op)
      (λa=>oR P T G n b c d e (done|||2^i) (uh a o.dst .un) m L k)
     else False
    |none=>False
def nu(r:Nat):∀(a:List Edge),Nat.testBit (lD a) r=true<->∃e∈a,Region.binds .any e=true/\e.on=r
 |[]=>by simp[lD]
 |e::a=>by
  have c:=nu r a;simp only[lD];cases b:Region.binds .any e
  .simp only[mL,c,aV,exists_eq_or_imp,b];simp
  .simp only[jJ,Uw,bR,c,aV,exists_eq_or_imp,b,true_and,Nt,ar]
def yC(b:List Nat)(r:Nat):∀(a:List Edge),Nat.testBit (od b a) r=true->∃e∈a,Region.binds .any e=true/\(e.on=r\/Nat.testBit (uj b e.on) r=true)
 |[],h=>by simp[od]at h
 |e::a,h=>by
  have i:=yC b r a;simp only[od]at h;cases f:Region.binds .any e
  .simp only[f,mL]at h;obtain⟨c,g,d⟩:=i h;exact⟨c,ai _ g,d⟩
  .simp only[f,jJ,Uw,bR,Nt,ar]at h;rcases h with h|h
   .exact⟨e,bg,f,h⟩
   .obtain⟨c,g,d⟩:=i h;exact⟨c,ai _ g,d⟩
def lT(c:List Nat):∀{e:List Oper}{f a:List Nat},lj c e f a=true->∀(i:Nat)(o:Oper),e[i]? =some o->
 f[i]? =some (lD o.after.toList)/\uj a i=od c o.after.toList/\∃b,a[i]? =some b
 |[],[],[],_,i,o,h=>by simp at h
 |x::e,p::f,b::a,h,i,o,d=>by
  simp only[lj,bM]at h;obtain⟨⟨g,j⟩,k⟩:=h;cases i with
  |zero=>
   simp at d;subst d;exact⟨by simp[bq g],by simp[uj,bq j],b,aL⟩
  |succ i=>
   have:=lT c k i o (by simpa using d);simpa[uj]using this
 |[],[],_::_,h,_,_,_=>by simp[lj]at h
 |[],_::_,_,h,_,_,_=>by simp[lj]at h
 |_::_,[],_,h,_,_,_=>by simp[lj]at h
 |_::_,_::_,[],h,_,_,_=>by simp[lj]at h
def Jz(d:List Nat):∀{a:List Oper}{c b:List Nat},lj d a c b=true->c.length=a.length/\b.length=a.length
 |[],[],[],_=>⟨rfl,rfl⟩
 |x::a,p::c,e::b,h=>by
  simp only[lj,bM]at h;have:=Jz d h.2;simp[this.1,this.2]
 |[],[],_::_,h=>by simp[lj]at h
 |[],_::_,_,h=>by simp[lj]at h
 |_::_,[],_,h=>by simp[lj]at h
 |_::_,_::_,[],h=>by simp[lj]at h
end Go.Vc
end
section
namespace Go.Vc
variable{N a:Nat}{b:Array Bool}
variable{P:Program}{T:TT}{G:List Nat}{n:Nat}
def tW{d:Nat}:∀{a:List Operand},JK d a=false->d∉(a.filterMap λ| .tmp t=>some t|_=>none)
 |[],_=>aL
 |x::r,h=>by
  cases x with
  |tmp t=>
   simp only[JK,br]at h;have b:=tW h.2;have:t≠d:=λe=>by subst e;simp at h
   simp only[List.filterMap_cons,aV,vK];exact⟨λe=>this e.symm,b⟩
  |const v=>simpa using tW (a:=r) (by simpa[JK]using h)
  |global g=>simpa using tW (a:=r) (by simpa[JK]using h)
  |func f=>simpa using tW (a:=r) (by simpa[JK]using h)
def TV(a:Array Oper)(g:Nat):Lg a.toList g=(a[g]?).bind (·.dst):=by
 unfold Lg;rw[pP];have e:a.toList[g]? =a[g]? :=aL;rw[e];cases a[g]? <;>rfl
def Jx(b:Array Oper){o:Oper}{d:Nat}(h:OU b.toList o d=false):d∉o.looksAt b:=by
 simp only[OU,br]at h;unfold Oper.looksAt;rw[Uc,List.mem_append,vK];refine⟨tW h.1,?_⟩;have a:=h.2;cases c:o.guard with
 |none=>simp
 |some p=>
  obtain⟨g,f⟩:=p;rw[c]at a;simp only at a⊢;rw[TV]at a;cases hd:(b[g]?).bind (·.dst)with
  |none=>simp
  |some t=>
   rw[hd]at a;simp only at a;simp only[Option.toList_some,lI];intro e;subst e;simp at a
def PF(b:Array Oper){x y:Oper}(h:Oz b.toList x y=true):x.apart b y=true:=by
 simp only[Oz,bM]at h;obtain⟨a,d⟩:=h;unfold Oper.apart;simp only[bM];constructor
 .cases i:x.dst with
  |none=>rfl
  |some f=>
   rw[i]at a;simp only[bM,iQ]at a⊢;refine⟨?_,?_⟩
   .have:=Jx b a.1;simpa using this
   .have c:=a.2;cases e:y.dst with
    |none=>simp
    |some j=>
     rw[e]at c;simp only[iQ]at c;simp only[vJ,ne_eq,DU];intro g;subst g;simp at c
 .cases e:y.dst with
  |none=>rfl
  |some f=>
   rw[e]at d;simp only[iQ]at d⊢;have:=Jx b d;simpa using this
def Dx(i:List Oper)(a d:Nat)(o:Oper):∀{g:List Oper}{k:List Nat}{c:Nat},zP i a d o c g k=true->∀(j:Nat)(x:Oper)(p:Nat),g[j]? =some x->k[j]? =some p->
 c+j=a\/Nat.testBit p a=true\/Nat.testBit d (c+j)=true\/Oz i o x=true
 |[],_,_,_,j,x,p,h,_=>by simp at h
 |_::_,[],_,_,j,x,p,_,h=>by simp at h
 |y::g,q::k,c,h,j,x,p,f,e=>by
  simp only[zP,bM,bR]at h;obtain⟨b,m⟩:=h;cases j with
  |zero=>
   simp at f e;subst f;subst e;rcases b with((b|b)|b)|b
   .exact Or.inl (by simpa using bq b)
   .exact Or.inr (Or.inl b)
   .exact Or.inr (Or.inr (Or.inl (by simpa using b)))
   .exact Or.inr (Or.inr (Or.inr b))
  |succ j=>
   have:=Dx i a d o m j x p (by simpa using f) (by simpa using e);have l:c+1+j=c+(j+1):=V;rw[l]at this;exact this
def wV(d:List Oper)(j:List Nat):∀{i:List Oper}{e:List Nat}{c:Nat},FE d j c i e=true->∀(a:Nat)(o:Oper)(b:Nat),i[a]? =some o->e[a]? =some b->
 Xo o.op=false/\(Lm o.op=true\/zP d (c+a) b o 0 d j=true)
 |[],_,_,_,a,o,b,h,_=>by simp at h
 |_::_,[],_,_,a,o,b,_,h=>by simp at h
 |y::i,q::e,c,h,a,o,b,g,f=>by
  simp only[FE,bM,bR,iQ]at h;obtain⟨⟨l,m⟩,n⟩:=h;cases a with
  |zero=>simp at g f;subst g;subst f;exact⟨l,by simpa using m⟩
  |succ a=>
   have:=wV d j n a o b (by simpa using g) (by simpa using f);have k:c+1+a=c+(a+1):=V;rw[k]at this;exact this
def Jw(p d:Nat):Nat.beq (p&&&d) p=true<->∀r,Nat.testBit p r=true->Nat.testBit d r=true:=by
 constructor
 .intro h r a;have e:=bq h;rw[<-e,Nat.testBit_and]at a;simp only[bM]at a;exact a.2
 .intro h;have:p&&&d=p:=by
   apply Nat.eq_of_testBit_eq;intro r;rw[Nat.testBit_and];cases a:Nat.testBit p r
   .rfl
   .simp[h r a]
  rw[this];simp
structure Om(N done:Nat)(b:Array Bool):Prop where
 size:b.size=N
 Yb:∀a,b.getD a false=Nat.testBit done a
def Om.un{done:Nat}(h:Om N done b)(c:a<N):b.getD a true=Nat.testBit done a:=by
 rw[<-h.Yb a];have:a<b.size:=by rw[h.size];exact c
 simp[this]
def Om.set{done:Nat}(h:Om N done b)(c:a<N):Om N (done|||2^a) (b.setIfInBounds a true):=by
 refine⟨by simp[h.size],λj=>?_⟩;have d:a<b.size:=by rw[h.size];exact c
 rw[Uw,Nt];by_cases e:a=j
 .subst e;simp[d]
 .rw[getD_set_ne false e,h.Yb j];simp[e]
def Ik(d:Array Oper){q h r:List Nat}(n:lj h d.toList q r=true){done:Nat}(g:Om d.size done b)(a:Nat):
 a∈Region.ready .any d b<->∃o p,d[a]? =some o/\q[a]? =some p/\kO done p a=true:=by
 rw[mem_ready]
 constructor
 .rintro⟨m,o,c,s⟩
  have k:a<d.size:=(Array.getElem?_eq_some_iff.1 c).1
  have l:=(lT h n a o (by simpa using c)).1
  refine⟨o,_,c,l,?_⟩
  simp only[kO,bM,iQ]
  refine⟨by rw[<-g.un k];exact m,(Jw _ _).2 λt e=>?_⟩
  obtain⟨f,j,i,rfl⟩:=(nu t _).1 e
  rw[<-g.Yb]
  exact s f (Array.mem_toList_iff.1 j) i
 .rintro⟨o,p,c,l,e⟩
  have k:a<d.size:=(Array.getElem?_eq_some_iff.1 c).1
  have m:=(lT h n a o (by simpa using c)).1
  rw[l]at m
  simp only[DU]at m
  subst m
  simp only[kO,bM,iQ]at e
  refine⟨by rw[g.un k];exact e.1,o,c,λf j i=>?_⟩
  rw[g.Yb]
  exact(Jw _ _).1 e.2 f.on ((nu _ _).2 ⟨f,Array.mem_toList_iff.2 j,i,rfl⟩)
def Lu(done:Nat):∀{d:List Oper}{e:List Nat}{b a:Nat},a∈pQ done b d e<->∃j o p,a=b+j/\d[j]? =some o/\e[j]? =some p/\kO done p a=true
 |[],_,_,_=>by simp[pQ]
 |_::_,[],_,_=>by simp[pQ]
 |x::d,q::e,b,a=>by
  have h:=Lu done (d:=d) (e:=e) (b:=b+1) (a:=a);have k:(∃j o p,a=b+j/\(x::d)[j]? =some o/\(q::e)[j]? =some p/\kO done p a=true)<->
   ((a=b/\kO done q b=true)\/∃j o p,a=b+1+j/\d[j]? =some o/\e[j]? =some p/\kO done p a=true):=by
   constructor
   .rintro⟨j,o,p,rfl,g,f,c⟩
    cases j with
    |zero=>simp at f;subst f;exact Or.inl ⟨rfl,by simpa using c⟩
    |succ j=>exact Or.inr ⟨j,o,p,V,by simpa using g,by simpa using f,by rwa[show b+(j+1)=b+(j+1)from rfl]at c⟩
   .rintro(⟨rfl,c⟩|⟨j,o,p,rfl,g,f,c⟩)
    .exact⟨0,x,q,rfl,aL,aL,c⟩
    .exact⟨j+1,o,p,V,by simpa using g,by simpa using f,c⟩
  rw[k,<-h];simp only[pQ];cases c:kO done q b
  .simp
  .simp
def Jq(done:Nat):∀{d:List Oper}{e:List Nat}{c a:Nat},xc done c d e=some a->∃j o p,a=c+j/\d[j]? =some o/\e[j]? =some p/\kO done p a=true/\Lm o.op=false
 |[],_,_,_,h=>by simp[xc]at h
 |_::_,[],_,_,h=>by simp[xc]at h
 |x::d,q::e,c,a,h=>by
  simp only[xc]at h;cases b:(kO done q c&&!(Lm x.op))
  .rw[b]at h;obtain⟨j,o,p,rfl,f,g,i,k⟩:=Jq done h;exact⟨j+1,o,p,V,by simpa using f,by simpa using g,i,k⟩
  .rw[b]at h;simp at h;subst h;simp only[bM,iQ]at b;exact⟨0,x,q,rfl,aL,aL,b.1,b.2⟩
def Nz:∀{l:List Nat}{f:Nat->Prop},Ox l f->∀a∈l,f a
 |[a],f,h,j,b=>by simp at b;subst b;exact h
 |a::c::r,f,h,j,b=>by
  rcases List.mem_cons.1 b with rfl|b
  .exact h.1
  .exact Nz h.2 j b
def LO{m b:E}:∀{l:List (Nat×Nat)}{k:Prop},LN m b l k->k/\∀q∈l,af b q.1 q.2=af m q.1 q.2
 |[],k,h=>⟨h,aL⟩
 |(e,o)::r,k,h=>by
  obtain⟨c,d⟩:=LO h.2;refine⟨c,λq a=>?_⟩;rcases List.mem_cons.1 a with rfl|a
  .exact h.1
  .exact d q a
def Fp{c:Nat}{m g:E}:∀{L:List (Nat×List (Nat×Nat))}{k:Prop},DP c m g L k->k/\∀x∈L,Nat.testBit c x.1=false->∀q∈x.2,af g q.1 q.2=af m q.1 q.2
 |[],k,h=>⟨h,aL⟩
 |(r,l)::L,k,h=>by
  simp only[DP]at h;cases f:Nat.testBit c r
  .rw[f]at h;obtain⟨i,j⟩:=LO h;obtain⟨d,e⟩:=Fp i;refine⟨d,λx a b=>?_⟩;rcases List.mem_cons.1 a with rfl|a
   .exact j
   .exact e x a b
  .rw[f]at h;obtain⟨d,e⟩:=Fp h;refine⟨d,λx a b=>?_⟩;rcases List.mem_cons.1 a with rfl|a
   .rw[f]at b;cases b
   .exact e x a b
def ZE(L:List (Nat×List (Nat×Nat)))(b:List (Nat×(World->Prop))):Prop:=
 ∀x∈b,(∀w,x.2 w)\/∃(a:List (Nat×Nat))(c:Nat×Nat->Option Value),(x.1,a)∈L/\x.2=λw=>∀q∈a,af w.heap q.1 q.2=c q
end Go.Vc
end
section
namespace Go.Vc
variable{a:Program}{T:TT}{G:List Nat}{n:Nat}
def Pl(hT:uD a T)(hG:UH a G)(b:Array Oper)(U f:List Nat)(z:lj f b.toList U f=true)(ao:FE b.toList U 0 b.toList f=true)
 {ag:Exit->Act->World->Prop}(hQ:∀N g w,¬ag (.panic N) g w){w0:World}{a0:Act}:
 ∀(F done:Nat)(D:Fr)(ac:E)(L:List (Nat×List (Nat×Nat)))(B:Fr->E->Prop)(M:List (Nat×(World->Prop)))(c:Array Bool)(g:Act)(w:World),
  oR a T G n b.toList U f F done D ac L B->ZE L M->Om b.size done c->Hy (λi K=>Nat.testBit (uj f i) K) c->j9 n D g->Bx n D ac->w.heap=ac->pD w0 w->
  mG (zV b.toList) a0 g->
  (∀s d k,B s k.heap->j9 n s d->Bx n s k.heap->pD w0 k->mG (zV b.toList) a0 d->ag .normal d k)->
  vF a .any b ag (λi K=>Nat.testBit (uj f i) K) M F c g w:=by
 have H:UE .any b (λi K=>Nat.testBit (uj f i) K):=by
  intro i K o d p;have X:=(lT f z i o (by simpa using d)).2.1;simp only[X]at p;obtain⟨e,he,hb,h⟩:=yC f K _ p;exact⟨e,Array.mem_toList_iff.1 he,hb,h⟩
 have aF:=Jz f z
 have av:∀(j:Nat)(o:Oper) cs r,b[j]? =some o->o.op≠.select cs r:=by
  intro j o cs r d e;obtain⟨_,_,bj,ay⟩:=lT f z j o (by simpa using d);have:=(wV _ _ ao j o bj (by simpa using d) ay).1;rw[e]at this;simp[Xo]at this
 have al:∀{done:Nat}{c:Array Bool},Om b.size done c->∀i,i∈Region.ready .any b c<->i∈pQ done 0 b.toList U:=by
  intro done c hD i;rw[Ik b z hD i,Lu];constructor
  .rintro⟨o,R,d,O,p⟩;exact⟨i,o,R,V,by simpa using d,O,p⟩
  .rintro⟨j,o,R,e,d,O,p⟩;have:i=j:=V;subst this;exact⟨o,R,by simpa using d,O,p⟩
 have au:∀{done:Nat}{c:Array Bool},Om b.size done c->pQ done 0 b.toList U=[]->Region.ready .any b c=[]:=by
  intro done c hD h;apply List.eq_nil_iff_forall_not_mem.2;intro i m;rw[al hD i,h]at m;cases m
 intro F
 induction F with
 |zero=>
  intro done D ac L B M c g w h hL hD hC hR hB hw hs hk hq
  subst hw
  simp only[oR]at h
  split at h
  .rename_i h0
   exact⟨au hD h0,hq D g w h hR hB hs hk⟩
  .exact h.elim
 |succ F Q=>
  intro done D ac L B M c g w h hL hD hC hR hB hw hs hk hq
  subst hw
  simp only[oR]at h
  split at h
  · -- a reading is taken first
   rename_i i m
   obtain⟨j,o,R,e,d,O,p,aD⟩:=Jq done m
   have:i=j:=V
   subst this
   rw[pP,d]at h
   simp only at h
   have A:b[i]? =some o:=by simpa using d
   have aa:i<b.size:=(Array.getElem?_eq_some_iff.1 A).1
   have ab:i∈Region.ready .any b c:=(Ik b z hD i).2 ⟨o,R,A,O,p⟩
   cases hd:sB n o.dst
   .rw[hd]at h;exact h.elim
   .rw[hd]at h
    simp only[jJ]at h
    have Y:=D0 hd
    have Z:∀C,o.dst=some C->C∈zV b.toList:=λC ah=>Lt ah _ (iA d)
    have aq:∀j I,b[j]? =some I->j≠i->c.getD j true=false->(∀e∈I.after,Region.binds .any e=true->e.on≠i)->o.apart b I=true:=by
     intro j I ak aA ar aB;have az:j<b.size:=(Array.getElem?_eq_some_iff.1 ak).1;obtain⟨_,aE,bi,ap⟩:=lT f z i o d;rcases(wV _ _ ao i o bi d ap).2 with t|t
     .rw[aD]at t;cases t
     .have W:=(lT f z j I (by simpa using ak)).1;have u:uj f i=bi:=by
       have:∀(l:List Nat)(i r:Nat),l[i]? =some r->uj l i=r:=by
        intro l;induction l with
        |nil=>intro i r h;simp at h
        |cons ad l Q=>intro i r h;cases i with
         |zero=>simpa[uj]using h
         |succ i=>simpa[uj]using Q i r (by simpa using h)
       exact this f i bi ap
      rcases Dx _ _ _ _ t j I _ (by simpa using ak) W with e|e|e|e
      .exact absurd V aA
      .rw[bT]at e;obtain⟨q,y,hb,J⟩:=(nu i _).1 e;exact absurd J (aB q (Array.mem_toList_iff.1 y) hb)
      .rw[bT,<-u]at e;have:=xt H hC ab e;rw[hD.Yb]at this;rw[hD.un az,this]at ar;cases ar
      .exact PF b e
    rcases Jh b hR hB o h with⟨J,s,am,y,u⟩|⟨J,s,aj,y,u⟩
    .obtain⟨ad,aw,hx,hv,aC⟩:=LF (P:=a) hT y u o am
     let ax:World->Prop:=λk=>∀q∈SY T s o.op,af k.heap q.1 q.2=af w.heap q.1 q.2
     refine Hu (S:=ax) H A av (λN g w hc=>absurd hc (hQ _ _ _)) F c g w hC aq ab (F:=aw) (Or.inl ⟨J,λk l=>aC k l⟩) (λq _=>rfl) ?_
     refine Q _ _ _ _ B _ _ _ w hx ?_ (hD.set aa) (hC.set H ab) (y.put hv Y) (u.put _ _) rfl hs (hk.trans (mG.put Z _ _)) hq
     intro W l
     rcases List.mem_cons.1 l with rfl|l
     .exact Or.inr ⟨_,λq=>af w.heap q.1 q.2,bg,rfl⟩
     .rcases hL W l with t|⟨As,N,X,h2⟩
      .exact Or.inl t
      .exact Or.inr ⟨As,N,ai _ X,h2⟩
    .refine Hu (S:=λ_=>True) H A av (λN g w hc=>absurd hc (hQ _ _ _)) F c g w hC aq ab (F:=undef) (Or.inr ⟨J,rfl⟩) trivial ?_
     refine Q _ _ _ _ B _ _ _ w aj ?_ (hD.set aa) (hC.set H ab) (y.put (x:=.un) rfl Y) (u.put _ _) rfl hs (hk.trans (mG.put Z _ _)) hq
     intro W l
     rcases List.mem_cons.1 l with rfl|l
     .exact Or.inl λ_=>trivial
     .exact hL W l
  .split at h
   .rename_i h0
    exact Qw (au hD h0) (hq D g w h hR hB hs hk) _
   .rename_i rs ax
    have ar:=Nz h
    refine Rp ?_ ?_
    .intro e
     apply ax
     cases I:pQ done 0 b.toList U with
     |nil=>rfl
     |cons ad xs=>
      have:ad∈Region.ready .any b c:=(al hD ad).2 (by rw[I];exact bg)
      rw[e]at this
      cases this
    .intro i m
     have I:=ar i ((al hD i).1 m)
     obtain⟨o,R,A,O,p⟩:=(Ik b z hD i).1 m
     have d:b.toList[i]? =some o:=by simpa using A
     have aa:i<b.size:=(Array.getElem?_eq_some_iff.1 A).1
     rw[pP,d]at I
     simp only at I
     cases hd:sB n o.dst
     .rw[hd]at I;exact I.elim
     .rw[hd]at I
      simp only[jJ]at I
      have Y:=D0 hd
      have Z:∀C,o.dst=some C->C∈zV b.toList:=λC ah=>Lt ah _ (iA d)
      unfold wpOp
      simp only[A]
      rcases Jh b hR hB o I with⟨J,s,am,y,u⟩|⟨J,s,aj,y,u⟩
      .rw[an J]
       refine .inl (Qx hT hG y u o am w rfl _ _ λaD ad aw k hx aq ap hv az=>?_)
       obtain⟨aA,aB⟩:=Fp hx
       refine⟨λW l aC ab=>?_,Q _ _ _ L B M _ _ k aA hL (hD.set aa) (hC.set H m) (aq.put hv Y) (ap.put _ _) rfl (hs.trans az) (hk.trans (mG.put Z _ _)) hq⟩
       rcases hL W l with t|⟨As,N,X,h2⟩
       .exact t k
       .rw[h2]at ab⊢
        intro q ak
        rw[aB _ X aC q ak,ab q ak]
      .rw[ae (by rw[J];simp)]
       exact⟨λW l _ ab=>ab,Q _ _ _ L B M _ _ w aj hL (hD.set aa) (hC.set H m) (y.put (x:=.un) rfl Y) (u.put _ _) rfl hs (hk.trans (mG.put Z _ _)) hq⟩
end Go.Vc
end
section
namespace Go.Vc
variable{M:List Nat}{a:Act}{s:Sh}{y:s.ty}
variable{P:Program}{T:TT}{G:List Nat}{b:Nat}
structure Pp where
 TZ:List (Nat×List (Nat×Sh))
 U6:List (Nat×List (Nat×Sh))
 eA:List (Nat×List Nat)
def lk{α:Type}:List (Nat×α)->Nat->Option α
 |[],_=>none
 |(u,x)::r,t=>bif Nat.beq u t then some x else lk r t
def DC:Code->Option Nat
 | .region id _ _=>some id
 | .seq a b=>match DC a with
  |some i=>some i
  |none=>DC b
 | .cond _ a b=>match DC a with
  |some i=>some i
  |none=>DC b
 | .block _ c=>DC c
 | .loop c=>DC c
 | .scope c=>DC c
 |_=>none
def VY{α:Type}(l:List (Nat×α))(c:Code):Option α:=
 match DC c with
 |some i=>lk l i
 |none=>none
def HH:List (Nat×Sh)->Type
 |[]=>E->Prop
 |(_,s)::r=>s.ty->HH r
def Ou:List (Nat×Sh)->Type
 |[]=>E->Nat
 |(_,s)::r=>s.ty->Ou r
def Q1:(s:Sh)->SV->Option s.ty
 | .I,.c (.i b)=>some b
 | .U k,.c (.u c b)=>if k=c then some b else none
 | .T,.c (.t c)=>some c
 | .T,.tt=>some true
 | .T,.ff=>some false
 | .S,.c (.s x)=>some x
 | .P,.c (.p c o)=>some (c,o)
 | .P,.c (.bp _ c o)=>some (c,o)
 | .F,.c (.fn f a d)=>some (f,a,d)
 | .F,.c (.fv q)=>some q
 | .M,.c (.mp c)=>some c
 |_,_=>none
def HK:(l:List (Nat×Sh))->HH l->Fr->E->Prop
 |[],I,_,m=>I m
 |(t,s)::r,I,a,m=>match Q1 s (il a t)with
  |some x=>HK r (I x) a m
  |none=>False
def OA:(l:List (Nat×Sh))->HH l->Ou l->Fr->E->Nat->Prop
 |[],I,μ,_,m,N=>I m/\μ m<N
 |(t,s)::r,I,μ,a,m,N=>match Q1 s (il a t)with
  |some x=>OA r (I x) (μ x) a m N
  |none=>False
def PC:(l:List (Nat×Sh))->HH l->Fr->(Fr->(E->Prop)->Prop)->Prop
 |[],I,a,k=>k a I
 |(t,s)::r,I,a,k=>∀x:s.ty,PC r (I x) ((t,.c (s.mk x))::a) k
def PD:(l:List (Nat×Sh))->HH l->Ou l->Fr->(Fr->(E->Prop)->(E->Nat)->Prop)->Prop
 |[],I,μ,a,k=>k a I μ
 |(t,s)::r,I,μ,a,k=>∀x:s.ty,PD r (I x) (μ x) ((t,.c (s.mk x))::a) k
def nF:List Nat->Fr->Fr
 |[],a=>a
 |t::r,a=>(t,.fW)::nF r a
def oO:Code->List Nat
 | .region _ b _=>zV b.toList
 | .seq a b=>oO a++oO b
 | .cond _ a b=>oO a++oO b
 | .block _ c=>oO c
 | .loop c=>oO c
 |_=>[]
def pW(M:List Nat):List (Nat×Sh)->Bool
 |[]=>true
 |(t,_)::r=>vo t M&&pW M r
def Xc(x y:SV)(k:Prop):Prop:=x=y/\k
def aC(x:SV)(k:Prop):Xc x x k=k:=by simp[Xc]
def lg(A:Pp)(c:Code):List Nat:=
 match VY A.eA c with
 |some K=>K
 |none=>[]
def Dy(b:Nat)(K:List Nat):Fr->List Nat
 |[]=>[]
 |(q,_)::r=>bif Nat.ble b q&&!vo q K then q::Dy b K r else Dy b K r
def uF(b:Nat)(K:List Nat)(a:Fr):Fr:=nF (Dy b K a) a
def UA(a b:Fr):List Nat->Prop->Prop
 |[],k=>k
 |q::K,k=>Xc (il b q) (il a q) (UA a b K k)
def LD(c:Fr):Op->Option SV
 | .move x| .assign x=>match ev c x with
  | .fW=>none
  |y=>some y
 | .binOp d _ x y _=>match ev c x,ev c y with
  | .c (.i a),.c (.i b)=>match d with
   | .eql=>some (.c (.t (a==b)))
   | .neq=>some (.c (.t (a !=b)))
   | .lss=>some (.c (.t (decide (a<b))))
   | .leq=>some (.c (.t (decide (a<=b))))
   | .gtr=>some (.c (.t (decide (a>b))))
   | .geq=>some (.c (.t (decide (a>=b))))
   |_=>none
  |_,_=>none
 |_=>none
def rc(b:Nat):List Oper->Fr->Option Fr
 |[],a=>some a
 |o::r,a=>bif sB b o.dst then
  match o.guard with
  |none=>match LD a o.op with
   |some x=>rc b r (uh a o.dst x)
   |none=>none
  |some _=>none
  else none
def V0(A:Pp)(b t:Nat):Code->Fr->Option Bool
 | .region _ e false,d=>match rc b e.toList d with
  |some a=>lz (il a t)
  |none=>none
 | .seq (.region _ e false) (.cond (.tmp u) .skip c),d=>
  match VY A.U6 (.cond (.tmp u) .skip c)with
  |some _=>none
  |none=>bif Nat.beq u t&&vo t (oO c)then
   match rc b e.toList d with
   |some a=>match lz (il a t),V0 A b t c a with
    |some x,some y=>some (x||y)
    |_,_=>none
   |none=>none
   else none
 |_,_=>none
def YC(A:Pp)(b:Nat)(d:Operand)(a c:Code)(e:Fr):Option (Nat×Bool):=
 match d,a with
 | .tmp t,.skip=>bif vo t (oO c)then
  match V0 A b t c e with
  |some y=>some (t,y)
  |none=>none
  else none
 |_,_=>none
def uN(a:Fr)(c:Operand)(v:SV):Fr:=
 match c with
 | .tmp t=>(t,v)::a
 |_=>a
def Vi:List Oper->List Nat
 |[]=>[]
 |o::r=>lD o.after.toList::Vi r
def Tw:List Nat->List Oper->List Nat
 |a,[]=>a
 |a,o::r=>Tw (a++[od a o.after.toList]) r
def qA:Code->Bool
 | .region _ b c=>!c||(lj (Tw [] b.toList) b.toList (Vi b.toList) (Tw [] b.toList)&&FE b.toList (Vi b.toList) 0 b.toList (Tw [] b.toList))
 | .seq a b=>qA a&&qA b
 | .cond _ a b=>qA a&&qA b
 | .block _ c=>qA c
 | .loop c=>qA c
 |_=>true
def vc(P:Program)(T:TT)(G:List Nat)(b:Nat)(A:Pp):Code->Fr->E->(Exit->Fr->E->Prop)->Prop
 | .skip,c,m,Q=>Q .normal c m
 | .region id d e,c,m,Q=>
  bif e then oR P T G b d.toList (Vi d.toList) (Tw [] d.toList) d.toList.length 0 c m [] (λc m=>Q .normal c m)
  else sG P T G b d.toList d.toList c m (λc m=>Q .normal c m)
 | .seq a g,c,m,Q=>match VY A.U6 g with
  |none=>vc P T G b A a c m λ
   | .normal,e,d=>vc P T G b A g e d Q
   |h,e,d=>Q h e d
  |some l=>bif pW (oO a) l then∃K:HH l,(vc P T G b A a c m λ
   | .normal,e,d=>UA c e (lg A g) (HK l K e d)
   |h,e,d=>Q h e d)/\
   (PC l K (nF (oO a) (uF b (lg A g) c)) λe f=>∀d,f d->vc P T G b A g e d Q)else False
 | .cond f a g,c,m,Q=>match ev c f with
  | .tt=>vc P T G b A a c m Q
  | .ff=>vc P T G b A g c m Q
  | .c (.t x)=>match YC A b f a g c with
   |some (t,y)=>Q .normal ((t,.c (.t (x||y)))::nF (oO g) c) m
   |none=>(x=true->vc P T G b A a (uN c f .tt) m Q)/\(x=false->vc P T G b A g (uN c f .ff) m Q)
  |_=>False
 | .block id f,c,m,Q=>vc P T G b A f c m λ
  | .exit i,e,d=>bif Nat.beq i id then Q .normal e d else Q (.exit i) e d
  |h,e,d=>Q h e d
 | .loop f,c,m,Q=>match VY A.TZ f with
  |none=>False
  |some l=>bif pW (oO f) l then∃(I:HH l)(μ:Ou l),HK l I c m/\
   (PD l I μ (nF (oO f) (uF b (lg A f) c)) λe j μ'=>∀d,j d->vc P T G b A f e d λ
    | .normal,g,i=>UA c g (lg A f) (OA l I μ g i (μ' d))
    |h,g,i=>Q h g i)else False
 | .exit id,c,m,Q=>Q (.exit id) c m
 | .ret,c,m,Q=>Q .ret c m
 |_,_,_,_=>False
def mG.mono{b:List Nat}{c:Act}(h:mG M a c)(e:∀t∈M,t∈b):mG b a c:=λt f=>h t λd=>f (e t d)
def Ca:∀(M:List Nat)(a:Fr)(t:Nat),(t∈M/\il (nF M a) t=.fW)\/(t∉M/\il (nF M a) t=il a t)
 |[],_,_=>Or.inr ⟨aL,rfl⟩
 |u::M,a,t=>by
  simp only[nF,il];cases d:Nat.beq u t
  .have f:u≠t:=λe=>by subst e;simp at d
   rcases Ca M a t with⟨b,c⟩|⟨b,c⟩
   .exact Or.inl ⟨ai _ b,c⟩
   .exact Or.inr ⟨by simp only[aV,vK];exact⟨λe=>f e.symm,b⟩,c⟩
  .have:=bq d;subst this;exact Or.inl ⟨bg,rfl⟩
def Av{d:Fr}{c:Act}(g:j9 b d a)(j:c.tmps.size=b)(hd:c.defers=[])(i:mG M a c):j9 b (nF M d) c:=by
 refine⟨j,hd,λt=>?_⟩;rcases Ca M d t with⟨_,h⟩|⟨e,f⟩
 .rw[h];trivial
 .rw[f,i t e];exact g.aG t
def j9.nF{c:Fr}{a:Act}(d:j9 b c a):∀(M:List Nat),j9 b (nF M c) a
 |[]=>d
 |t::M=>(j9.nF d M).fW t
def Bx.nF{a:Fr}{m:E}(h:Bx b a m):∀(M:List Nat),Bx b (nF M a) m
 |[]=>h
 |t::M=>(Bx.nF h M).fW aL
def NG{K:List Nat}{q:Nat}(d:b<=q)(c:q∉K):∀{a:Fr},q∈Dy b K a\/il a q=.fW
 |[]=>Or.inr rfl
 |(u,x)::r=>by
  simp only[Dy,il];cases i:Nat.beq u q
  .rcases NG d c (a:=r)with h|h
   .left;cases(Nat.ble b u&&!vo u K)
    .exact h
    .exact ai _ h
   .exact Or.inr h
  .have:=bq i;subst this;have f:vo u K=false:=by
    cases g:vo u K
    .rfl
    .exact absurd (Ia g) c
   have e:Nat.ble b u=true:=XN d;simp[f,e]
def KY{b c:Fr}:∀{K:List Nat}{k:Prop},UA b c K k->(∀q∈K,il c q=il b q)/\k
 |[],k,h=>⟨aL,h⟩
 |q::K,k,h=>by
  obtain⟨d,e⟩:=KY h.2;refine⟨λu a=>?_,e⟩;rcases List.mem_cons.1 a with rfl|a
  .exact h.1
  .exact d u a
def Bx.lg{K:List Nat}{c j:Fr}{v p:E}(h:Bx b c v)(r:Bx b j p)(s:∀q∈K,il j q=il c q):Bx b (Vc.nF M (uF b K c)) p:=by
 have i:∀{q d e l},lO (Vc.nF M (uF b K c)) q d e l->lO c q d e l/\lO j q d e l:=by
  intro q d e l a;have f:il (Vc.nF M (uF b K c)) q=il (uF b K c) q\/il (Vc.nF M (uF b K c)) q=.fW:=by
   rcases Ca M (uF b K c) q with⟨_,h⟩|⟨_,h⟩
   .exact Or.inr h
   .exact Or.inl h
  unfold lO at a;rcases f with f|f
  .rw[f]at a;unfold uF at a;rcases Ca (Dy b K c) c q with⟨_,g⟩|⟨k,g⟩
   .rw[g]at a;simp at a
   .rw[g]at a;have t:b<=q:=h.key q d e l a;by_cases o:q∈K
    .refine⟨a,?_⟩;unfold lO;rw[s q o];exact a
    .rcases NG (b:=b) t o (a:=c)with m|m
     .exact absurd m k
     .rw[m]at a;simp at a
  .rw[f]at a;simp at a
 exact⟨λq d e l a=>r.D q d e l (i a).2,λq w d e l m o u t k g=>h.OF q w d e l m o u t (i k).1 (i g).1,λq d e l a=>h.key q d e l (i a).1⟩
def Sz{x:SV}(h:Q1 s x=some y):x.jL=true/\x.v=(s.mk y).v:=by
 unfold Q1 at h;split at h<;>first|(simp at h;subst h;exact⟨rfl,rfl⟩)|skip
 .split at h
  .rename_i a;subst a;simp at h;subst h;exact⟨rfl,rfl⟩
  .simp at h
 .simp at h
def LI{d cv:Fr}{t:Nat}(g:j9 b d a)(c:j9 b cv a)(h:Q1 s (il d t)=some y):j9 b ((t,.c (s.mk y))::cv) a:=by
 refine⟨c.size,c.defers,λu=>?_⟩;simp only[il];cases i:Nat.beq t u
 .exact c.aG u
 .have:=bq i;subst this;have e:=g.aG t;obtain⟨j,k⟩:=Sz h;have f:=e.eq j;show _=_;rw[f,k];rfl
def Ti:(l:List (Nat×Sh))->HH l->Ou l->Fr->Fr->(E->Prop)->(E->Nat)->Prop
 |[],I,μ,b,c,a,μ'=>c=b/\a=I/\μ'=μ
 |(t,s)::r,I,μ,b,c,a,μ'=>∃x:s.ty,Ti r (I x) (μ x) ((t,.c (s.mk x))::b) c a μ'
def NA:∀{l:List (Nat×Sh)}{I:HH l}{μ:Ou l}{b:Fr}{k:Fr->(E->Prop)->(E->Nat)->Prop},PD l I μ b k->∀{fr' I' μ'},Ti l I μ b fr' I' μ'->k fr' I' μ'
 |[],_,_,_,_,h,_,_,_,a=>by obtain⟨rfl,rfl,rfl⟩:=a;exact h
 |(t,s)::r,_,_,_,_,h,_,_,_,a=>by obtain⟨x,a⟩:=a;exact NA (h x) a
def Sh.T9(s:Sh)(x:s.ty)(b e:Nat)(l:List Ce):SV.c (s.mk x)≠.box b e l/\SV.c (s.mk x)≠.zQ b e l:=⟨aL,aL⟩
def NF{a:Act}{g:Fr}(i:j9 b g a):∀{l:List (Nat×Sh)}{I:HH l}{μ:Ou l}{cv:Fr}{m:E}{N:Nat},j9 b cv a->Bx b cv m->OA l I μ g m N->
 ∃c d μ',Ti l I μ cv c d μ'/\j9 b c a/\Bx b c m/\d m/\μ' m<N
 |[],I,μ,cv,_,_,f,e,h=>⟨cv,I,μ,⟨rfl,rfl,rfl⟩,f,e,h.1,h.2⟩
 |(t,s)::r,I,μ,cv,m,N,f,e,h=>by
  simp only[OA]at h;split at h
  .rename_i x p;obtain⟨c,d,μ',j,k,n,o⟩:=NF i (LI i f p) (e.fW (s.T9 x)) h;exact⟨c,d,μ',⟨x,j⟩,k,n,o⟩
  .exact h.elim
def NE{a:Act}{g:Fr}(i:j9 b g a):∀{l:List (Nat×Sh)}{I:HH l}{μ:Ou l}{cv:Fr}{m:E},j9 b cv a->Bx b cv m->HK l I g m->
 ∃c d μ',Ti l I μ cv c d μ'/\j9 b c a/\Bx b c m/\d m
 |[],I,μ,cv,_,f,e,h=>⟨cv,I,μ,⟨rfl,rfl,rfl⟩,f,e,h⟩
 |(t,s)::r,I,μ,cv,m,f,e,h=>by
  simp only[HK]at h;split at h
  .rename_i x o;obtain⟨c,d,μ',j,k,n⟩:=NE i (LI i f o) (e.fW (s.T9 x)) h;exact⟨c,d,μ',⟨x,j⟩,k,n⟩
  .exact h.elim
def PG{a:Act}{i:Fr}(j:j9 b i a):∀{l:List (Nat×Sh)}{I:HH l}{cv:Fr}{m:E}{k:Fr->(E->Prop)->Prop},j9 b cv a->Bx b cv m->HK l I i m->PC l I cv k->
 ∃c g,k c g/\j9 b c a/\Bx b c m/\g m
 |[],I,cv,_,_,e,d,h,f=>⟨cv,I,f,e,d,h⟩
 |(t,s)::r,I,cv,m,k,e,d,h,f=>by
  simp only[HK]at h;split at h
  .rename_i x n;exact PG j (LI j e n) (d.fW (s.T9 x)) h (f x)
  .exact h.elim
def SU{l:Code}{Q:Exit->Act->World->Prop}(b:Nat->Act->World->Prop)
 (r:∀N a w,b N a w->l.wp P (Exit.then (λg k=>∃d,d<N/\b d g k) Q) a w):∀N a w,b N a w->(Code.loop l).wp P Q a w:=by
 have q:∀N a w,b N a w->∃M,b M a w/\∀c,c<M->¬b c a w:=by
  intro N;induction N using Nat.strongRecOn with
  |_ N j=>
   intro a w h;by_cases e:∃c,c<N/\b c a w
   .obtain⟨c,f,i⟩:=e;exact j c f a w i
   .exact⟨N,h,λc i f=>e ⟨c,i,f⟩⟩
 intro N a w o
 classical
 let μ:Act->World->Nat:=λa w=>if h:∃M,b M a w/\∀c,c<M->¬b c a w then Classical.choose h else 0
 have hμ:∀a w N,b N a w->b (μ a w) a w/\μ a w<=N:=by
  intro a w N h;have e:=q N a w h;have i:μ a w=Classical.choose e:=S0 e;have n:=fN e;rw[i];refine⟨n.1,?_⟩;rcases aW N (Classical.choose e)with j|p
  .exact absurd h (n.2 N j)
  .exact p
 refine wp_loop (λa w=>∃N,b N a w) μ ⟨N,o⟩ ?_
 rintro a w ⟨N,h⟩
 refine Code.wp_mono ?_ (r (μ a w) a w (hμ a w N h).1)
 intro i g k m
 cases i with
 |normal=>
  obtain⟨d,j,f⟩:=m
  exact⟨⟨d,f⟩,nH (hμ g k d f).2 j⟩
 |_=>exact m
end Go.Vc
end
section
namespace Go.Vc
variable{i w:World}{j p:List Nat}{l a:Act}{f:Exit->Fr->E->Prop}{e:Exit}{b:E}
variable{g:Program}{h:TT}{G:List Nat}{d:Nat}{o:Pp}
def kv(d:Nat)(i:World)(j:List Nat)(l:Act)(f:Exit->Fr->E->Prop):Exit->Act->World->Prop
 | .panic _,_,_=>False
 | .outgrown,_,_=>False
 |e,a,w=>∃b,j9 d b a/\Bx d b w.heap/\pD i w/\mG j l a/\f e b w.heap
def kv.mk{b:Fr}(g:(∀c,e≠.panic c)/\e≠.outgrown)
 (k:j9 d b a)(h:Bx d b w.heap)(o:pD i w)(m:mG j l a)(n:f e b w.heap):kv d i j l f e a w:=by
 cases e with
 |panic c=>exact absurd rfl (g.1 c)
 |outgrown=>exact absurd rfl g.2
 |_=>exact⟨b,k,h,o,m,n⟩
def kv.aS(h:kv d i j l f e a w):
 ((∀c,e≠.panic c)/\e≠.outgrown)/\∃b,j9 d b a/\Bx d b w.heap/\pD i w/\mG j l a/\f e b w.heap:=by
 cases e with
 |panic c=>exact h.elim
 |outgrown=>exact h.elim
 |_=>exact⟨⟨aL,aL⟩,h⟩
def kv.left(h:kv d i j l f e a w):kv d i (j++p) l f e a w:=by
 obtain⟨g,q,c,b,n,k,m⟩:=h.aS;exact kv.mk g c b n (k.mono (λt o=>bJ _ o)) m
def kv.right(h:kv d i j l f e a w):kv d i (p++j) l f e a w:=by
 obtain⟨g,q,c,b,n,k,m⟩:=h.aS;exact kv.mk g c b n (k.mono (λt o=>eD _ o)) m
def SJ{f:Fr}{e:Op}{x:SV}{k:SV->Prop}(c:LD f e=some x)(d:k x):Lm e=false/\rd h f b k e:=by
 unfold LD at c;split at c
 .split at c
  .simp at c
  .simp at c;subst c;exact⟨rfl,d⟩
 .split at c
  .simp at c
  .simp at c;subst c;exact⟨rfl,d⟩
 .rename_i o t y z l;split at c
  .rename_i a j g i;refine⟨rfl,?_⟩;simp only[rd,g,i];split at c<;>simp at c<;>subst c<;>exact d
  .simp at c
 .simp at c
def Ep(j:List Oper){b:E}{i:Fr->E->Prop}:∀{n:List Oper}{c e:Fr},rc d n c=some e->i e b->sG g h G d j n c b i
 |[],c,e,a,f=>by simp[rc]at a;subst a;exact f
 |o::s,c,e,a,f=>by
  simp only[rc]at a;simp only[sG];cases hd:sB d o.dst
  .rw[hd]at a;simp at a
  .rw[hd]at a;simp only[jJ]at a⊢;cases l:o.guard with
   |some p=>rw[l]at a;simp at a
   |none=>
    rw[l]at a;simp only[gd]at a⊢;split at a
    .rename_i x r;obtain⟨p,q⟩:=SJ (h:=h) (b:=b) (k:=λx=>sG g h G d j s (uh c o.dst x) b i) r (Ep j a f);rw[p];exact q
    .simp at a
def Ud(p:Nat){b:E}{f:Exit->Fr->E->Prop}:∀(k:Code)(n:Fr)(y:Bool),V0 o d p k n=some y->(∀i,lz (il i p)=some y->f .normal i b)->vc g h G d o k n b f
 | .region id A e,n,y,a,m=>by
  cases e
  .simp only[V0]at a;simp only[vc,mL];split at a
   .rename_i i q;exact Ep _ q (m i a)
   .simp at a
  .simp[V0]at a
 | .seq (.region id A false) (.cond (.tmp u) .skip k),n,y,a,m=>by
  simp only[V0]at a;split at a
  .simp at a
  .rename_i w;cases l:(Nat.beq u p&&vo p (oO k))
   .rw[l]at a;simp at a
   .rw[l]at a;simp only[jJ]at a;simp only[bM]at l;have z:=bq l.1;subst z;split at a
    .rename_i i q;split at a
     .rename_i C B e r;simp at a;subst a;rw[vc,w];simp only;rw[vc];simp only[mL];refine Ep _ q ?_;rw[vc];have x:ev i (.tmp u)=(il i u).nb:=rfl;rw[x];cases j:il i u with
      |tt=>
       rw[j]at e;simp[lz]at e;subst e;simp only[SV.nb,vc];exact m i (by rw[j];simp[lz])
      |ff=>
       rw[j]at e;simp[lz]at e;subst e;simp only[SV.nb];exact Ud u k i B r (λs v=>m s (by simpa using v))
      |c s=>
       cases s with
       |t v=>
        rw[j]at e;simp[lz]at e;subst e;simp only[SV.nb,YC,l.2,jJ,r];exact m _ (by simp[il,lz])
       |_=>rw[j]at e;simp[lz]at e
      |_=>rw[j]at e;simp[lz]at e
     .simp at a
    .simp at a
def Up(hT:uD g h)(hG:UH g G)(au:g.follows .mixedOrders=true)(i:World):∀(D:Code),qA D=true->∀(l:Fr)(b:E)(f:Exit->Fr->E->Prop)(a:Act)(w:World),
 vc g h G d o D l b f->j9 d l a->Bx d l b->w.heap=b->pD i w->D.wp g (kv d i (oO D) a f) a w:=by
 intro D
 induction D with
 |skip=>
  intro hd l b f a w c k s x t
  subst x
  exact wp_skip ⟨l,k,s,t,mG.az _ _,c⟩
 |region id p z=>
  intro hd l b f a w c k s x t
  simp only[vc]at c
  cases z
  .simp only[mL]at c
   refine wp_region_list ?_
   exact vd hT hG p p.toList l b (f .normal) a w (λ_ c=>c) c k s x t (mG.az _ _) λB I S j r v u q=>⟨B,r,v,u,q,j⟩
  .simp only[jJ]at c
   simp only[qA,Oh,Vt,bM]at hd
   refine wp_region_any au (Mx (e:=λy C=>Nat.testBit (uj (Tw [] p.toList) y) C) (L:=[]) _ _ _ _ ?_)
   have F:p.toList.length=p.size:=aL
   rw[F]at c
   refine Pl hT hG p _ _ hd.1 hd.2 (λD a w hx=>hx) (w0:=i) (a0:=a) p.size 0 l b [] (f .normal) [] _ a _ c (λC hx=>by cases hx) ⟨aL,λy=>by simp[Vs];split<;>rfl⟩ (λy hi=>by simp[Vs]at hi;split at hi<;>simp at hi) k s x ⟨t.os,t.tape,t.output⟩ (mG.az _ _) λB I S j r v u q=>⟨B,r,v,u,q,j⟩
 |seq C U ac X=>
  intro hd l b f a w c k s x t
  simp only[vc]at c
  simp only[qA,bM]at hd
  refine wp_seq ?_
  split at c
  .refine Code.wp_mono ?_ (ac hd.1 l b _ a w c k s x t)
   intro e I S j
   obtain⟨p,B,r,v,u,z,j⟩:=j.aS
   cases e with
   |normal=>
    refine Code.wp_mono ?_ (X hd.2 B _ f I S j r v rfl u)
    intro e R aa j
    obtain⟨p,V,J,F,O,K,j⟩:=j.aS
    exact kv.mk p J F O ((z.mono (λH q=>bJ _ q)).trans (K.mono (λH q=>eD _ q))) j
   |panic D=>exact absurd rfl (p.1 D)
   |outgrown=>exact absurd rfl p.2
   |exit y=>exact kv.mk (e:=.exit y) p r v u (z.mono (λH q=>bJ _ q)) j
   |goto y=>exact kv.mk (e:=.goto y) p r v u (z.mono (λH q=>bJ _ q)) j
   |ret=>exact kv.mk (e:=.ret) p r v u (z.mono (λH q=>bJ _ q)) j
  .rename_i N hl
   cases ab:pW (oO C) N
   .rw[ab]at c;exact c.elim
   rw[ab]at c
   obtain⟨ad,h1,W⟩:=c
   refine Code.wp_mono ?_ (ac hd.1 l b _ a w h1 k s x t)
   intro e I S j
   obtain⟨p,B,r,v,u,z,j⟩:=j.aS
   cases e with
   |normal=>
    obtain⟨af,j⟩:=KY j
    obtain⟨ag,K',h3,Y,Z,h5⟩:=PG r (Av (k.nF _) r.size r.defers z) (Bx.lg s v af) j W
    refine Code.wp_mono ?_ (X hd.2 ag _ f I S (h3 _ h5) Y Z rfl u)
    intro e R aa j
    obtain⟨p,V,J,F,O,K,j⟩:=j.aS
    exact kv.mk p J F O ((z.mono (λH q=>bJ _ q)).trans (K.mono (λH q=>eD _ q))) j
   |panic D=>exact absurd rfl (p.1 D)
   |outgrown=>exact absurd rfl p.2
   |exit y=>exact kv.mk (e:=.exit y) p r v u (z.mono (λH q=>bJ _ q)) j
   |goto y=>exact kv.mk (e:=.goto y) p r v u (z.mono (λH q=>bJ _ q)) j
   |ret=>exact kv.mk (e:=.ret) p r v u (z.mono (λH q=>bJ _ q)) j
 |cond ad C U ac X=>
  intro hd l b f a w c k s x t
  simp only[vc]at c
  simp only[qA,bM]at hd
  have aj:∀{K:Bool},a.eval ad=.bool K->j9 d (uN l ad (if K then .tt else .ff)) a:=by
   intro K F;unfold uN;split
   .rename_i H;refine⟨k.size,k.defers,λR=>?_⟩;simp only[il];cases Y:Nat.beq H R
    .exact k.aG R
    .have:=bq Y;subst this;cases K<;>exact F
   .exact k
  have ak:∀{C:SV},(∀K e N,C≠.box K e N/\C≠.zQ K e N)->Bx d (uN l ad C) b:=by
   intro C hx;unfold uN;split
   .exact s.fW hx
   .exact s
  split at c
  .rename_i Z
   exact wp_cond_true (k.eq Z rfl) (Code.wp_mono (λ_ _ _ c=>c.left) (ac hd.1 l b f a w c k s x t))
  .rename_i Z
   exact wp_cond_false (k.eq Z rfl) (Code.wp_mono (λ_ _ _ c=>c.right) (X hd.2 l b f a w c k s x t))
  .rename_i K Z
   have aa:a.eval ad=.bool K:=k.eq Z rfl
   split at c
   .rename_i H y' J
    unfold YC at J
    split at J
    .rename_i O
     cases ai:vo O (oO U)
     .rw[ai]at J;simp at J
     .rw[ai]at J
      simp only[jJ]at J
      split at J
      .rename_i y0 ao
       simp at J
       obtain⟨rfl,rfl⟩:=J
       have am:a.tmps.getD O undef=.bool K:=aa
       refine wp_cond_split aa (λq=>?_) (λq=>?_)
       .subst x
        subst q
        refine wp_skip (kv.mk (e:=.normal) (b:=(O,.c (.t (true||y0)))::nF (oO U) l) ⟨aL,aL⟩ ?_ ((s.nF _).fW aL) t (mG.az _ _) c)
        have F:=Av (M:=oO U) k k.size k.defers (mG.az _ a)
        refine⟨F.size,F.defers,λR=>?_⟩
        simp only[il]
        cases Y:Nat.beq O R
        .exact F.aG R
        .have:=bq Y
         subst this
         simpa[SV.Is,SV.v,Ce.v]using am
       .subst q
        have hv:=Ud (g:=g) (h:=h) (G:=G) (o:=o) (d:=d) O (b:=b) (f:=λe B V=>e=.normal/\V=b/\lz (il B O)=some y0) U l y0 ao (λB V=>⟨rfl,rfl,V⟩)
        refine Code.wp_mono ?_ (X hd.2 l b _ a w hv k s x t)
        intro e I S j
        obtain⟨p,B,r,v,u,z,rfl,ah,al⟩:=j.aS
        refine kv.mk (e:=.normal) (b:=(O,.c (.t (false||y0)))::nF (oO U) l) p ?_ (by rw[ah];exact(s.nF _).fW aL) u (z.mono (λH q=>eD _ q)) (by rw[ah];exact c)
        have F:=Av (M:=oO U) k r.size r.defers z
        refine⟨F.size,F.defers,λR=>?_⟩
        simp only[il]
        cases Y:Nat.beq O R
        .exact F.aG R
        .have:=bq Y
         subst this
         obtain⟨V,W⟩:=wW al
         have h3:=(r.aG O).eq V
         rw[W]at h3
         simpa[SV.Is,SV.v,Ce.v]using h3
      .simp at J
    .simp at J
   .refine wp_cond_split aa (λq=>?_) (λq=>?_)
    .subst q
     exact Code.wp_mono (λ_ _ _ c=>c.left) (ac hd.1 _ b f a w (c.1 rfl) (aj aa) (ak aL) x t)
    .subst q
     exact Code.wp_mono (λ_ _ _ c=>c.right) (X hd.2 _ b f a w (c.2 rfl) (aj aa) (ak aL) x t)
  .exact c.elim
 |block id C J=>
  intro hd l b f a w c k s x t
  simp only[vc]at c
  refine wp_block (Code.wp_mono ?_ (J hd l b _ a w c k s x t))
  intro e I S j
  obtain⟨p,B,r,v,u,z,j⟩:=j.aS
  cases e with
  |exit y=>
   simp only[Exit.inBlock]
   simp only at j
   cases F:Nat.beq y id
   .rw[F]at j
    have q:y≠id:=λe=>by subst e;simp at F
    rw[ae q]
    exact kv.mk (e:=.exit y) p r v u z j
   .rw[F]at j
    rw[an (bq F)]
    exact kv.mk (e:=.normal) ⟨aL,aL⟩ r v u z j
  |normal=>exact kv.mk (e:=.normal) p r v u z j
  |panic D=>exact absurd rfl (p.1 D)
  |outgrown=>exact absurd rfl p.2
  |goto y=>exact kv.mk (e:=.goto y) p r v u z j
  |ret=>exact kv.mk (e:=.ret) p r v u z j
 |loop C J=>
  intro hd l b f a w c k s x t
  subst x
  simp only[vc]at c
  split at c
  .exact c.elim
  .rename_i N hl
   cases ab:pW (oO C) N
   .rw[ab]at c;exact c.elim
   rw[ab]at c
   obtain⟨O,μ,h0,h1⟩:=c
   let Y:Nat->Act->World->Prop:=λK I w=>∃B H μ',Ti N O μ (nF (oO C) (uF d (lg o C) l)) B H μ'/\j9 d B I/\Bx d B w.heap/\H w.heap/\μ' w.heap=K/\pD i w/\mG (oO C) a I
   obtain⟨aa,R,μ1,ap,al,ad,aj⟩:=NE (μ:=μ) k (Av (k.nF _) k.size k.defers (mG.az (oO C) a)) (Bx.lg s s (λ_ _=>rfl)) h0
   refine SU Y ?_ (μ1 w.heap) a w ⟨aa,R,μ1,ap,al,ad,aj,rfl,t,mG.az _ _⟩
   rintro K Z w ⟨B,H,μ',hi,r,v,ai,rfl,u,V⟩
   have ao:=NA h1 hi w.heap ai
   refine Code.wp_mono ?_ (J hd B w.heap _ Z w ao r v rfl u)
   intro e I S j
   obtain⟨p,ag,q,z,F,W,j⟩:=j.aS
   cases e with
   |normal=>
    obtain⟨af,j⟩:=KY j
    obtain⟨ac,X,μ3,aq,am,ah,ak,ar⟩:=NF q (Av (k.nF _) q.size q.defers (V.trans W)) (Bx.lg s z af) j
    exact⟨_,ar,ac,X,μ3,aq,am,ah,ak,rfl,F,V.trans W⟩
   |panic D=>exact absurd rfl (p.1 D)
   |outgrown=>exact absurd rfl p.2
   |exit y=>exact kv.mk (e:=.exit y) p q z F (V.trans W) j
   |goto y=>exact kv.mk (e:=.goto y) p q z F (V.trans W) j
   |ret=>exact kv.mk (e:=.ret) p q z F (V.trans W) j
 |exit id=>
  intro hd l b f a w c k s x t
  subst x
  exact wp_exit ⟨l,k,s,t,mG.az _ _,c⟩
 |ret=>
  intro hd l b f a w c k s x t
  subst x
  exact wp_ret ⟨l,k,s,t,mG.az _ _,c⟩
 |rangeFunc j k C U _ _=>intro _ l b f a w c;exact c.elim
 |scope C _=>intro _ l b f a w c;exact c.elim
 |label N=>intro _ l b f a w c;exact c.elim
 |goto N=>intro _ l b f a w c;exact c.elim
 |refuse s=>intro _ l b f a w c;exact c.elim
def uE:Nat->List SV->Fr
 |_,[]=>[]
 |i,x::r=>(i,x)::uE (i+1) r
def Gt(h:TT)(a:Fr)(b:E):List ResultVar->(List SV->Prop)->Prop
 |[],k=>k []
 | .tmp t::r,k=>bif (il a t).jL then Gt h a b r λl=>k (il a t::l)else False
 | .cell p t::r,k=>rd h a b (λx=>bif x.jL then Gt h a b r λl=>k (x::l)else False) (.load t (.tmp p))
def Xm(h:TT)(c:List ResultVar)(a:Fr)(b:E)(R:Value->E->Prop):Prop:=
 Gt h a b c λ
  |[x]=>R x.v b
  |l=>R (.tuple (l.map SV.v).toArray) b
def SS(g:Program)(h:TT)(G:List Nat)(o:Pp)(d:Nat)(c:List ResultVar)(f:Code)(e:List SV)(b:E)(R:Value->E->Prop):Prop:=
 vc g h G d o f (uE 0 e) b λ
  | .normal,a,b=>Xm h c a b R
  | .ret,a,b=>Xm h c a b R
  |_,_,_=>False
def HL:∀(a:List SV)(i t:Nat),(t<i/\il (uE i a) t=.fW)\/(i<=t/\il (uE i a) t=a.getD (t -i) .fW)
 |[],i,t=>by
  rcases aW t i with h|h
  .exact Or.inl ⟨h,rfl⟩
  .exact Or.inr ⟨h,by simp[uE,il]⟩
 |x::r,i,t=>by
  simp only[uE,il];cases c:Nat.beq i t
  .have f:i≠t:=λe=>by subst e;simp at c
   rcases HL r (i+1) t with⟨d,b⟩|⟨d,b⟩
   .exact Or.inl ⟨V,b⟩
   .refine Or.inr ⟨V,?_⟩;have e:t -i=(t -(i+1))+1:=V;rw[e,List.getD_cons_succ];exact b
  .have:=bq c;subst this;exact Or.inr ⟨ad _,aL⟩
def LJ(a:Array Value):ResultVar->Sem Value
 | .tmp t=>pure (a.getD t undef)
 | .cell p t=>do loadVar t (<-asAddr (a.getD p undef))
def Rg(b:Func)(c:Array Value):results b c=(do
 let a<-b.results.mapM (LJ c)
 pure (if h:a.size=1 then a[0]else .tuple a)):=by
 unfold results
 congr 2
def Il{i:Fr}{a:Act}(v:uD g h)(f:j9 d i a):∀(D:List ResultVar)(k:List SV->Prop)(w:World),Bx d i w.heap->Gt h i w.heap D k->
 ∃p,k p/\(D.mapM (LJ a.tmps)).run g w=.ok (p.map SV.v) w
 |[],k,w,_,b=>⟨[],b,aL⟩
 | .tmp t::A,k,w,j,b=>by
  simp only[Gt]at b;cases c:(il i t).jL
  .rw[c]at b;exact b.elim
  .rw[c]at b;obtain⟨p,s,u⟩:=Il v f A _ w j b;refine⟨_,s,?_⟩;have z:=(f.aG t).eq c;have r:LJ a.tmps (.tmp t)=pure (a.tmps.getD t undef):=rfl;simp only[Uu,Sem.run_bind,Sem.run_pure,Result.andThen_ok,u,cK,z,r]
 | .cell q t::A,k,w,j,m=>by
  obtain⟨E,B,n,z,b⟩:=LF (P:=g) v f j ⟨none,.load t (.tmp q),0,"",#[],none⟩ m;have b:=b w (λC _=>rfl);cases x:E.jL
  .rw[x]at n;exact n.elim
  rw[x]at n;obtain⟨p,s,u⟩:=Il v f A _ w j n;refine⟨_,s,?_⟩;have G:∃c o,a.tmps.getD q undef=.pointer (some ⟨c,o,none⟩):=by
   have l:=SV.Ua (f.aG q);simp only[Gt,rd,ev]at m;split at m
   .rename_i c o y;rw[y]at l;exact⟨c,o,l⟩
   .rename_i C c o y;rw[y]at l;exact⟨c,o,l⟩
   .exact m.elim
  obtain⟨c,o,y⟩:=G;simp only[execOp,Instr.loadAt,Act.eval,y,Instr.sureAddr,Sem.run_bind,Sem.run_pure,Result.andThen_ok]at b;have F:(loadVar t ⟨c,o,none⟩).run g w=.ok B w:=by
   cases C:(loadVar t ⟨c,o,none⟩).run g w with
   |ok I H=>
    rw[C]at b;simp at b;rw[b.1,b.2]
   |halt e H=>rw[C]at b;simp at b
  have H:B=E.v:=z.eq x;have r:(LJ a.tmps (.cell q t)).run g w=.ok B w:=by
   simp only[LJ,y,Sem.run_bind,asAddr,Sem.run_pure,Result.andThen_ok,F]
  simp only[Uu,Sem.run_bind,Sem.run_pure,Result.andThen_ok,r,u,cK,H]
def yf(z:uD g h)(K:UH g G)(O:g.follows .mixedOrders=true){y:FuncId}{i:Func}{m:Code}{r:List ResultVar}{a:List SV}{R:Value->E->Prop}
 (N:g.funcs[y]? =some i)(M:i.body=some m)(P:i.ntmps=d)(S:i.results=r.toArray)(A:a.all SV.jL=true)(X:a.length<=d)(hd:qA m=true)
 (j:SS g h G o d r m a b R):aN g y (a.map SV.v) b R:=by
 intro w U
 refine calls_of_wp N M ?_
 have L:j9 d (uE 0 a) {tmps:=(a.map SV.v).toArray++Array.replicate (i.ntmps -(a.map SV.v).toArray.size) undef,defers:=[]}:=by
  refine⟨by simp[P];omega,rfl,λt=>?_⟩;rcases HL a 0 t with⟨n,_⟩|⟨_,p⟩
  .omega
  .rw[p,Xv];rcases aW t a.length with k|s
   .have u:(a[t]).jL=true:=List.all_eq_true.1 A _ (List.getElem_mem k);have c:a.getD t .fW=a[t]:=by simp[k]
    rw[c];have f:((a.map SV.v).toArray++Array.replicate (i.ntmps -(a.map SV.v).toArray.size) undef).getD t undef=(a[t]).v:=by
     simp[Array.getElem?_append,k]
    rw[f];exact nN _
   .have c:a.getD t .fW=.fW:=by simp[cN s]
    rw[c];trivial
 have v:∀{q x e l},¬lO (uE 0 a) q x e l:=by
  intro q x e l f;rcases HL a 0 q with⟨n,_⟩|⟨_,p⟩
  .omega
  .unfold lO at f;rw[p,Xv]at f;rcases aW q a.length with k|s
   .have u:(a[q]).jL=true:=List.all_eq_true.1 A _ (List.getElem_mem k);have c:a.getD q .fW=a[q]:=by simp[k]
    rw[c]at f;rcases f with f|f<;>rw[f]at u<;>simp[SV.jL]at u
   .have c:a.getD q .fW=.fW:=by simp[cN s]
    rw[c]at f;simp at f
 have I:Bx d (uE 0 a) b:=⟨λ_ _ _ _ j=>absurd j v,λ_ _ _ _ _ _ _ _ _ j=>absurd j v,λ_ _ _ _ j=>absurd j v⟩
 refine Code.wp_mono ?_ (Up z K O w m hd _ b _ _ w j L I U (pD.az w))
 intro e s k c
 obtain⟨B,H,u,J,T,W,c⟩:=c.aS
 have C:∀(c:Xm h r H k.heap R),s.defers=[]/\∃D,(results i s.tmps).run g k=.ok D k/\∃F,Ending.returned D=.returned F/\pD w k/\R F k.heap:=by
  intro c;refine⟨u.defers,?_⟩;obtain⟨l,n,p⟩:=Il z u r _ k J c;have Q:(results i s.tmps).run g k=.ok (if j:(l.map SV.v).toArray.size=1 then(l.map SV.v).toArray[0]else .tuple (l.map SV.v).toArray) k:=by
   rw[Rg,S,UC];simp only[Sem.run_bind,Sem.run_map];rw[p];rfl
  refine⟨_,Q,_,rfl,T,?_⟩;cases l with
  |nil=>exact n
  |cons V l=>cases l with
   |nil=>exact n
   |cons Y l=>exact n
 cases e with
 |normal=>exact C c
 |ret=>exact C c
 |exit V=>exact c.elim
 |goto V=>exact c.elim
 |panic m=>exact absurd rfl (B.1 m)
 |outgrown=>exact absurd rfl B.2
end Go.Vc
end
section
namespace Go.Vc
abbrev vi(n:Int):Value:=.int .i64 n
abbrev vb(b:Bool):Value:=.bool b
abbrev vp(b o:Nat):Value:=.pointer (some ⟨b,o,none⟩)
def OB(f:Func):Code:=
 match f.body with
 |some c=>c
 |none=>.skip
end Go.Vc
end
section
namespace Go.Vc
variable{a p:Prop}{m c d:E}{b o k f n:Nat}{v:Value}{l:List Nat}{s:O}{P:Program}{K e:Value->E->Prop}
structure J(m c:E):Prop where
 size:m.size<=c.size
 same:∀b,b<m.size->c[b]? =m[b]?
def J.az(m:E):J m m:=⟨ad _,λ_ _=>rfl⟩
def J.trans{a b c:E}(h:J a b)(k:J b c):J a c:=
 ⟨bI h.size k.size,λi d=>(k.same i (aO d h.size)).trans (h.same i d)⟩
def J.push(m:E)(o:Obj):J m (m.push o):=
 ⟨aL,λb a=>by rw[mP,ae V]⟩
def J.aK{a:E}(h:J a m)(o:Obj):J a (m.push o):=h.trans (J.push m o)
def J.ah{a:E}(h:J a m)(d:a.size<=b)(o:Nat)(l:List Ce):J a (ah m b o l):=
 ⟨by rw[av];exact h.size,λj c=>by rw[bd l m b o V];exact h.same j c⟩
def J.af(h:J m c)(a:af m b o=some v):af c b o=some v:=by
 rw[aE (h.same b (lB a))];exact a
def J.iD(h:J m c){l:List Ce}(e:fR m b o l):fR c b o l:=λi a d=>h.af (e i a d)
def cD.ext(h:J m c){e:Nat}{l:List Ce}(a:cD m b e l):cD c b e l:=by
 unfold cD at*;rw[h.same b (Array.getElem?_eq_some_iff.1 a).1];exact a
structure eT{α:Type}(m:E)(sz:Nat)(R:List Ce->α->Prop)(s:O)(l:List α):Prop where
 len:s.len=l.length
 cap:s.len<=s.cap
 gV:s.len<=9223372036854775807
 iD:∀(k:Nat)(x:α),l[k]? =some x->∃cs,R cs x/\fR m s.D (s.off+k*sz) cs
def eT.mono{α:Type}{d:Nat}{R b:List Ce->α->Prop}{l:List α}(h:eT m d R s l)(j:J m c)(g:∀a x,R a x->b a x):eT c d b s l:=
 ⟨h.len,h.cap,h.gV,λk x i=>let⟨a,e,f⟩:=h.iD k x i;⟨a,g _ _ e,j.iD f⟩⟩
def UJ(a:List Ce)(n:Int):Prop:=a=[.i n]
abbrev ap(m:E)(s:O)(l:List Int):Prop:=eT m 1 UJ s l
def ap.aG{l:List Int}(h:ap m s l){x:Int}(a:l[k]? =some x):af m s.D (s.off+k*1)=some (vi x):=by
 obtain⟨c,rfl,b⟩:=h.iD k x a;exact b 0 (.i x) rfl
def ap.ext(a:J m c){l:List Int}(h:ap m s l):ap c s l:=h.mono a λ_ _ h=>h
def dB{α:Type}{l:List α}(h:k<l.length):∃x,l[k]? =some x:=⟨l[k],by simp[h]⟩
def cG{α:Type}(l:List α)(k:Nat)(h:k<l.length:=by(omega)):∃x,l[k]? =some x:=dB h
def oh(x:a)(h:a->p:=by(omega)):p:=h x
def Ps{b:Prop}(x:a)(y:b)(h:a->b->p:=by(omega)):p:=h x y
def sx(h:a=False:=by(simp))(x:a):p:=(h▸x:False).elim
def aw{α:Type}{l:List α}{x:α}(h:l[k]? =some x):k<l.length:=(List.getElem?_eq_some_iff.1 h).1
def aU{α:Type}{l:List α}{x:α}(h:l[k]? =some x):l.take (k+1)=l.take k++[x]:=by
 rw[List.take_add_one,h];rfl
def bX{α:Type}{l:List α}(h:l.length<=k):l.take k=l:=nG h
def HA(P:Program)(f:Nat)(a:List Value)(m:E)(v:Value):Prop:=aN P f a m λb c=>b=v/\J m c
def aN.post{a:List Value}(h:aN P f a m K)(b:∀v c,K v c->e v c):aN P f a m e:=h.mono b
def HA.then{a:List Value}(h:HA P f a m v)(d:∀c,J m c->K v c):aN P f a m K:=
 h.mono λ_ _⟨b,e⟩=>b▸d _ e
def O.BR{t:O}:s.v=t.v<->s=t:=by
 refine⟨λh=>?_,λh=>h▸rfl⟩;cases s<;>cases t<;>simp_all [O.v]
def J.dq(h:J m c)(d:∀b∈l,b<m.size):eF l m c:=λb a=>h.same b (d b a)
def J.lt(h:J m c)(a:b<m.size):b<c.size:=aO a h.size
def J.da(h:J m c)(a:Vc.af m b o=some v):Vc.af c b o=Vc.af m b o:=by rw[h.af a,a]
def jW(h:k<n)(a:n<=9223372036854775807):cO ((k:Int)+1)=((k+1:Nat):Int):=by rw[aP V V];rfl
def DI(h:k<n):((n:Int) -((k+1:Nat):Int)).toNat<((n:Int) -(k:Int)).toNat:=V
def dT(g:n<=9223372036854775807){d:(Int->E->Prop)->(Int->E->Nat)->Int->E->Prop}(Q:Nat->E->Prop)(e:Q 0 m)
 (h:∀(k:Nat)(a:E)(I:Int->E->Prop)(μ:Int->E->Nat),k<=n->Q k a->
  (k<n->∀c,Q (k+1) c->I (cO ((k:Int)+1)) c/\μ (cO ((k:Int)+1)) c<μ k a)->d I μ k a):
 ∃(I:Int->E->Prop)(μ:Int->E->Nat),I 0 m/\∀i a,I i a->d I μ i a:=by
 refine⟨λi c=>∃k:Nat,i=k/\k<=n/\Q k c,λi _=>(n -i).toNat,⟨0,rfl,dH _,e⟩,?_⟩
 rintro i a ⟨k,rfl,f,j⟩
 refine h k a _ _ f j λb c l=>?_
 rw[jW b g]
 exact⟨⟨k+1,rfl,b,l⟩,DI b⟩
def ez{σ:Type}(l:n<=9223372036854775807){f:σ}{e:(σ->Int->E->Prop)->(σ->Int->E->Nat)->σ->Int->E->Prop}(Q:Nat->σ->E->Prop)(g:Q 0 f m)
 (h:∀(k:Nat)(s:σ)(a:E)(I:σ->Int->E->Prop)(μ:σ->Int->E->Nat),k<=n->Q k s a->
  (k<n->∀b c,Q (k+1) b c->I b (cO ((k:Int)+1)) c/\μ b (cO ((k:Int)+1)) c<μ s k a)->e I μ s k a):
 ∃(I:σ->Int->E->Prop)(μ:σ->Int->E->Nat),I f 0 m/\∀s i a,I s i a->e I μ s i a:=by
 refine⟨λs i c=>∃k:Nat,i=k/\k<=n/\Q k s c,λ_ i _=>(n -i).toNat,⟨0,rfl,dH _,g⟩,?_⟩
 rintro s i a ⟨k,rfl,j,o⟩
 refine h k s a _ _ j o λd b c p=>?_
 rw[jW d l]
 exact⟨⟨k+1,rfl,d,p⟩,DI d⟩
def dt(P:Program)(f:Nat)(a:List Value)(m:E)(p:Prop):Prop:=aN P f a m λv c=>∃b:Bool,v=.bool b/\(b=true<->p)/\J m c
def dt.then{a:List Value}(h:dt P f a m p)(g:∀(b:Bool) c,(b=true<->p)->J m c->K (.bool b) c):aN P f a m K:=
 h.mono λ_ _⟨b,e,d,i⟩=>e▸g b _ d i
def dt.aH{e:List Value}(i:dt P f e m p)(g:J d m)(q:∀b∈l,b<d.size)
 (o:∀(b:Bool) c,(b=true<->p)->J m c->J d c->K (.bool b) c):aN P f e m λv c=>eF l m c/\K v c:=
 i.mono λ_ _⟨b,n,j,a⟩=>⟨a.dq λh k=>g.lt (q h k),n▸o b _ j a (g.trans a)⟩
def HA.aH{e:List Value}(i:HA P f e m v)(g:J d m)(o:∀b∈l,b<d.size)
 (n:∀c,J m c->J d c->K v c):aN P f e m λv c=>eF l m c/\K v c:=
 i.mono λ_ _⟨k,a⟩=>⟨a.dq λh j=>g.lt (o h j),k▸n _ a (g.trans a)⟩
def aN.aH{a:List Value}(j:aN P f a m K)(o:J d m)(n:∀b∈l,b<d.size)
 (g:∀v c,K v c->J m c/\e v c):aN P f a m λv c=>eF l m c/\e v c:=
 j.mono λv c h=>⟨(g v c h).1.dq λi k=>o.lt (n i k),(g v c h).2⟩
def eU{b:Bool}(h:b=true<->p)(d:J m c):∃a:Bool,Value.bool b=.bool a/\(a=true<->p)/\J m c:=⟨b,rfl,h,d⟩
def bV(h:¬p)(b:J m c):∃a:Bool,Value.bool false=.bool a/\(a=true<->p)/\J m c:=⟨false,rfl,by simp[h],b⟩
def iR(h:p)(b:J m c):∃a:Bool,Value.bool true=.bool a/\(a=true<->p)/\J m c:=⟨true,rfl,by simp[h],b⟩
def nb{b:Bool}(a:b=true<->p)(h:(!b)=true):¬p:=λc=>by simp[a.2 c]at h
def yb{b:Bool}(a:b=true<->p)(h:(!b)=false):p:=a.1 (by simpa using h)
def fb{b:Bool}(a:b=true<->p)(h:b=false):¬p:=λc=>by simp[a.2 c]at h
def bB{α:Type}{l:List α}{x:α}{p:α->Prop}(c:l[k]? =some x)(h:∀y∈l.take k,p y)(b:p x):∀y∈l.take (k+1),p y:=by
 rw[aU c];intro y a;rcases List.mem_append.1 a with a|a
 .exact h y a
 .simp at a;subst a;exact b
def db{α:Type}{l:List α}{p:α->Prop}(a:l.length<=k)(h:∀y∈l.take k,p y):∀y∈l,p y:=by rw[<-bX a];exact h
def aq{α:Type}{l:List α}{x:α}(h:l[k]? =some x):x∈l:=iA h
end Go.Vc
end
section
namespace Go.Vc
variable{m:E}{s:O}{k:Nat}
structure bz where
 tf:Int
 to:Int
 cons:List (List Int)
structure Instr where
 op:Int
 dst:Int
 bQ:Int
 bZ:Int
 args:List Int
 eM:List Int
structure dy where
 params:List Int
 cR:List Int
 aT:Int
 ak:Int
 dp:List Instr
structure cT where
 bo:List bz
 cF:List dy
def mR(m:E)(a:List Ce)(c:List Int):Prop:=∃f,a=[.s f]/\ap m f c
def iO(m:E)(a:List Ce)(d:bz):Prop:=∃f,a=[.i d.tf,.i d.to,.s f]/\eT m 1 (mR m) f d.cons
def dR(m:E)(b:List Ce)(x:Instr):Prop:=∃a j,b=[.i x.op,.i x.dst,.i x.bQ,.i x.bZ,.s a,.s j]/\ap m a x.args/\ap m j x.eM
def lx(m:E)(b:List Ce)(p:dy):Prop:=
 ∃a l c,b=[.s a,.s l,.i p.aT,.i p.ak,.s c]/\ap m a p.params/\ap m l p.cR/\eT m 6 (dR m) c p.dp
abbrev pw(m:E)(s:O)(l:List (List Int)):Prop:=eT m 1 (mR m) s l
abbrev cx(m:E)(s:O)(l:List bz):Prop:=eT m 3 (iO m) s l
abbrev fj(m:E)(s:O)(l:List Instr):Prop:=eT m 6 (dR m) s l
abbrev iK(m:E)(s:O)(l:List dy):Prop:=eT m 5 (lx m) s l
structure fg(m:E)(d p:O)(im:cT):Prop where
 bo:cx m d im.bo
 cF:iK m p im.cF
def mR.ext{m b:E}(g:J m b)(a:List Ce)(c:List Int):mR m a c->mR b a c:=λ⟨f,d,e⟩=>⟨f,d,e.ext g⟩
def pw.ext{m b:E}(a:J m b){s:O}{l:List (List Int)}(h:pw m s l):pw b s l:=h.mono a (mR.ext a)
def iO.ext{m b:E}(g:J m b)(a:List Ce)(c:bz):iO m a c->iO b a c:=λ⟨f,d,e⟩=>⟨f,d,pw.ext g e⟩
def cx.ext{m b:E}(a:J m b){s:O}{l:List bz}(h:cx m s l):cx b s l:=h.mono a (iO.ext a)
def dR.ext{m d:E}(b:J m d)(a:List Ce)(c:Instr):dR m a c->dR d a c:=λ⟨e,j,f,g,h⟩=>⟨e,j,f,g.ext b,h.ext b⟩
def fj.ext{m b:E}(a:J m b){s:O}{l:List Instr}(h:fj m s l):fj b s l:=h.mono a (dR.ext a)
def lx.ext{m d:E}(a:J m d)(b:List Ce)(c:dy):lx m b c->lx d b c:=λ⟨e,l,c,f,g,h,i⟩=>⟨e,l,c,f,g.ext a,h.ext a,fj.ext a i⟩
def iK.ext{m b:E}(a:J m b){s:O}{l:List dy}(h:iK m s l):iK b s l:=h.mono a (lx.ext a)
def fg.ext{m c:E}(a:J m c){d p:O}{b:cT}(h:fg m d p b):fg c d p b:=⟨cx.ext a h.bo,iK.ext a h.cF⟩
def pw.aG{l:List (List Int)}(h:pw m s l){x:List Int}(b:l[k]? =some x):
 ∃f,ap m f x/\af m s.D (s.off+k*1)=some (O.v f):=by
 obtain⟨d,⟨f,rfl,a⟩,c⟩:=h.iD k x b
 exact⟨f,a,c 0 (.s f) rfl⟩
def cx.aG{l:List bz}(h:cx m s l){x:bz}(c:l[k]? =some x):
 ∃f,pw m f x.cons/\af m s.D (s.off+k*3)=some (vi x.tf)/\af m s.D (s.off+k*3+1)=some (vi x.to)/\af m s.D (s.off+k*3+2)=some (O.v f):=by
 obtain⟨d,⟨f,rfl,b⟩,a⟩:=h.iD k x c
 exact⟨f,b,a 0 (.i x.tf) rfl,a 1 (.i x.to) rfl,a 2 (.s f) rfl⟩
def fj.aG{l:List Instr}(h:fj m s l){x:Instr}(e:l[k]? =some x):
 ∃b j,ap m b x.args/\ap m j x.eM/\af m s.D (s.off+k*6)=some (vi x.op)/\af m s.D (s.off+k*6+1)=some (vi x.dst)/\af m s.D (s.off+k*6+2)=some (vi x.bQ)/\
  af m s.D (s.off+k*6+3)=some (vi x.bZ)/\af m s.D (s.off+k*6+4)=some (O.v b)/\af m s.D (s.off+k*6+5)=some (O.v j):=by
 obtain⟨f,⟨b,j,rfl,c,d⟩,a⟩:=h.iD k x e
 exact⟨b,j,c,d,a 0 (.i x.op) rfl,a 1 (.i x.dst) rfl,a 2 (.i x.bQ) rfl,a 3 (.i x.bZ) rfl,a 4 (.s b) rfl,a 5 (.s j) rfl⟩
def iK.aG{l:List dy}(h:iK m s l){x:dy}(i:l[k]? =some x):
 ∃a b c,ap m a x.params/\ap m b x.cR/\fj m c x.dp/\af m s.D (s.off+k*5)=some (O.v a)/\af m s.D (s.off+k*5+1)=some (O.v b)/\af m s.D (s.off+k*5+2)=some (vi x.aT)/\
  af m s.D (s.off+k*5+3)=some (vi x.ak)/\af m s.D (s.off+k*5+4)=some (O.v c):=by
 obtain⟨j,⟨a,b,c,rfl,e,f,g⟩,d⟩:=h.iD k x i
 exact⟨a,b,c,e,f,g,d 0 (.s a) rfl,d 1 (.s b) rfl,d 2 (.i x.aT) rfl,d 3 (.i x.ak) rfl,d 4 (.s c) rfl⟩
end Go.Vc
end
section
namespace Go.Vc
variable{g a:E}{f:Nat}{s:O}{l:List Ce}{d:List (List Ce)}
structure gY(g a:E)(f sz:Nat)(s:O)(l:List Ce):Prop where
 len:l.length=s.len*sz
 aG:s=.nil\/∃b c tail,s=.mk b 0 s.len c/\g.size<=b/\cD a b f (l++tail)/\(l++tail).length=c*sz/\s.len<=c
def gY.nil(g a:E)(f b:Nat):gY g a f b .nil []:=⟨aL,Or.inl rfl⟩
def gY.new(h:J g a)(f c:Nat)(l:List Ce)(k:Nat)(b:l.length=k*c):gY g (a.push (.cells (bt l) f)) f c (.mk a.size 0 k k) l:=
 ⟨b,Or.inr ⟨a.size,k,[],rfl,h.size,by rw[dX];exact cD.push _ _ _,by simpa using b,ad _⟩⟩
def gY.congr{g a d:E}{f e:Nat}{s:O}{l:List Ce}(h:gY g a f e s l)(c:d[s.D]? =a[s.D]?):gY g d f e s l:=by
 refine⟨h.len,?_⟩;rcases h.aG with b|⟨i,j,tail,b,h2,h3,h4,h5⟩
 .exact Or.inl b
 .refine Or.inr ⟨i,j,tail,b,h2,h3.congr ?_,h4,h5⟩;rw[b]at c;exact c
def gY.lt{g a:E}{f c:Nat}{s:O}{l:List Ce}(h:gY g a f c s l):s=.nil\/s.D<a.size:=by
 rcases h.aG with b|⟨d,e,tail,b,h2,h3,h4,h5⟩
 .exact Or.inl b
 .rw[b];exact Or.inr h3.lt
def gY.ext{c:E}{d:Nat}(h:gY g a f d s l)(e:J a c):gY g c f d s l:=by
 rcases h.lt with b|b
 .subst b;exact⟨h.len,Or.inl rfl⟩
 .exact h.congr (e.same _ b)
def gY.cv{c:E}{d:Nat}(h:gY c a f d s l)(j:g.size<=c.size):gY g a f d s l:=by
 refine⟨h.len,?_⟩;rcases h.aG with b|⟨e,i,tail,b,h2,h3,h4,h5⟩
 .exact Or.inl b
 .exact Or.inr ⟨e,i,tail,b,bI j h2,h3,h4,h5⟩
def gY.D{c:Nat}(h:gY g a f c s l):s=.nil\/g.size<=s.D:=by
 rcases h.aG with b|⟨d,e,tail,b,h2,h3,h4,h5⟩
 .exact Or.inl b
 .rw[b];exact Or.inr h2
def fR.MZ{b o:Nat}{r:List Ce}(h:fR a b o (l++r)):fR a b o l:=λi d c=>h i d (by rw[ax (aw c)];exact c)
def gY.iD{g a:E}{f e:Nat}{s:O}{l:List Ce}(h:gY g a f e s l):fR a s.D s.off l:=by
 rcases h.aG with b|⟨i,c,tail,b,h2,h3,h4,h5⟩
 .have:l=[]:=List.length_eq_zero_iff.1 (by rw[h.len,b];simp);subst this;intro j c d;simp at d
 .rw[b];exact h3.iD.MZ
def Cl(l a tail:List Ce)(h:a.length<=tail.length):je (l++tail) l.length a=l++a++tail.drop a.length:=by
 apply gX;intro i;rw[wt];simp only[be];by_cases b:l.length<=i/\i<l.length+a.length/\i<l.length+tail.length
 .rw[an b,fE,aJ b.1,ax V]
 .rw[ae b];by_cases c:i<l.length
  .rw[ax c,fE,ax c]
  .rw[aJ V,fE,aJ V,aJ V,sA];congr 1;omega
def gY.append{zs:List Ce}{v:Nat}{x:O}{d:List Ce}{K:O->E->Prop}(j:gY g a f zs.length s l)(p:J g a)
 (q:d.length=x.len*zs.length)(F:fR a x.D x.off d)(t:(s.len+x.len)*v<=140737488355328)
 (u:∀k n,gY g n f zs.length k (l++d)->J g n->k.len=s.len+x.len->a.size<=n.size->(∀c,c<a.size->(s≠.nil->c≠s.D)->n[c]? =a[c]?)->((s=.nil/\k=.nil)\/(s≠.nil/\k.D=s.D/\k≠.nil)\/k.D=a.size)->K k n):
 jO a f zs v s x K:=by
 refine⟨d,q,F,λC=>?_,λI=>⟨t,l,j.len,j.iD,λi y=>?_⟩⟩
 .rcases j.aG with h|⟨c,i,tail,h,h2,h3,h4,h5⟩
  .subst h
   have w:x.len=0:=by simpa using C
   have A:d=[]:=List.length_eq_zero_iff.1 (by rw[q,w];simp)
   subst A
   refine⟨λB z=>by simp at z,?_⟩
   exact u .nil _ ⟨by rw[dX];exact j.len,Or.inl rfl⟩ (by simpa[ah]using p) (by simp[w]) (uf (av _ _ _ _).symm) (λc t _=>by simp[ah]) (Or.inl ⟨rfl,rfl⟩)
  .have z:=j.len
   have H:s.cap=i:=by rw[h];rfl
   rw[h]
   simp only[O.jD,O.mZ,O.gH,bT]
   simp only[be]at h4
   have B:d.length<=tail.length:=by
    have A:(s.len+x.len)*zs.length<=i*zs.length:=dg _ V;rw[gQ]at A;omega
   refine⟨h3.fL (by simp only[be];omega),?_⟩
   have w:=cD.ah (m:=a) (b:=c) (e:=f) (r:=d) (o:=s.len*zs.length) h3
   rw[<-z,Cl l d tail B]at w
   refine u _ _ ⟨?_,Or.inr ⟨c,i,tail.drop d.length,rfl,h2,?_,?_,?_⟩⟩ (p.ah h2 _ _) aL (uf (av _ _ _ _).symm) (λG _ D=>bd _ _ _ _ ?_) (Or.inr (Or.inl ⟨by rw[h];simp,by rw[h];rfl,aL⟩))
   .simp only[be,O.gH,gQ];omega
   .rw[<-z];exact w
   .simp only[be,List.length_drop];omega
   .simp only[O.gH];omega
   .have:=D (by rw[h];simp)
    rw[h]at this;exact this
 .refine u _ _ ⟨?_,Or.inr ⟨a.size,i,mK zs (i -(s.len+x.len)),rfl,p.size,cD.push _ _ _,?_,by simpa using y⟩⟩ (p.aK _) aL aL (λc t _=>by rw[mP,ae V]) (Or.inr (Or.inr rfl))
  .simp only[be,O.gH,gQ,j.len,q]
  .simp only[be,rQ,j.len,q]
   rw[Nat.sub_mul,<-gQ]
   have:(s.len+x.len)*zs.length<=i*zs.length:=dg _ y
   omega
def ap.gD{l:List Int}(h:gY g a f 1 s (l.map Ce.i))(n:l.length<=9223372036854775807):ap a s l:=by
 have i:s.len=l.length:=by have:=h.len;simp at this;omega
 refine⟨i,?_,V,λk x e=>⟨[.i x],rfl,λj d c=>?_⟩⟩
 .rcases h.aG with b|⟨m,d,tail,b,h2,h3,h4,h5⟩
  .rw[b];exact ad _
  .rw[b];exact h5
 .have b:j=0:=by have:=aw c;simp at this;omega
  subst b;simp at c;subst c;have:=h.iD k (.i x) (by simp[e]);simpa using this
def fY{g:Nat}:∀{d:List (List Ce)}(_:∀a∈d,a.length=g){b:Nat}{a:List Ce}(_:d[b]? =some a){i:Nat}{c:Ce}(_:a[i]? =some c),d.flatten[b*g+i]? =some c
 |[],_,b,a,h,_,_,_=>by simp at h
 |x::d,f,0,a,h,i,c,e=>by
  simp at h;subst h;rw[jF,QE,bT,ax (aw e)];exact e
 |x::d,f,b+1,a,h,i,c,e=>by
  have k:x.length=g:=f x bg;rw[jF,aJ (by rw[k,gQ];omega)];have:=fY (d:=d) (λy l=>f y (ai _ l)) (b:=b) (by simpa using h) e;rw[<-this];congr 1;rw[k,gQ];omega
def cw{b:Nat}:∀{d:List (List Ce)},(∀a∈d,a.length=b)->d.flatten.length=d.length*b
 |[],_=>aL
 |x::d,a=>by
  rw[jF,be,cw (λy c=>a y (ai _ c)),a x bg,aZ,gQ];omega
structure gS{α:Type}(sz:Nat)(R:List Ce->α->Prop)(d:List (List Ce))(l:List α):Prop where
 len:d.length=l.length
 size:∀cs∈d,cs.length=sz
 dz:∀(j:Nat)(cs:List Ce)(x:α),d[j]? =some cs->l[j]? =some x->R cs x
def gS.nil{α:Type}(a:Nat)(R:List Ce->α->Prop):gS a R [] []:=⟨rfl,aL,aL⟩
def gS.yV{α:Type}{f:Nat}{R:List Ce->α->Prop}{l:List α}(h:gS f R d l){cs:List Ce}{x:α}(i:cs.length=f)(k:R cs x):gS f R (d++[cs]) (l++[x]):=by
 refine⟨by simp[h.len],λe a=>?_,λj e y a b=>?_⟩
 .rcases List.mem_append.1 a with a|a
  .exact h.size e a
  .simp at a;subst a;exact i
 .rcases aW j d.length with c|c
  .rw[ax c]at a;rw[ax (h.len▸c)]at b;exact h.dz j e y a b
  .rw[aJ c]at a;rw[aJ (by rw[<-h.len];exact c),<-h.len]at b;have g:j -d.length=0:=by have:=aw a;simp at this;omega
   rw[g]at a b;simp at a b;subst a;subst b;exact k
def gS.mono{α:Type}{c:Nat}{R b:List Ce->α->Prop}{l:List α}(h:gS c R d l)(g:∀a x,R a x->b a x):gS c b d l:=
 ⟨h.len,h.size,λj a x e f=>g _ _ (h.dz j a x e f)⟩
def eT.gD{α:Type}{e:Nat}{R:List Ce->α->Prop}{l:List α}(h:gY g a f e s d.flatten)(c:gS e R d l)(q:0<e)(t:l.length<=9223372036854775807):eT a e R s l:=by
 have p:s.len=l.length:=by
  have b:=h.len;rw[cw c.size]at b;have:=Uv q b;rw[<-this,c.len]
 refine⟨p,?_,V,λk x n=>?_⟩
 .rcases h.aG with b|⟨j,i,tail,b,h2,h3,h4,h5⟩
  .rw[b];exact ad _
  .rw[b];exact h5
 .let⟨j,m⟩:=cG d k (by rw[c.len];exact aw n);refine⟨j,c.dz k j x m n,λr i o=>?_⟩;have:=h.iD (k*e+r) i (fY c.size m o);rwa[<-di]at this
end Go.Vc
end
section
namespace Go.Vc
variable{S c:List Nat}{m a d:E}{b o e:Nat}{l:List Ce}{s:O}
def bH(S:List Nat)(m:E):E:=m.mapIdx λb o=>if b∈S then .cells #[] 0 else o
def Le(M a:E):Prop:=∀b o v,af M b o=some v->af a b o=some v
def eQ{v:Value}:af (bH S m) b o=some v<->b∉S/\af m b o=some v:=by
 unfold af bH;rw[XI];cases h:m[b]? with
 |none=>simp
 |some x=>by_cases a:b∈S<;>simp[a]
def Le.az(m:E):Le m m:=λ_ _ _ h=>h
def Le.trans{a b c:E}(h:Le a b)(k:Le b c):Le a c:=λx o v d=>k x o v (h x o v d)
def J.le(h:J m a):Le m a:=λ_ _ _ b=>h.af b
def bA(S:List Nat)(m:E):Le (bH S m) m:=λ_ _ _ h=>(eQ.1 h).2
def pK(h:∀b,b<m.size->b∉S->b∉c/\a[b]? =m[b]?):Le (bH S m) (bH c a):=λb o v i=>by
 let⟨e,d⟩:=eQ.1 i;let⟨f,g⟩:=h b (lB d) e;exact eQ.2 ⟨f,by rw[aE g];exact d⟩
def J.bH(h:J m a)(d:∀b∈c,b∈S\/m.size<=b):Le (bH S m) (bH c a):=
 pK λb e g=>⟨λf=>(d b f).elim g λh=>V,h.same b e⟩
def J.df(h:J m a)(S:List Nat):Le (Vc.bH S m) (Vc.bH S a):=h.bH λ_ b=>Or.inl b
def iV(m:E)(a:∀b∈c,b∈S):Le (bH S m) (bH c m):=(J.az m).bH λb d=>Or.inl (a b d)
def Le.iD{M a:E}(h:Le M a)(e:fR M b o l):fR a b o l:=λi c d=>h _ _ _ (e i c d)
def eT.le{α:Type}{d:Nat}{R c:List Ce->α->Prop}{l:List α}(h:eT m d R s l)(j:Le m a)(g:∀b x,R b x->c b x):eT a d c s l:=
 ⟨h.len,h.cap,h.gV,λk x i=>let⟨b,e,f⟩:=h.iD k x i;⟨b,g _ _ e,j.iD f⟩⟩
def ap.le{m a:E}(b:Le m a){s:O}{l:List Int}(h:ap m s l):ap a s l:=eT.le h b λ_ _ h=>h
def mR.le{m a:E}(g:Le m a)(b:List Ce)(c:List Int):mR m b c->mR a b c:=λ⟨f,d,e⟩=>⟨f,d,e.le g⟩
def iO.le{m a:E}(d:Le m a)(b:List Ce)(c:bz):iO m b c->iO a b c:=λ⟨f,e,g⟩=>⟨f,e,eT.le g d (mR.le d)⟩
def cx.le{m a:E}(b:Le m a){s:O}{l:List bz}(h:cx m s l):cx a s l:=eT.le h b (iO.le b)
def Kw(a:b∉S)(h:fR m b o l):fR (bH S m) b o l:=λi c d=>eQ.2 ⟨a,h i c d⟩
def eT.Ra{α:Type}{a:Nat}{R:List Ce->α->Prop}{c:List (List Ce)}{l:List α}(o:∀b∈S,b<d.size)(h:gY d m e a s c.flatten)(q:gS a R c l)(r:0<a)(p:l.length<=9223372036854775807):eT (bH S m) a R s l:=by
 have H:=eT.gD h q r p;refine⟨H.len,H.cap,H.gV,λt x i=>?_⟩;let⟨j,k,n⟩:=H.iD t x i;rcases h.D with f|f
 .have g:=H.len;have:=aw i;rw[f]at g;simp at g;omega
 .exact⟨j,k,Kw (λg=>oh (o _ g)) n⟩
def ap.Ra{l:List Int}(k:∀b∈S,b<d.size)(h:gY d m e 1 s (l.map Ce.i))(n:l.length<=9223372036854775807):ap (bH S m) s l:=by
 have H:=ap.gD h n;refine⟨H.len,H.cap,H.gV,λo x f=>?_⟩;let⟨g,i,j⟩:=H.iD o x f;rcases h.D with a|a
 .have c:=H.len;have:=aw f;rw[a]at c;simp at c;omega
 .exact⟨g,i,Kw (λc=>oh (k _ c)) j⟩
end Go.Vc
end
section
namespace Go.Vc
variable{X Y S:List Nat}{a b c m d:E}{f:List Ce}{s:O}{k:Nat}
structure Fz(X:List Nat)(m d:E):Prop where
 size:m.size<=d.size
 same:∀b,b<m.size->b∉X->d[b]? =m[b]?
def Fz.az(X:List Nat)(m:E):Fz X m m:=⟨ad _,λ_ _ _=>rfl⟩
def Fz.sq(h:Fz X a b)(k:Fz Y b c)(g:∀y∈Y,y∈X\/a.size<=y):Fz X a c:=
 ⟨bI h.size k.size,λi d e=>(k.same i (aO d h.size) λf=>(g i f).elim e λh=>V).trans (h.same i d e)⟩
def Fz.trans(h:Fz X a b)(k:Fz X b c):Fz X a c:=h.sq k λ_ d=>Or.inl d
def J.fz(h:J m d)(X:List Nat):Fz X m d:=⟨h.size,λb a _=>h.same b a⟩
def Fz.then(h:Fz X a b)(k:J b c):Fz X a c:=h.trans (k.fz X)
def Fz.push{X:List Nat}{a m:E}(h:Fz X a m)(o:Obj):Fz X a (m.push o):=h.then (J.push m o)
def Fz.ext(h:Fz [] m d):J m d:=⟨h.size,λb a=>h.same b a aL⟩
def Fz.DR(h:Fz X m d)(f:∀b∈X,b∈Y\/m.size<=b):Fz Y m d:=⟨h.size,λb a e=>h.same b a λc=>(f b c).elim e λh=>V⟩
def Fz.ah(h:Fz X a m){b:Nat}(c:b∈X\/a.size<=b)(o:Nat)(l:List Ce):Fz X a (ah m b o l):=
 ⟨by rw[av];exact h.size,λj f d=>by
  have e:j≠b:=λe=>by subst e;exact c.elim d λc=>V
  rw[bd l m b o e];exact h.same j f d⟩
def Fz.bH(h:Fz X m d){a:List Nat}(f:∀b∈X,b∈S)(e:∀b∈a,b∈S\/m.size<=b):Le (bH S m) (bH a d):=
 pK λb g c=>⟨λi=>(e b i).elim c λh=>V,h.same b g λj=>c (f b j)⟩
def Fz.df(h:Fz X m d)(a:∀b∈X,b∈S):Le (Vc.bH S m) (Vc.bH S d):=h.bH a λ_ h=>Or.inl h
def Fz.dq(h:Fz X m d){l:List Nat}(c:∀b∈l,b<m.size/\b∉X):eF l m d:=λb a=>h.same b (c b a).1 (c b a).2
inductive Ex where
 |mk (op bQ:Int) (bC:List Ex)
def Ex.op:Ex->Int| .mk o _ _=>o
def Ex.bQ:Ex->Int| .mk _ n _=>n
def Ex.bC:Ex->List Ex| .mk _ _ k=>k
structure MG(β:Type)where
 op:Int
 bQ:Int
 bZ:Int
 args:List Int
 bC:List β
inductive Bk where
 |mk (aB:List (MG Bk)) (aT:Int)
abbrev cU:=MG Bk
def Bk.aB:Bk->List cU| .mk s _=>s
def Bk.aT:Bk->Int| .mk _ r=>r
@[simp] theorem Ex.VZ (o n:Int) (k:List Ex):(Ex.mk o n k).op=o:=rfl
@[simp] theorem Ex.Ub (o n:Int) (k:List Ex):(Ex.mk o n k).bQ=n:=rfl
@[simp] theorem Ex.RW (o n:Int) (k:List Ex):(Ex.mk o n k).bC=k:=rfl
@[simp] theorem Bk.jV (s:List cU) (r:Int):(Bk.mk s r).aB=s:=rfl
@[simp] theorem Bk.jx (s:List cU) (r:Int):(Bk.mk s r).aT=r:=rfl
inductive BW(m:E):List Ce->Ex->Prop
 |mk (op bQ:Int) (bC:List Ex) (s:O) (css:Nat->List Ce) (hl:s.len=bC.length) (hc:s.len<=s.cap) (hm:s.len<=9223372036854775807)
  (hr:∀(k:Nat)(x:Ex),bC[k]? =some x->fR m s.D (s.off+k*3) (css k)) (hk:∀(k:Nat)(x:Ex),bC[k]? =some x->BW m (css k) x):BW m [.i op,.i bQ,.s s] (.mk op bQ bC)
inductive rT(m:E):List Ce->Bk->Prop
 |mk (aB:List (MG Bk)) (r:Int) (s:O) (hl:s.len=aB.length) (hc:s.len<=s.cap) (hm:s.len<=9223372036854775807) (aa ks:Nat->O) (kcs:Nat->Nat->List Ce)
  (hr:∀(k:Nat)(x:MG Bk),aB[k]? =some x->fR m s.D (s.off+k*5) [.i x.op,.i x.bQ,.i x.bZ,.s (aa k),.s (ks k)]/\ap m (aa k) x.args/\(ks k).len=x.bC.length/\(ks k).len<=(ks k).cap/\(ks k).len<=9223372036854775807)
  (hb:∀(k:Nat)(x:MG Bk)(j:Nat)(b:Bk),aB[k]? =some x->x.bC[j]? =some b->fR m (ks k).D ((ks k).off+j*2) (kcs k j))
  (hk:∀(k:Nat)(x:MG Bk)(j:Nat)(b:Bk),aB[k]? =some x->x.bC[j]? =some b->rT m (kcs k j) b):rT m [.s s,.i r] (.mk aB r)
def gC(m:E)(f:List Ce)(x:cU):Prop:=∃a k,f=[.i x.op,.i x.bQ,.i x.bZ,.s a,.s k]/\ap m a x.args/\eT m 2 (rT m) k x.bC
abbrev fH(m:E)(s:O)(l:List Ex):Prop:=eT m 3 (BW m) s l
abbrev eP(m:E)(s:O)(l:List cU):Prop:=eT m 5 (gC m) s l
abbrev nI(m:E)(s:O)(l:List Bk):Prop:=eT m 2 (rT m) s l
def BW.le(h:Le m d){e:Ex}(a:BW m f e):BW d f e:=by
 induction a with
 |mk n bQ bC s b g c i a o l=>exact .mk n bQ bC s b g c i (λk x j=>h.iD (a k x j)) l
def rT.le{m d:E}(h:Le m d){f:List Ce}{b:Bk}(a:rT m f b):rT d f b:=by
 induction a with
 |mk aB t s o n p e ks r a l u q=>
  exact .mk aB t s o n p e ks r (λk x c=>let⟨g,i,j⟩:=a k x c;⟨h.iD g,i.le h,j⟩) (λk x j b c g=>h.iD (l k x j b c g)) q
def eT.choose{α:Type}{m:E}{a:Nat}{R:List Ce->α->Prop}{s:O}{l:List α}(h:eT m a R s l):
 ∃b:Nat->List Ce,∀(k:Nat)(x:α),l[k]? =some x->R (b k) x/\fR m s.D (s.off+k*a) (b k):=by
 have:∀k:Nat,∃f:List Ce,∀x:α,l[k]? =some x->R f x/\fR m s.D (s.off+k*a) f:=λk=>by
  cases e:l[k]? with
  |none=>exact⟨[],λx c=>by simp at c⟩
  |some x=>obtain⟨f,d⟩:=h.iD k x e;exact⟨f,λy c=>by simp at c;exact c▸d⟩
 exact⟨λk=>Classical.choose (this k),λk=>fN (this k)⟩
def BW.aS{e:Ex}(h:BW m f e):∃s,f=[.i e.op,.i e.bQ,.s s]/\fH m s e.bC:=by
 cases h with
 |mk l bQ bC s b g c i j d=>exact⟨s,rfl,g,c,i,λk x a=>⟨b k,d k x a,j k x a⟩⟩
def BW.of{b bQ:Int}{bC:List Ex}(h:fH m s bC):BW m [.i b,.i bQ,.s s] (.mk b bQ bC):=by
 let⟨d,c⟩:=h.choose;exact .mk b bQ bC s d h.len h.cap h.gV (λk x a=>(c k x a).2) λk x a=>(c k x a).1
def rT.aS{b:Bk}(h:rT m f b):∃s,f=[.s s,.i b.aT]/\eP m s b.aB:=by
 cases h with
 |mk aB w s r p t d ks v u o q=>
  exact⟨s,rfl,r,p,t,λk x a=>let⟨e,g,i,l,n⟩:=u k x a;⟨_,⟨d k,ks k,rfl,g,i,l,n,λj b c=>⟨v k j,q k x j b a c,o k x j b a c⟩⟩,e⟩⟩
def rT.of{r:Int}{aB:List cU}(h:eP m s aB):rT m [.s s,.i r] (.mk aB r):=by
 let⟨n,l⟩:=h.choose;have:∀k:Nat,∃(a c:O)(kc:Nat->List Ce),∀x:cU,aB[k]? =some x->n k=[.i x.op,.i x.bQ,.i x.bZ,.s a,.s c]/\ap m a x.args/\(c.len=x.bC.length/\c.len<=c.cap/\c.len<=9223372036854775807)/\
  ∀(j:Nat)(b:Bk),x.bC[j]? =some b->rT m (kc j) b/\fR m c.D (c.off+j*2) (kc j):=λk=>by
  cases o:aB[k]? with
  |none=>exact⟨.nil,.nil,λ_=>[],λx d=>by simp at d⟩
  |some x=>
   obtain⟨⟨a,c,f,g,e⟩,_⟩:=l k x o
   let⟨kc,p⟩:=e.choose
   exact⟨a,c,kc,λy i=>by simp at i;subst i;exact⟨f,g,⟨e.len,e.cap,e.gV⟩,p⟩⟩
 have H:=λk=>fN (fN (fN (this k)));refine .mk aB r s h.len h.cap h.gV (λk=>Classical.choose (this k)) (λk=>Classical.choose (fN (this k))) (λk=>Classical.choose (fN (fN (this k)))) (λk x d=>?_) (λk x j b d i=>((H k x d).2.2.2 j b i).2) λk x j b d i=>((H k x d).2.2.2 j b i).1;obtain⟨f,g,e,_⟩:=H k x d;exact⟨by rw[<-f];exact(l k x d).2,g,e⟩
def gC.le{m d:E}(h:Le m d){f:List Ce}{x:cU}:gC m f x->gC d f x:=λ⟨a,k,b,c,e⟩=>⟨a,k,b,c.le h,eT.le e h λ_ _=>rT.le h⟩
def fH.le{m d:E}(a:Le m d){s:O}{l:List Ex}(h:fH m s l):fH d s l:=eT.le h a λ_ _=>BW.le a
def eP.le{m d:E}(a:Le m d){s:O}{l:List cU}(h:eP m s l):eP d s l:=eT.le h a λ_ _=>gC.le a
def nI.le{m d:E}(a:Le m d){s:O}{l:List Bk}(h:nI m s l):nI d s l:=eT.le h a λ_ _=>rT.le a
def fH.aG{l:List Ex}(h:fH m s l){x:Ex}(b:l[k]? =some x):
 ∃t,fH m t x.bC/\af m s.D (s.off+k*3)=some (vi x.op)/\af m s.D (s.off+k*3+1)=some (vi x.bQ)/\af m s.D (s.off+k*3+2)=some (O.v t):=by
 let⟨f,d,a⟩:=h.iD k x b
 obtain⟨t,rfl,c⟩:=d.aS
 exact⟨t,c,a 0 _ rfl,a 1 _ rfl,a 2 _ rfl⟩
def eP.aG{l:List cU}(h:eP m s l){x:cU}(e:l[k]? =some x):
 ∃a t,ap m a x.args/\nI m t x.bC/\af m s.D (s.off+k*5)=some (vi x.op)/\af m s.D (s.off+k*5+1)=some (vi x.bQ)/\af m s.D (s.off+k*5+2)=some (vi x.bZ)/\af m s.D (s.off+k*5+3)=some (O.v a)/\af m s.D (s.off+k*5+4)=some (O.v t):=by
 obtain⟨f,⟨a,t,rfl,c,d⟩,b⟩:=h.iD k x e
 exact⟨a,t,c,d,b 0 _ rfl,b 1 _ rfl,b 2 _ rfl,b 3 _ rfl,b 4 _ rfl⟩
def nI.aG{l:List Bk}(h:nI m s l){x:Bk}(b:l[k]? =some x):
 ∃t,eP m t x.aB/\af m s.D (s.off+k*2)=some (O.v t)/\af m s.D (s.off+k*2+1)=some (vi x.aT):=by
 let⟨f,d,a⟩:=h.iD k x b
 obtain⟨t,rfl,c⟩:=d.aS
 exact⟨t,c,a 0 _ rfl,a 1 _ rfl⟩
def Bk.w:Bk->Nat
 | .mk aB _=>1+(aB.map λs=>1+s.args.length+(s.bC.map Bk.w).sum).sum
decreasing_by
 rename_i s a _ _
 have b:=oT a
 have c:=oT (by assumption:_∈s.bC)
 have d:SizeOf.sizeOf s.bC<SizeOf.sizeOf s:=by cases s;simp;omega
 simp;omega
def MG.w(s:MG Bk):Nat:=1+s.args.length+(s.bC.map Bk.w).sum
def Bk.Zb(b:Bk):b.w=1+(b.aB.map MG.w).sum:=by
 cases b;rw[Bk.w];rfl
def Ex.n:Ex->Nat
 | .mk _ _ bC=>1+(bC.map Ex.n).sum
end Go.Vc
end
section
namespace Go.Vc
variable{S Y S' X:List Nat}{d a c:E}{b k n h tb:Nat}{s x:O}{g cs i:List Ce}{f:List (List Ce)}{K:O->E->Prop}
structure oG{α:Type}(sz:Nat)(R:E->List Ce->α->Prop):Prop where
 le:∀{M M':E}{cs:List Ce}{x:α},Le M M'->R M cs x->R M' cs x
 len:∀{M:E}{cs:List Ce}{x:α},R M cs x->cs.length=sz
def ug(_:E)(cs:List Ce)(n:Int):Prop:=UJ cs n
def ug.mono:oG 1 ug:=⟨λ_ h=>h,λh=>by rw[h];rfl⟩
def BW.mono:oG 3 BW:=⟨λh=>BW.le h,λh=>by obtain⟨s,rfl,_⟩:=h.aS;rfl⟩
def rT.mono:oG 2 rT:=⟨λh=>rT.le h,λh=>by obtain⟨s,rfl,_⟩:=h.aS;rfl⟩
def gC.mono:oG 5 gC:=⟨λh=>gC.le h,λh=>by obtain⟨_,_,rfl,_⟩:=h;rfl⟩
structure Gr{α:Type}(S:List Nat)(d a:E)(b sz:Nat)(R:E->List Ce->α->Prop)(s:O)(l:List α):Prop where
 iZ:s≠.nil
 aR:∃f,gY d a b sz s f.flatten/\gS sz (R (bH (s.D::S) a)) f l
def Gr.len{α:Type}{S:List Nat}{d a:E}{b e:Nat}{R:E->List Ce->α->Prop}{s:O}{l:List α}(h:Gr S d a b e R s l)(i:0<e):s.len=l.length:=by
 obtain⟨_,f,g,c⟩:=h;have:=g.len;rw[cw c.size]at this;rw[<-c.len,Uv i this]
def Gr.bh{α:Type}{g:Nat}{R:E->List Ce->α->Prop}{l:List α}(h:Gr S d a b g R s l):d.size<=s.D/\s.D<a.size:=by
 let⟨c,f,e,i⟩:=h;exact⟨e.D.resolve_left c,e.lt.resolve_left c⟩
def Gr.new{α:Type}(S:List Nat){d a:E}(h:d.size<=a.size)(b c:Nat)(R:E->List Ce->α->Prop):Gr S d (a.push (.cells (bt []) b)) b c R (.mk a.size 0 0 0) []:=
 ⟨aL,[],(gY.new (J.az a) b c [] 0 aL).cv h,gS.nil _ _⟩
def Gr.eA{α:Type}{g:Nat}{R:E->List Ce->α->Prop}{l:List α}(o:oG g R)(h:Gr S d a b g R s l)(j:Fz Y a c)(i:∀e∈Y,e∈S/\e<d.size):Gr S d c b g R s l:=by
 have q:=h.bh;let⟨k,f,m,n⟩:=h;refine⟨k,f,m.congr (j.same _ q.2 λp=>oh ((i _ p).2)),n.mono λcs x=>o.le ?_⟩;exact j.df λe p=>ai _ (i e p).1
def Gr.NM{α:Type}{g:Nat}{R:E->List Ce->α->Prop}{l:List α}(n:oG g R)(h:Gr S d a b g R s l)(i:Fz Y a c)(o:∀e∈Y,e∈S)(q:s.D∉Y):Gr S d c b g R s l:=by
 have r:=h.bh;let⟨j,f,k,m⟩:=h;exact⟨j,f,k.congr (i.same _ r.2 q),m.mono λcs x=>n.le (i.df λe p=>ai _ (o e p))⟩
def Gr.re{α:Type}{h:Nat}{R:E->List Ce->α->Prop}{l:List α}(o:oG h R)(i:Gr S d a b h R s l)(j:Fz Y a c)(q:∀e∈Y,e∈S)(r:s.D∉Y)(p:∀e∈S',e∈S\/a.size<=e):Gr S' d c b h R s l:=by
 have t:=i.bh;let⟨k,f,m,n⟩:=i;refine⟨k,f,m.congr (j.same _ t.2 r),n.mono λcs x=>o.le (j.bH (λe g=>ai _ (q e g)) λe g=>?_)⟩;rcases List.mem_cons.1 g with g|g
 .exact Or.inl (by rw[g];exact bg)
 .exact(p e g).imp (ai _) id
def Gr.ext{α:Type}{e:Nat}{R:E->List Ce->α->Prop}{l:List α}(f:oG e R)(h:Gr S d a b e R s l)(g:J a c):Gr S d c b e R s l:=
 h.eA f (g.fz []) aL
def Gr.done{α:Type}{c:Nat}{R:E->List Ce->α->Prop}{l:List α}(j:oG c R)(h:Gr S d a b c R s l)(k:∀e∈S,e<d.size)(o:0<c)(n:l.length<=9223372036854775807):eT (bH S a) c (R (bH S a)) s l:=by
 obtain⟨_,f,g,i⟩:=h;exact eT.Ra k g (i.mono λcs x=>j.le (iV a λe m=>ai _ m)) o n
def J.MZ(h:k<=a.size):J (a.extract 0 k) a:=by
 refine⟨bF,λb c=>?_⟩;have d:b<k:=by simp at c;omega
 rw[Array.getElem?_extract];simp;omega
def mg(h:k<=a.size):(a.extract 0 k).size=k:=bF
def Gr.next{α:Type}{F:Nat}{R:E->List Ce->α->Prop}{C D:List α}(G:oG g.length R)(W:0<g.length)
 (y:Gr S d a b g.length R s C)(H:Fz X d a)(u:x.len=f.length)(T:fR a x.D x.off f.flatten)(n:gS g.length (R (bH (s.D::S) a)) f D)(i:(C.length+D.length)*F<=140737488355328)
 (P:∀r c,Gr S d c b g.length R r (C++D)->Fz X d c->(a.size<=c.size/\(r.D=s.D\/a.size<=r.D))->(∀e,e<a.size->e≠s.D->c[e]? =a[e]?)->K r c):jO a b g F s x K:=by
 have Q:=y.len W
 have hy:=y.bh
 let⟨z,w,O,j⟩:=y
 have q:d.size<=a.size:=H.size
 refine gY.append (g:=a.extract 0 d.size) (zs:=g) (d:=f.flatten) (l:=w.flatten) (O.cv (by rw[mg q];exact ad _)) (J.MZ q) ?_ T (by rw[Q,u,n.len];exact i) λr c Y k2 k3 Z k5 B=>?_
 .rw[cw n.size,u]
 have A:∀e,e<a.size->e≠s.D->c[e]? =a[e]? :=λe i k=>k5 e i λ_=>k
 have U:r≠.nil:=by
  rcases B with⟨h,_⟩|⟨_,_,h⟩|h
  .exact absurd h z
  .exact h
  .intro b;rw[b]at h;simp at h;omega
 have L:a.size<=c.size:=Z
 have I:Le (bH (s.D::S) a) (bH (r.D::S) c):=pK λe i k=>by
  simp only[aV,vK]at k;refine⟨?_,A e i k.1⟩;simp only[aV,vK];refine⟨?_,k.2⟩;rcases B with⟨h,_⟩|⟨_,h,_⟩|h
  .exact absurd h z
  .rw[h];exact k.1
  .omega
 refine P r c ⟨U,w++f,?_,?_⟩ ⟨bI q L,λe i u=>?_⟩ ⟨L,?_⟩ A
 .rw[qR]
  exact Y.cv (by rw[mg q];exact ad _)
 .refine⟨by simp[j.len,n.len],λm o=>?_,λM m N t v=>?_⟩
  .rcases List.mem_append.1 o with o|o
   .exact j.size m o
   .exact n.size m o
  .rcases aW M w.length with p|p
   .rw[ax p]at t
    rw[ax (j.len▸p)]at v
    exact G.le I (j.dz M m N t v)
   .rw[aJ p]at t
    rw[aJ (by rw[<-j.len];exact p),<-j.len]at v
    exact G.le I (n.dz _ m N t v)
 .rw[A e (aO i q) V];exact H.same e i u
 .rcases B with⟨h,_⟩|⟨_,h,_⟩|h
  .exact absurd h z
  .exact Or.inl h
  .exact Or.inr V
def Gr.kL{α:Type}{n:Nat}{R:E->List Ce->α->Prop}{m:List α}{k:α}(i:oG g.length R)(z:0<g.length)
 (q:Gr S d a b g.length R s m)(w:Fz X d a)(p:R (bH (s.D::S) a) cs k)(j:(m.length+1)*n<=140737488355328)
 (x:∀r c,Gr S d c b g.length R r (m++[k])->Fz X d c->(a.size<=c.size/\(r.D=s.D\/a.size<=r.D))->(∀f,f<a.size->f≠s.D->c[f]? =a[f]?)->K r c):jO (a.push (.cells (bt cs) b)) b g n s (.mk a.size 0 1 1) K:=by
 have h:=J.push a (.cells (bt cs) b)
 refine Gr.next (f:=[cs]) (D:=[k]) i z (q.ext i h) (w.then h) rfl ?_ ?_ j λr c t u o v=>x r c t u ⟨bI h.size o.1,o.2.imp id (bI h.size)⟩ λf j y=>(v f (aO j h.size) y).trans (h.same f j)
 .have:=(cD.push a (e:=b) (l:=cs)).iD
  simpa using this
 .have:=gS.yV (gS.nil g.length (R (bH (s.D::S) (a.push (.cells (bt cs) b))))) (i.len p) (i.le (h.df _) p)
  simpa using this
def eT.V1{α:Type}{b:Nat}{R:List Ce->α->Prop}{l:List α}(z:∀cs x,R cs x->cs.length=b)(r:eT a b R s l):
 ∃f,s.len=f.length/\fR a s.D s.off f.flatten/\gS b R f l:=by
 let⟨e,k⟩:=r.choose
 have w:∀(c:Nat)(cs:List Ce),((List.range l.length).map e)[c]? =some cs->c<l.length/\cs=e c:=λc cs d=>by
  simp only[cJ,jI]at d;let⟨E,o,B⟩:=d;let⟨t,u⟩:=List.getElem?_eq_some_iff.1 o;simp at t u;subst u;exact⟨t,B.symm⟩
 have m:∀cs∈(List.range l.length).map e,cs.length=b:=λcs D=>by
  let⟨c,d⟩:=List.mem_iff_getElem?.1 D;obtain⟨o,rfl⟩:=w c cs d;let⟨x,h⟩:=dB o;exact z _ _ (k c x h).1
 refine⟨(List.range l.length).map e,by simp[r.len],λi A q=>?_,aL,m,λc cs x d h=>?_⟩
 .rcases j8 b with n|n
  .have g:=aw q
   rw[cw m,n]at g;simp at g
  have g:=aw q
  rw[cw m]at g
  simp at g
  have d:i/b<l.length:=Nat.div_lt_of_lt_mul (by rw[Nat.mul_comm];exact g)
  let⟨x,h⟩:=dB d
  have y:i=i/b*b+i%b:=by rw[Nat.mul_comm];exact(Nat.div_add_mod i b).symm
  have H:=Nat.mod_lt i n
  have G:(e (i/b)).length=b:=z _ _ (k _ x h).1
  let⟨F,v⟩:=cG (e (i/b)) (i%b)
  have p:=fY (d:=(List.range l.length).map e) m (b:=i/b) (a:=e (i/b)) (by simp[d]) v
  rw[<-y,q]at p
  simp at p;subst p
  have C:=(k _ x h).2 _ A v
  rw[y,<-di];exact C
 .obtain⟨_,rfl⟩:=w c cs d
  exact(k c x h).1
def Gr.all{α:Type}{j:Nat}{R:E->List Ce->α->Prop}{l i:List α}(k:oG g.length R)(v:0<g.length)
 (h:Gr S d a b g.length R s l)(t:Fz X d a)(p:eT (bH (s.D::S) a) g.length (R (bH (s.D::S) a)) x i)(q:(l.length+i.length)*j<=140737488355328)
 (u:∀r c,Gr S d c b g.length R r (l++i)->Fz X d c->(a.size<=c.size/\(r.D=s.D\/a.size<=r.D))->(∀e,e<a.size->e≠s.D->c[e]? =a[e]?)->K r c):jO a b g j s x K:=by
 let⟨f,m,n,o⟩:=p.V1 λ_ _ h=>k.len h
 exact Gr.next k v h t m ((bA _ _).iD n) o q u
def Gr.lit{α:Type}{e:Nat}{R:E->List Ce->α->Prop}{l:List α}(j:oG e R)(i:d.size<=a.size)(p:∀g∈S,g<d.size)(k:cs=f.flatten)(m:n=f.length)(h:gS e (R (bH S a)) f l):
 Gr S d (a.push (.cells (bt cs) b)) b e R (.mk a.size 0 n n) l:=by
 subst k m
 refine⟨aL,f,(gY.new (J.az a) b e f.flatten f.length (cw h.size)).cv i,h.mono λo x=>j.le ?_⟩
 exact(J.push a _).bH λg c=>by
  rcases List.mem_cons.1 c with c|c
  .exact Or.inr (by simp[c])
  .exact Or.inl c
def Gr.nK{α:Type}{c:Nat}{R:E->List Ce->α->Prop}{l:List α}(m:oG c R)(h:Gr S d a b c R s l)(n:s.D∉S)(q:0<c)(p:l.length<=9223372036854775807):eT (bH S a) c (R (bH S a)) s l:=by
 obtain⟨_,f,e,g⟩:=h;have H:=eT.gD e (g.mono λcs x=>m.le (iV a λj i=>ai s.D i)) q p;exact⟨H.len,H.cap,H.gV,λk x o=>let⟨cs,i,j⟩:=H.iD k x o;⟨cs,i,Kw n j⟩⟩
def Gr.ne{α:Type}{p:Nat}{R:E->List Ce->α->Prop}{o:List α}(k:Gr S d a b p R s o)(g:cD a h tb i)(n:tb≠b):s.D≠h:=by
 let⟨l,f,m,w⟩:=k;let⟨q,r,tail,j,t,c,u,v⟩:=m.aG.resolve_left l;intro e;rw[j]at e;simp only[O.jD]at e;subst e;unfold cD at g c;rw[g]at c;simp at c;exact n c.2
def Gr.Lv{α β:Type}{q:E}{r c t:Nat}{R:E->List Ce->α->Prop}{g:E->List Ce->β->Prop}{e:O}{o:List α}{p:List β}(j:Gr S d a b r R s o)(k:Gr S' q a c t g e p)(n:c≠b):s.D≠e.D:=by
 let⟨l,f,m,z⟩:=k;let⟨u,v,tail,h,w,i,x,y⟩:=m.aG.resolve_left l;have:=j.ne i n;rw[h];exact this
def Gr.box{α:Type}{L:List Nat}{j y:Nat}{R:E->List Ce->α->Prop}{u:List α}{w:α}{K:E->Prop}(B:oG g.length R)(U:0<g.length)
 (o:Gr S d a b g.length R s u)(C:Fz X d a)(P:R (bH (s.D::S) a) cs w)(k:(u.length+1)*y<=140737488355328)
 (p:cD a h tb i)(hi:j<i.length)(G:tb≠b)(t:d.size<=h/\h∈S)(A:∀e∈L,e<a.size/\e≠h/\e≠s.D)
 (Q:∀r c,Gr S d c b g.length R r (u++[w])->cD c h tb (je i j [.s r])->Fz X d c->a.size<=c.size->(∀e,e<a.size->e≠s.D->e≠h->c[e]? =a[e]?)->K c):
 af (a.push (.cells (bt cs) b)) h j=af a h j/\
 jO (a.push (.cells (bt cs) b)) b g y s (.mk a.size 0 1 1) λr c=>eF L (a.push (.cells (bt cs) b)) c/\fL c h j 1/\(eF L c (ah c h j [.s r])/\K (ah c h j [.s r])):=by
 have D:=p.lt
 have H:=J.push a (.cells (bt cs) b)
 have hy:=o.bh
 refine⟨aE (H.same h D) j,Gr.kL B U o C P k λr c z I W v=>?_⟩
 have q:cD c h tb i:=p.congr (v h D (kG (o.ne p G)))
 have T:=z.ne q G
 have n:∀e,e≠h->(ah c h j [.s r])[e]? =c[e]? :=λe k=>bd _ _ _ _ k
 have Z:=C.size
 have Y:=t.1
 refine⟨λe k=>?_,q.fL V,λe k=>n e (A e k).2.1,Q r _ ?_ (cD.ah (m:=c) q) (I.ah (Or.inr t.1) _ _) (by rw[av];exact W.1) λe l N O=>(n e O).trans (v e l N)⟩
 .have l:=A e k
  rw[v e l.1 l.2.2,H.same e l.1]
 .let⟨M,f,g1,g2⟩:=z
  refine⟨M,f,g1.congr (n _ T),g2.mono λcs x=>B.le ?_⟩
  exact pK λe k F=>⟨F,n e λb=>F (by rw[b];exact ai _ t.2)⟩
def ap.lit(b:Nat)(l:List Int)(d:∀c∈S,c<a.size)(c:cs=l.map Ce.i)(f:n=l.length)(e:l.length<=9223372036854775807):ap (bH S (a.push (.cells (bt cs) b))) (.mk a.size 0 n n) l:=by
 subst c f;have h:=gY.new (J.az a) b 1 (l.map Ce.i) l.length aL;exact ap.Ra d h e
end Go.Vc
end
section
namespace Go.Vc
variable{x y:Operand}{k:SV->Prop}{l h:List Ce}{f:Int->Prop}{r:List Sh}{a:Int}{g:Array (Nat×Operand)}{e:List Oper}{Q:Exit->Fr->E->Prop}{c:Code}
section
variable{P:Program}{T:TT}{G:List Nat}{n:Nat}{A:Pp}{m q:E}{p u:Fr}{b o j i t:Nat}{s:Sh}{d:Option Nat}{v:Value}
def nc(n:Nat):Int:=n
def nce{n:Nat}:nc n=n:=rfl
def VH:Tv T p .len [t] [x] k=match fK T t,ev p x with
 |some ⟨.slice _,_,_⟩,.c (.s s)=>k (.c (.i (nc s.len)))
 |_,_=>False:=rfl
def VI{l:List Nat}:Tv T p .max l [x,y] k=match ev p x,ev p y with
 | .c (.i a),.c (.i b)=>k (.c (.i (if b>a then b else a)))
 |_,_=>False:=rfl
def VJ{l:List Nat}:Tv T p .min l [x,y] k=match ev p x,ev p y with
 | .c (.i a),.c (.i b)=>k (.c (.i (if b<a then b else a)))
 |_,_=>False:=rfl
def RZ(m:E)(k:E->Prop):OV m k=(let q:=m;k q):=rfl
def pa{α:Type}(x:α)(f:α->Prop):Prop:=f x
def SX(s:Sh)(f:s.ty->Prop):Prop:=∃x,f x
def UM(s:Sh)(f:s.ty->Prop):Prop:=∀x,f x
def exI:SX .I f=∃x,pa x f:=rfl
def exU{k:IntKind}:SX (.U k) f=∃x,pa x f:=rfl
def exB{f:Bool->Prop}:SX .T f=∃x,pa x f:=rfl
def Yp{f:O->Prop}:SX .S f=∃x,pa x f:=rfl
def exP{f:Nat×Nat->Prop}:SX .P f=∃x,pa x f:=rfl
def exF{f:Fn×Array Value×Array Value->Prop}:SX .F f=∃x,pa x f:=rfl
def exM{f:Nat->Prop}:SX .M f=∃x,pa x f:=rfl
def alI:UM .I f=∀x,f x:=rfl
def alU{k:IntKind}:UM (.U k) f=∀x,f x:=rfl
def alB{f:Bool->Prop}:UM .T f=∀x,f x:=rfl
def X0{f:O->Prop}:UM .S f=∀x,f x:=rfl
def alP{f:Nat×Nat->Prop}:UM .P f=∀x,f x:=rfl
def alF{f:Fn×Array Value×Array Value->Prop}:UM .F f=∀x,f x:=rfl
def alM{f:Nat->Prop}:UM .M f=∀x,f x:=rfl
def cU8{x:Int}:kM (.int .u8 x)=some (.u .u8 x):=rfl
def z0:mK h 0=[]:=rfl
def z1:mK h (n+1)=h++mK h n:=rfl
def tb{a b:Nat}:Nat.testBit a b=(1&&&(a>>>b)!=0):=rfl
def VC{e:Edge}{a:List Edge}:lD (e::a)=bif Region.binds .any e then 2^e.on|||lD a else lD a:=rfl
def b1:Region.binds .any ⟨i,.data⟩=true:=rfl
def b2:Region.binds .any ⟨i,.chain⟩=true:=rfl
def b3:Region.binds .any ⟨i,.guard⟩=true:=rfl
def b4:Region.binds .any ⟨i,.phase⟩=true:=rfl
def b5{x:Departure}:Region.binds .any ⟨i,.gcOnly x⟩=false:=rfl
def b6{x:Departure}:Region.binds .any ⟨i,.textOnly x⟩=false:=rfl
def RT(c:Ce)(k:List Ce->Prop)(l:List Ce):Prop:=k (c::l)
def Va(k:SV->Prop)(l:List Ce):Prop:=k (.agg l)
def Z2(m:E)(b o j:Nat)(s:Sh)(r:List Sh)(k:List Ce->Prop)(x:s.ty):Prop:=
 af m b (bif j==0 then o else o+j)=some (s.mk x).v/\VW m b o (j+1) r (RT (s.mk x) k)
def Yk{k:List Ce->Prop}:VW m b o j (s::r) k=SX s (Z2 m b o j s r k):=by
 cases j<;>rfl
def Z1(m:E)(b o:Nat)(s:Sh)(k:SV->Prop)(x:s.ty):Prop:=af m b o=some (s.mk x).v/\k (.c (s.mk x))
def TL{t:Nat}:P5 T m t b o k=match fK T t with
 |some ⟨.struct _,a,_⟩=>VW m b o 0 a (Va k)
 |some ⟨.cell,[s],_⟩=>SX s (Z1 m b o s k)
 |some ⟨.slice _,[_],_⟩=>∃x:O,af m b o=some x.v/\k (.c (.s x))
 |_=>False:=rfl
def ile{b:Int}:Int.le a b=(a<=b):=rfl
def Z0(s:O)(z:Nat)(l:Int)(k:SV->Prop)(h:Int):Prop:=Int.le 0 l/\Int.le l h/\Int.le h (nc s.cap)/\k (.c (.s (s.cut l.toNat h.toNat z)))
def Z3(p:Fr)(a:Option Operand)(s:O)(z:Nat)(k:SV->Prop)(l:Int):Prop:=MX p a (nc s.len) (Z0 s z l k)
def Yi{f:Nat}{mk:Nat->SV}:FT T t f o mk k=match fK T t with
 |some ⟨.struct c,_,_⟩=>match Ie c f with
  |some (a,u)=>match fK T u with
   |some b=>bif b.uJ||Nat.beq b.sh.length 0 then False else bif a==0 then k (mk o)else k (mk (o+a))
   |none=>False
  |none=>False
 |_=>False:=by
 have h:∀a,(bif a==0 then k (mk o)else k (mk (o+a)))=k (mk (o+a)):=λa=>by cases a<;>rfl
 simp only[h];rfl
def VG{s:O}{n:Int}:Xf T t s n k=match fK T t with
 |some ⟨.slice e,_,_⟩=>match fK T e with
  |some a=>bif a.uJ then False else Int.le 0 n/\n<nc s.len/\k (.c (.p s.D (s.off+n.toNat*a.sh.length)))
  |none=>False
 |_=>False:=rfl
def RL{s:O}{b a:Option Operand}:Rl T p t s b a k=match fK T t with
 |some ⟨.slice e,_,_⟩=>match fK T e with
  |some c=>bif c.uJ then False else MX p b 0 (Z3 p a s c.sh.length k)
  |none=>False
 |_=>False:=rfl
def RI:rd T p m k (.build t g)=match fK T t with
 |some ⟨.struct a,b,_⟩=>bif vt T a then FJ T p a (b.map Sh.zero) g.toList (Va k)else False
 |_=>False:=rfl
def Z7(s:Sh)(r:List Sh)(k:List Ce->Prop)(x:s.ty):Prop:=UB r (RT (s.mk x) k)
def VE{k:List Ce->Prop}:UB (s::r) k=SX s (Z7 s r k):=rfl
def Yx(a:AV)(k:List AV->Prop)(l:List AV):Prop:=k (a::l)
def Z9(T:TT)(r:List Nat)(k:List AV->Prop)(l:List Ce):Prop:=Sx T r (Yx (.agg l) k)
def Z8(T:TT)(s:Sh)(r:List Nat)(k:List AV->Prop)(x:s.ty):Prop:=Sx T r (Yx (.c (s.mk x)) k)
def VF{r:List Nat}{k:List AV->Prop}:Sx T (t::r) k=match fK T t with
 |some ⟨.struct _,a,_⟩=>UB a (Z9 T r k)
 |some ⟨.cell,[s],_⟩=>SX s (Z8 T s r k)
 |some ⟨.slice _,[_],_⟩=>∃x:O,Sx T r (Yx (.c (.s x)) k)
 |_=>False:=rfl
def Z6(v:Value)(k:SV->Prop)(l:List AV):Prop:=v=.tuple (l.map AV.v).toArray/\k (.Xq l)
def Z5(v:Value)(k:SV->Prop)(l:List Ce):Prop:=v=.agg (l.map Ce.v).toArray/\k (.agg l)
def Z4(v:Value)(s:Sh)(k:SV->Prop)(x:s.ty):Prop:=v=(s.mk x).v/\k (.c (s.mk x))
def VO:Qd T t v k=match fK T t with
 |some ⟨.tuple [],_,_⟩=>k .fW
 |some ⟨.tuple a,_,_⟩=>Sx T a (Z6 v k)
 |some ⟨.struct _,a,_⟩=>UB a (Z5 v k)
 |some ⟨.cell,[s],_⟩=>SX s (Z4 v s k)
 |some ⟨.slice _,[_],_⟩=>∃x:O,v=x.v/\k (.c (.s x))
 |_=>False:=rfl
def Vb(k:Fr->SV->E->Prop)(p:Fr)(m:E)(x:SV):Prop:=k p x m
def inG(G:List Nat)(g:Nat):Prop:=G.elem g=true
def Yv{G:List Nat}{g:Nat}:inG G g=(G.elem g=true):=rfl
def nz(b:Int):Prop:=b≠0
def nze{b:Int}:nz b=(b≠0):=rfl
def VL{b:Int}:rW .quo a b k=(nz b/\k (.c (.i (cO (a.tdiv b))))):=rfl
def VN{b:Int}:rW .rem a b k=(nz b/\k (.c (.i (a.tmod b)))):=rfl
def TG{c:Nat}{f:Operand}{a:List Operand}{k:Fr->SV->E->Prop}:Tz P T G n p m c f a k=match TQ p (a.map (ev p))with
 |none=>False
 |some u=>match ev p f with
  | .c (.fn (.func g) first b)=>bif G.elem g&&a.all (λx=>(ev p x).jL)then
   aN P g (first.toList++(a.map λx=>(ev p x).v)++b.toList) m λv q=>Aw (ME n u []) m q (Qd T c v (Vb k u q))
   else False
  | .c (.fv b)=>bif a.all (λx=>(ev p x).jL)then
   ∃g,b.1=.func g/\inG G g/\aN P g (b.2.1.toList++(a.map λx=>(ev p x).v)++b.2.2.toList) m λv q=>Aw (ME n u []) m q (Qd T c v (Vb k u q))
   else False
  |_=>False:=rfl
def p3(m:E)(k:Fr->SV->E->Prop)(p:Fr)(x:SV):Prop:=k p x m
def p2(m:E)(k:SV->E->Prop)(x:SV):Prop:=k x m
def TN{k:Fr->SV->E->Prop}:SG n p none m t l k=OV (m.push (.cells (bt l) t)) λq=>p3 q k p (.c (.p m.size 0)):=rfl
def TO{j:Nat}{k:Fr->SV->E->Prop}:SG n p (some j) m t l k=match il p (n+j)with
 | .zQ _ _ _=>False
 |_=>OV (m.push (.cells (bt l) t)) λq=>p3 q k ((n+j,.box m.size t l)::p) (.c (.bp (n+j) m.size 0)):=rfl
def Yn{x:SV}{k:Fr->SV->E->Prop}:Pf n p m x l k=match x with
 | .c (.p b o)=>fL m b o l.length/\OV (ah m b o l) λq=>Aw (ME n p []) m q (k p .un q)
 | .c (.bp d b o)=>match il p d with
  | .box a e c=>bif Nat.ble (o+l.length) c.length then ML a b (OV (ah m b o l) λq=>p3 q k ((d,.box a e (je c o l))::p) .un)else False
  | .zQ _ _ _=>False
  |_=>fL m b o l.length/\OV (ah m b o l) λq=>Aw (ME n p []) m q (k p .un q)
 |_=>False:=rfl
def Ym{b:Nat}{k:Fr->SV->E->Prop}:wr P T G n p m d b k (.makeSlice t x y)=match fK T t,ev p x,ev p y with
 |some ⟨.slice e,_,_⟩,.c (.i l),.c (.i c)=>match fK T e with
  |some a=>bif a.uJ then False else Int.le 0 l/\Int.le l c/\Int.le (nc a.bytes*c) 281474976710656/\Int.le c 9223372036854775807/\
   OV (m.push (.cells (bt (mK (a.sh.map Sh.zero) c.toNat)) e)) λq=>p3 q k p (.c (.s (.mk m.size 0 l.toNat c.toNat)))
  |none=>False
 |_,_,_=>False:=rfl
def Yl{a:Nat}{k:Fr->SV->E->Prop}:wr P T G n p m d a k (.makeMap t none)=OV (m.push (.map #[] 0)) λq=>p3 q k p (.c (.mp m.size)):=rfl
def VD{z:Nat}{s x:O}{k:SV->E->Prop}:W7 m z s x k=∃a:List Ce,a.length=Nat.min x.len s.len*z/\fR m x.D x.off a/\fL m s.D s.off a.length/\
 OV (ah m s.D s.off a) λq=>p2 q k (.c (.i (nc (Nat.min x.len s.len)))):=rfl
def ZY(p:Fr)(m:E)(e a:Nat)(k:Fr->SV->E->Prop)(l:List Ce):Prop:=match FQ p l with
 |some u=>OV (m.push (.cells (bt l) e)) λq=>p3 q k u (.c (.s (.mk m.size 0 a a)))
 |none=>False
def Yh{c a:Nat}{k:Fr->SV->E->Prop}:wr P T G n p m d c k (.buildSlice t a g)=match fK T t with
 |some ⟨.slice e,_,_⟩=>match fK T e with
  |some b=>bif b.uJ||!(Nat.ble (a*b.sh.length) 16777216)then False else
   xp T p b.sh.length (mK (b.sh.map Sh.zero) a) g.toList (ZY p m e a k)
  |none=>False
 |_=>False:=rfl
def ZZ(n:Nat)(p:Fr)(m:E)(k:Fr->SV->E->Prop)(x:SV)(q:E):Prop:=Aw (ME n p []) m q (k p x q)
def TH{b:Nat}{u:Nat}{c:List Nat}{k:Fr->SV->E->Prop}:wr P T G n p m d b k (.call ⟨.builtin .copy,⟨[x,y]⟩,⟨u::c⟩⟩)=match fK T u,ev p x,ev p y with
 |some ⟨.slice e,_,_⟩,.c (.s s),.c (.s z)=>match fK T e with
  |some a=>bif a.uJ then False else W7 m a.sh.length s z (ZZ n p m k)
  |none=>False
 |_,_,_=>False:=rfl
def kw(P:Program)(T:TT)(G:List Nat)(n:Nat)(e:List Oper)(d:Option Nat)(jQ:List Oper)(k:Fr->E->Prop)(p:Fr)(x:SV)(m:E):Prop:=sG P T G n e jQ (uh p d x) m k
def kr(P:Program)(T:TT)(G:List Nat)(n:Nat)(e:List Oper)(d:Option Nat)(jQ:List Oper)(k:Fr->E->Prop)(p:Fr)(m:E)(x:SV):Prop:=sG P T G n e jQ (uh p d x) m k
def ky(P:Program)(T:TT)(G:List Nat)(n:Nat)(e:List Oper)(o:Oper)(jQ:List Oper)(k:Fr->E->Prop)(m:E)(p:Fr):Prop:=
 bif Lm o.op then wr P T G n p m o.dst o.type (kw P T G n e o.dst jQ k) o.op else rd T p m (kr P T G n e o.dst jQ k p m) o.op
def kn(P:Program)(T:TT)(G:List Nat)(n:Nat)(e:List Oper)(d:Option Nat)(jQ:List Oper)(k:Fr->E->Prop)(m:E)(p:Fr):Prop:=sG P T G n e jQ (uh p d .un) m k
def VK{o:Oper}{jQ:List Oper}{k:Fr->E->Prop}:sG P T G n e (o::jQ) p m k=
 bif sB n o.dst then gd e p o.guard (ky P T G n e o jQ k m) (kn P T G n e o.dst jQ k m)else False:=rfl
abbrev LL:=List (Nat×List (Nat×Nat))
def ZP(P:Program)(T:TT)(G:List Nat)(n:Nat)(e:List Oper)(c a:List Nat)(b done:Nat)(o:Oper)(i:Nat)(m:E)(L:LL)(k:Fr->E->Prop)(p:Fr)(x:SV):Prop:=
 oR P T G n e c a b (done|||2^i) (uh p o.dst x) m ((i,SY T p o.op)::L) k
def ZS(P:Program)(T:TT)(G:List Nat)(n:Nat)(e:List Oper)(c a:List Nat)(b done:Nat)(o:Oper)(i:Nat)(m:E)(L:LL)(k:Fr->E->Prop)(p:Fr):Prop:=
 rd T p m (ZP P T G n e c a b done o i m L k p) o.op
def Zk(P:Program)(T:TT)(G:List Nat)(n:Nat)(e:List Oper)(c a:List Nat)(b done:Nat)(o:Oper)(i:Nat)(m:E)(L:LL)(k:Fr->E->Prop)(p:Fr):Prop:=
 oR P T G n e c a b (done|||2^i) (uh p o.dst .un) m L k
def ZQ(P:Program)(T:TT)(G:List Nat)(n:Nat)(e:List Oper)(c a:List Nat)(b done:Nat)(o:Oper)(i:Nat)(m:E)(L:LL)(k:Fr->E->Prop)(p:Fr)(x:SV)(q:E):Prop:=
 DP (uj a i) m q L (oR P T G n e c a b (done|||2^i) (uh p o.dst x) q L k)
def ZT(P:Program)(T:TT)(G:List Nat)(n:Nat)(e:List Oper)(c a:List Nat)(b done:Nat)(o:Oper)(i:Nat)(m:E)(L:LL)(k:Fr->E->Prop)(p:Fr):Prop:=
 wr P T G n p m o.dst o.type (ZQ P T G n e c a b done o i m L k) o.op
def ZR(P:Program)(T:TT)(G:List Nat)(n:Nat)(e:List Oper)(c a:List Nat)(b done:Nat)(m:E)(L:LL)(k:Fr->E->Prop)(p:Fr)(i:Nat):Prop:=match Ie e i with
 |some o=>bif sB n o.dst then gd e p o.guard (ZT P T G n e c a b done o i m L k) (Zk P T G n e c a b done o i m L k)else False
 |none=>False
def TJ{a b:List Nat}{c done:Nat}{L:LL}{k:Fr->E->Prop}:oR P T G n e a b (c+1) done p m L k=match xc done 0 e a with
 |some i=>match Ie e i with
  |some o=>bif sB n o.dst then gd e p o.guard (ZS P T G n e a b c done o i m L k) (Zk P T G n e a b c done o i m L k)else False
  |none=>False
 |none=>match pQ done 0 e a with
  |[]=>k p m
  |d=>Ox d (ZR P T G n e a b c done m L k p):=rfl
def TE{f:Nat->Prop}:Ox [i] f=f i:=rfl
def TF{r:List Nat}{f:Nat->Prop}:Ox (i::j::r) f=(f i/\Ox (j::r) f):=rfl
def kq(Q:Exit->Fr->E->Prop)(p:Fr)(m:E):Prop:=Q .normal p m
def VM{e:Array Oper}{a:Bool}:vc P T G n A (.region i e a) p m Q=
 bif a then oR P T G n e.toList (Vi e.toList) (Tw [] e.toList) e.toList.length 0 p m [] (kq Q)
 else sG P T G n e.toList e.toList p m (kq Q):=rfl
def ZW(t:Nat)(s:Sh)(r:List (Nat×Sh))(I:s.ty->HH r)(p:Fr)(k:Fr->(E->Prop)->Prop)(x:s.ty):Prop:=PC r (I x) ((t,.c (s.mk x))::p) k
def VA{r:List (Nat×Sh)}{I:s.ty->HH r}{k:Fr->(E->Prop)->Prop}:PC ((t,s)::r) I p k=UM s (ZW t s r I p k):=rfl
def ZX(t:Nat)(s:Sh)(r:List (Nat×Sh))(I:s.ty->HH r)(μ:s.ty->Ou r)(p:Fr)(k:Fr->(E->Prop)->(E->Nat)->Prop)(x:s.ty):Prop:=PD r (I x) (μ x) ((t,.c (s.mk x))::p) k
def VB{r:List (Nat×Sh)}{I:s.ty->HH r}{μ:s.ty->Ou r}{k:Fr->(E->Prop)->(E->Nat)->Prop}:PD ((t,s)::r) I μ p k=UM s (ZX t s r I μ p k):=rfl
def ks(P:Program)(T:TT)(G:List Nat)(n:Nat)(A:Pp)(b:Code)(Q:Exit->Fr->E->Prop):Exit->Fr->E->Prop
 | .normal,u,q=>vc P T G n A b u q Q
 |e,u,q=>Q e u q
def kc(A:Pp)(b:Code)(p:Fr)(l:List (Nat×Sh))(K:HH l)(Q:Exit->Fr->E->Prop):Exit->Fr->E->Prop
 | .normal,u,q=>UA p u (lg A b) (HK l K u q)
 |e,u,q=>Q e u q
def ki(P:Program)(T:TT)(G:List Nat)(n:Nat)(A:Pp)(b:Code)(Q:Exit->Fr->E->Prop)(u:Fr)(a:E->Prop):Prop:=∀q,a q->vc P T G n A b u q Q
def VP{a b:Code}:vc P T G n A (.seq a b) p m Q=match VY A.U6 b with
 |none=>vc P T G n A a p m (ks P T G n A b Q)
 |some l=>bif pW (oO a) l then∃K:HH l,vc P T G n A a p m (kc A b p l K Q)/\
  PC l K (nF (oO a) (uF n (lg A b) p)) (ki P T G n A b Q)else False:=by
 unfold ks kc ki;rfl
def kb(i:Nat)(Q:Exit->Fr->E->Prop):Exit->Fr->E->Prop
 | .exit j,u,q=>bif Nat.beq j i then Q .normal u q else Q (.exit j) u q
 |e,u,q=>Q e u q
def RH:vc P T G n A (.block i c) p m Q=vc P T G n A c p m (kb i Q):=by
 unfold kb;rfl
def ke(A:Pp)(c:Code)(p:Fr)(l:List (Nat×Sh))(I:HH l)(μ:Ou l)(N:Nat)(Q:Exit->Fr->E->Prop):Exit->Fr->E->Prop
 | .normal,a,b=>UA p a (lg A c) (OA l I μ a b N)
 |e,a,b=>Q e a b
def kl(P:Program)(T:TT)(G:List Nat)(n:Nat)(A:Pp)(c:Code)(p:Fr)(l:List (Nat×Sh))(I:HH l)(μ:Ou l)(Q:Exit->Fr->E->Prop)(u:Fr)(a:E->Prop)(μ':E->Nat):Prop:=
 ∀q,a q->vc P T G n A c u q (ke A c p l I μ (μ' q) Q)
def TM:vc P T G n A (.loop c) p m Q=match VY A.TZ c with
 |none=>False
 |some l=>bif pW (oO c) l then∃(I:HH l)(μ:Ou l),HK l I p m/\
  PD l I μ (nF (oO c) (uF n (lg A c) p)) (kl P T G n A c p l I μ Q)else False:=by
 unfold kl ke;rfl
def kR(m:E)(R:Value->E->Prop)(l:List SV):Prop:=match l with
 |[x]=>R x.v m
 |l=>R (.tuple (l.map SV.v).toArray) m
def kx(x:SV)(k:List SV->Prop)(l:List SV):Prop:=k (x::l)
def kz(T:TT)(p:Fr)(m:E)(r:List ResultVar)(k:List SV->Prop)(x:SV):Prop:=bif x.jL then Gt T p m r (kx x k)else False
def RJ{r:List ResultVar}{k:List SV->Prop}:Gt T p m (.tmp t::r) k=bif (il p t).jL then Gt T p m r (kx (il p t) k)else False:=rfl
def RK{a:Nat}{r:List ResultVar}{k:List SV->Prop}:Gt T p m (.cell a t::r) k=rd T p m (kz T p m r k) (.load t (.tmp a)):=rfl
def kf(T:TT)(a:List ResultVar)(R:Value->E->Prop):Exit->Fr->E->Prop
 | .normal,p,m=>Gt T p m a (kR m R)
 | .ret,p,m=>Gt T p m a (kR m R)
 |_,_,_=>False
def Yj{b:List ResultVar}{a:List SV}{R:Value->E->Prop}:SS P T G A n b c a m R=vc P T G n A c (uE 0 a) m (kf T b R):=by
 unfold kf kR;rfl
end
def Tg(_:Prop):Type:=Prop
def Tg.p{q:Prop}(t:Tg q):Prop:=t
def Tg.lf(q:Prop):Tg q:=q
def Tg.pm{a b:Prop}{h:Tg a=Tg b}:Tg.p (Eq.mpr h (Tg.lf b))=b:=rfl
def rg1:List.range 1=[0]:=rfl
def rg2:List.range 2=[0,1]:=rfl
def rg3:List.range 3=[0,1,2]:=rfl
def rg4:List.range 4=[0,1,2,3]:=rfl
def rg5:List.range 5=[0,1,2,3,4]:=rfl
def rg6:List.range 6=[0,1,2,3,4,5]:=rfl
def rg7:List.range 7=[0,1,2,3,4,5,6]:=rfl
def Tg.pm2{a b c:Prop}{h:Tg a=Tg b}{d:Tg b=Tg c}:Tg.p (Eq.mpr h (Eq.mpr d (Tg.lf c)))=c:=rfl
def Wi(_ _:Prop):Type:=Unit
def mkT{a X:Prop}(_:Wi a X)(t:Tg a)(_:t.p=X):True:=trivial
end Go.Vc
end
namespace Go.Proofs.YtkoifinbblcbiaaGreat
open Go.Vc
section
noncomputable abbrev cq:=Tryz.prog
def W0:TT:=[(0,⟨.tuple [],[],0⟩),
 (3,⟨.cell,[.I],8⟩),
 (4,⟨.cell,[.T],1⟩),
 (5,⟨.cell,[(.U .u8)],1⟩),
 (22,⟨.slice 5,[.S],24⟩),
 (23,⟨.slice 90,[.S],24⟩),
 (24,⟨.slice 43,[.S],24⟩),
 (26,⟨.struct [(0,23),(1,24)],[.S,.S],48⟩),
 (27,⟨.slice 3,[.S],24⟩),
 (28,⟨.slice 46,[.S],24⟩),
 (29,⟨.slice 38,[.S],24⟩),
 (31,⟨.struct [(0,3),(1,3),(2,3),(3,3),(4,27),(5,28),(6,29)],[.I,.I,.I,.I,.S,.S,.S],104⟩),
 (32,⟨.tuple [26,31],[],0⟩),
 (34,⟨.tuple [31,4],[],0⟩),
 (38,⟨.struct [(0,3),(1,3),(2,3),(3,27),(4,27),(5,27)],[.I,.I,.I,.S,.S,.S],96⟩),
 (40,⟨.struct [(0,3),(1,3),(2,3),(3,3),(4,27),(5,27)],[.I,.I,.I,.I,.S,.S],80⟩),
 (41,⟨.slice 40,[.S],24⟩),
 (43,⟨.struct [(0,27),(1,27),(2,3),(3,3),(4,41)],[.S,.S,.I,.I,.S],88⟩),
 (46,⟨.struct [(0,3),(1,3),(2,27)],[.I,.I,.S],40⟩),
 (49,⟨.tuple [26,31,3],[],0⟩),
 (54,⟨.tuple [26,3],[],0⟩),
 (57,⟨.struct [(0,3),(1,3),(2,3),(3,3),(4,3),(5,3),(6,3),(7,3)],[.I,.I,.I,.I,.I,.I,.I,.I],64⟩),
 (58,⟨.tuple [57,4],[],0⟩),
 (63,⟨.cell,[.P],8⟩),
 (68,⟨.struct [(0,26),(2,3),(3,31)],[.S,.S,.I,.I,.I,.I,.I,.S,.S,.S],160⟩),
 (69,⟨.cell,[.P],8⟩),
 (71,⟨.struct [(0,26),(2,31)],[.S,.S,.I,.I,.I,.I,.S,.S,.S],152⟩),
 (87,⟨.struct [(0,22),(1,3)],[.S,.I],32⟩),
 (88,⟨.slice 218,[.S],24⟩),
 (90,⟨.struct [(0,3),(1,3),(2,88)],[.I,.I,.S],40⟩),
 (94,⟨.cell,[.P],8⟩),
 (95,⟨.cell,[.P],8⟩),
 (101,⟨.cell,[.F],8⟩),
 (107,⟨.slice 163,[.S],24⟩),
 (109,⟨.struct [(0,23),(1,107)],[.S,.S],48⟩),
 (110,⟨.tuple [109,4],[],0⟩),
 (113,⟨.tuple [27,4],[],0⟩),
 (120,⟨.cell,[.P],8⟩),
 (122,⟨.slice 175,[.S],24⟩),
 (124,⟨.struct [(0,23),(1,122)],[.S,.S],48⟩),
 (127,⟨.cell,[.P],8⟩),
 (129,⟨.struct [(0,3),(1,3),(2,3),(3,3),(4,3),(5,3),(6,3),(7,3)],[.I,.I,.I,.I,.I,.I,.I,.I],64⟩),
 (130,⟨.tuple [3,3],[],0⟩),
 (135,⟨.tuple [27,27],[],0⟩),
 (140,⟨.slice 46,[.S],24⟩),
 (163,⟨.struct [(0,27),(1,27),(2,3)],[.S,.S,.I],56⟩),
 (167,⟨.tuple [3,4],[],0⟩),
 (171,⟨.slice 173,[.S],24⟩),
 (173,⟨.struct [(0,3),(1,3),(2,171)],[.I,.I,.S],40⟩),
 (175,⟨.struct [(0,27),(1,3),(2,173)],[.S,.I,.I,.I,.S],72⟩),
 (181,⟨.slice 205,[.S],24⟩),
 (183,⟨.struct [(0,23),(1,181)],[.S,.S],48⟩),
 (188,⟨.cell,[.F],8⟩),
 (189,⟨.cell,[.P],8⟩),
 (191,⟨.slice 4,[.S],24⟩),
 (201,⟨.slice 226,[.S],24⟩),
 (203,⟨.struct [(0,201),(1,3)],[.S,.I],32⟩),
 (205,⟨.struct [(0,27),(1,27),(2,3),(3,203)],[.S,.S,.I,.S,.I],88⟩),
 (206,⟨.cell,[.P],8⟩),
 (208,⟨.struct [(0,41)],[.S],24⟩),
 (218,⟨.struct [(0,27)],[.S],24⟩),
 (220,⟨.map 3 3,[.M],8⟩),
 (222,⟨.tuple [3,218],[],0⟩),
 (224,⟨.slice 203,[.S],24⟩),
 (226,⟨.struct [(0,3),(1,3),(2,3),(3,27),(4,224)],[.I,.I,.I,.S,.S],72⟩),
 (229,⟨.cell,[.P],8⟩),
 (230,⟨.tuple [229,4],[],0⟩),
 (233,⟨.struct [(0,27),(1,27),(2,27),(3,27),(4,27),(5,27),(6,27)],[.S,.S,.S,.S,.S,.S,.S],168⟩),
 (259,⟨.slice 27,[.S],24⟩),
 (275,⟨.cell,[.P],8⟩),
 (277,⟨.struct [(0,201),(1,3)],[.S,.I],32⟩)]
abbrev ta:Nat:=4
abbrev Qt:Nat:=22
abbrev dh:Nat:=203
abbrev lZ:Nat:=46
abbrev pp:Nat:=218
abbrev jZ:Nat:=90
abbrev bG:Nat:=173
abbrev dP:Nat:=38
abbrev fq:Nat:=175
abbrev vD:Nat:=26
abbrev dW:Nat:=40
abbrev nl:Nat:=183
abbrev jC:Nat:=43
abbrev kK:Nat:=124
abbrev jS:Nat:=205
abbrev iz:Nat:=31
abbrev gF:Nat:=226
abbrev eC:Nat:=140
abbrev bK:Nat:=68
abbrev qb:Nat:=163
abbrev me:Nat:=109
abbrev aA:Nat:=3
abbrev ye:Nat:=27
abbrev ov:Nat:=208
abbrev BQ:Nat:=233
abbrev lG:Nat:=277
abbrev bL:Nat:=71
abbrev qd:Nat:=87
abbrev Ul:Nat:=5
def Pj:uD cq W0:=by
 unfold uD;kernel_rfl
def GL:List Nat:=List.range' 3 337
def Zm:UH cq GL:=by
 unfold UH;kernel_rfl
def Zn:cq.follows .mixedOrders=true:=by kernel_rfl
def nbq(a b:Nat):Nat.beq a b=(a==b):=by rw[JL];simp
def nbl(a b:Nat):Nat.ble a b=(a -b==0):=by rw[JL];simp;omega
def nbt(a b:Nat):Nat.blt a b=(a+1 -b==0):=by rw[JL];simp[Nat.blt];omega
def gel(g:Nat):List.elem g GL=(3 -g==0&&(g -339==0)):=by rw[JL];simp[GL];omega
section
variable{α β:Type}{a:α}{b:β}
def atl(l:List α):(Array.mk l).toList=l:=rfl
end
section
variable(a b c d e f)
def o1:(Oper.mk a b c d e f).dst=a:=rfl
def o2:(Oper.mk a b c d e f).op=b:=rfl
def o3:(Oper.mk a b c d e f).type=c:=rfl
def o5:(Oper.mk a b c d e f).after=e:=rfl
def o6:(Oper.mk a b c d e f).guard=f:=rfl
end
section
variable(a b c)
def a2:(Pp.mk a b c).TZ=a:=rfl
def a3:(Pp.mk a b c).U6=b:=rfl
def a4:(Pp.mk a b c).eA=c:=rfl
def t1:(TI.mk a b c).H9=a:=rfl
def t2:(TI.mk a b c).sh=b:=rfl
def t3:(TI.mk a b c).bytes=c:=rfl
def g1:(Edge.mk a b).on=a:=rfl
def g2:(Edge.mk a b).ground=b:=rfl
end
def A0:Pp:=⟨[],[],[]⟩
def cI(x:Int):SV:=.c (.i x)
def cS(x:O):SV:=.c (.s x)
def cP(x:Nat×Nat):SV:=.c (.p x.1 x.2)
instance:Coe Int SV:=⟨cI⟩
instance:Coe O SV:=⟨cS⟩
instance:Coe (Nat×Nat) SV:=⟨cP⟩
instance:Coe Int Ce:=⟨.i⟩
instance:Coe O Ce:=⟨.s⟩
def nj(n:Nat){x:TI}(h:fK W0 n=some x:=by cbv):fK W0 n=some x:=h
def tg0:=nj 0
def tg3:=nj 3
def tg4:=nj 4
def tg5:=nj 5
def YH:=nj 22
def YI:=nj 23
def YJ:=nj 24
def YK:=nj 26
def YL:=nj 27
def YM:=nj 28
def YN:=nj 29
def YO:=nj 31
def YP:=nj 32
def YQ:=nj 34
def YR:=nj 38
def YS:=nj 40
def YT:=nj 41
def YU:=nj 43
def YV:=nj 46
def YW:=nj 49
def YX:=nj 54
def YY:=nj 57
def YZ:=nj 58
def Y0:=nj 63
def Y1:=nj 68
def Y2:=nj 69
def Y3:=nj 71
def Y4:=nj 87
def Y5:=nj 88
def Y6:=nj 90
def Y7:=nj 94
def Y8:=nj 95
def V3:=nj 101
def V5:=nj 107
def V6:=nj 109
def V7:=nj 110
def V8:=nj 113
def V9:=nj 120
def Wa:=nj 122
def Wb:=nj 124
def Wc:=nj 127
def Wd:=nj 129
def We:=nj 130
def Wf:=nj 135
def Wg:=nj 140
def Wh:=nj 163
def Wj:=nj 167
def Wk:=nj 171
def Wl:=nj 173
def Wm:=nj 175
def Wn:=nj 181
def Wo:=nj 183
def Wp:=nj 188
def Wq:=nj 189
def Wr:=nj 191
def Ws:=nj 201
def Wt:=nj 203
def Wu:=nj 205
def Wv:=nj 206
def Ww:=nj 208
def Wx:=nj 218
def Wy:=nj 220
def Wz:=nj 222
def WA:=nj 224
def WC:=nj 226
def WD:=nj 229
def WE:=nj 230
def WG:=nj 233
def WH:=nj 259
def WI:=nj 275
def WJ:=nj 277
def cX(m:E)(R:Value->E->Prop)(A:Pp)(a:List SV){f:FuncId}{b:Go.Func}{X:Prop}{c:Code}{n:Nat}{e:List ResultVar}{g:List Value}(k:cq.funcs[f]? =some b)
 (d:(b.body,b.ntmps,b.results)=(some c,n,Array.mk e):=by cbv)
 (i:a.all SV.jL=true:=by kernel_rfl)(l:Nat.ble a.length n=true:=by kernel_rfl)(hd:qA c=true:=by kernel_rfl)
 (o:a.map SV.v=g:=by dsimp only[List.map,cI,cS,cP,SV.v,Ce.v])
 (w:Wi (SS cq W0 GL A n e c a m R) X->True:=by intro w;obtain - :=mkT w (by sym -abstractProof=>simp[gel,A0.eq_1,cI.eq_1,cS.eq_1,cP.eq_1,tg0,tg3,tg4,tg5,YH,YI,YJ,YK,YL,YM,YN,YO,YP,YQ,YR,YS,YT,YU,YV,YW,YX,YY,YZ,Y0,Y1,Y2,Y3,Y4,Y5,Y6,Y7,Y8,V3,V5,V6,V7,V8,V9,Wa,Wb,Wc,Wd,We,Wf,Wg,Wh,Wj,Wk,Wl,Wm,Wn,Wo,Wp,Wq,Wr,Ws,Wt,Wu,Wv,Ww,Wx,Wy,Wz,WA,WC,WD,WE,WG,WH,WI,WJ,nbq,nbl,nbt,atl,o1,o2,o3,o5,o6,a2,a3,a4,t1,t2,t3,g1,g2,cK,fF,cZ,eE,Oj,List.all_nil,aZ,eW,List.elem_cons,Oi,Bool.false_and,Vu,Vt,Bool.true_or,Oh,Mz,Bool.and_true,nX,Option.map_none,iB,jt,my,List.flatMap_nil,List.isEmpty_cons,List.isEmpty_nil,List.any_cons,QA,qT,Nr,uE.eq_1,uE.eq_2,vc.eq_1,vc.eq_4,vc.eq_6,vc.eq_7,vc.eq_8,uN.eq_def,YC.eq_def,V0.eq_def,rc.eq_1,rc.eq_2,LD.eq_def,UA.eq_1,UA.eq_2,uF.eq_1,Dy.eq_1,Dy.eq_2,lg.eq_1,pW.eq_1,pW.eq_2,oO.eq_def,nF.eq_1,nF.eq_2,PD.eq_1,PC.eq_1,OA.eq_1,OA.eq_2,HK.eq_1,HK.eq_2,Q1.eq_def,VY.eq_1,DC.eq_def,lk.eq_1,lk.eq_2,oR.eq_1,DP.eq_1,DP.eq_2,LN.eq_1,LN.eq_2,pQ.eq_def,xc.eq_def,kO.eq_1,od.eq_1,od.eq_2,lD.eq_1,uj.eq_1,uj.eq_2,uj.eq_3,sG.eq_1,zV.eq_1,zV.eq_2,gd.eq_1,gd.eq_2,Lg.eq_1,sB.eq_1,sB.eq_2,Lm.eq_def,wr.eq_1,wr.eq_2,wr.eq_4,wr.eq_6,wr.eq_8,wr.eq_9,wr.eq_10,wr.eq_11,xp.eq_1,xp.eq_2,Sx.eq_1,UB.eq_1,ME.eq_def,Aw.eq_def,rd.eq_1,rd.eq_2,rd.eq_3,rd.eq_4,rd.eq_5,rd.eq_6,rd.eq_7,rd.eq_8,rd.eq_9,rd.eq_10,rd.eq_11,rd.eq_12,rd.eq_13,rd.eq_15,SY.eq_def,VH,VI,VJ,NH.eq_1,Hp.eq_1,Hp.eq_2,OL.eq_1,MX.eq_1,MX.eq_2,vt.eq_1,vt.eq_2,FJ.eq_1,FJ.eq_2,mh.eq_1,mh.eq_2,mh.eq_3,mh.eq_4,mh.eq_5,SV.cells.eq_def,Zs.eq_def,Vd.eq_def,UQ.eq_def,rW.eq_1,rW.eq_2,rW.eq_3,rW.eq_6,rW.eq_7,rW.eq_8,rW.eq_9,rW.eq_10,rW.eq_11,rW.eq_12,VL,VN,VW.eq_1,Ie.eq_1,Ie.eq_2,Ie.eq_3,lz.eq_def,SV.jL.eq_def,TI.uJ.eq_1,TI.agg.eq_1,Sh.zero.eq_1,Sh.zero.eq_2,Sh.zero.eq_3,Sh.zero.eq_4,Sh.zero.eq_5,Sh.zero.eq_6,Sh.zero.eq_7,ev.eq_1,ev.eq_2,ev.eq_3,ev.eq_4,FO.eq_def,pJ.eq_1,pJ.eq_2,kM.eq_1,kM.eq_3,kM.eq_4,kM.eq_5,kM.eq_6,kM.eq_7,uh.eq_1,uh.eq_2,SV.nb.eq_def,il.eq_1,il.eq_2,AV.sv.eq_1,AV.sv.eq_2,SV.v.eq_1,SV.v.eq_2,SV.v.eq_3,SV.v.eq_4,SV.v.eq_5,SV.v.eq_6,SV.v.eq_7,SV.v.eq_8,SV.v.eq_9,AV.v.eq_1,AV.v.eq_2,Ce.v.eq_1,Ce.v.eq_2,Ce.v.eq_3,Ce.v.eq_4,Ce.v.eq_5,Ce.v.eq_6,Ce.v.eq_7,Ce.v.eq_8,Ce.v.eq_9,Ce.v.eq_10,Ce.v.eq_11,Ce.v.eq_12,Ce.v.eq_13,vo.eq_1,vo.eq_2,TQ.eq_1,FQ.eq_def,je.eq_1,je.eq_2,HH.eq_1,HH.eq_2,Ou.eq_1,Ou.eq_2,Sh.ty.eq_1,Sh.ty.eq_2,Sh.ty.eq_3,Sh.ty.eq_4,Sh.ty.eq_5,Sh.ty.eq_6,Sh.ty.eq_7,Sh.mk.eq_1,Sh.mk.eq_2,Sh.mk.eq_3,Sh.mk.eq_4,Sh.mk.eq_5,Sh.mk.eq_6,Sh.mk.eq_7,OB.eq_1,SV.UX.eq_def,AV.UX.eq_1,AV.UX.eq_2,Gt.eq_1,Vi.eq_1,Vi.eq_2,Tw.eq_1,Tw.eq_2,Z2.eq_1,Z1.eq_1,Z7.eq_1,Z8.eq_1,Z4.eq_1,ZW.eq_1,ZX.eq_1,pa.eq_1,p3.eq_1,p2.eq_1,RT.eq_1,Va.eq_1,Z0.eq_1,Z3.eq_1,Yx.eq_1,Z9.eq_1,Z6.eq_1,Z5.eq_1,Vb.eq_1,ZY.eq_1,ZZ.eq_1,kw.eq_1,kr.eq_1,ky.eq_1,kn.eq_1,ZP.eq_1,ZS.eq_1,Zk.eq_1,ZQ.eq_1,ZT.eq_1,ZR.eq_1,kq.eq_1,ks.eq_def,kc.eq_def,ki.eq_1,kb.eq_def,ke.eq_def,kl.eq_1,kR.eq_def,kx.eq_1,kz.eq_1,kf.eq_def,Ox.eq_1,Yk,TL,RL,RI,VE,VF,VO,TG,Yh,TH,VK,TJ,TE,TF,VM,VP,RH,TM,RJ,RK,Yj,Yi,VA,VB,exI,exU,exB,Yp,exP,exF,exM,alI,alU,alB,X0,alP,alF,alM,cU8,z0,z1,tb,VC,b1,b2,b3,b4,b5,b6,TN,TO,Yn,Ym,Yl,VD,VG,rg1,rg2,rg3,rg4,rg5,rg6,rg7,jH];exact Tg.lf _) (by refine Tg.pm.trans ?_;dsimp -zeta+instances only[↓RZ,ile,↓Yv,nze,nce,HH,Ou,Sh.ty,Int.cast_ofNat_Int]);trivial)
 (j:X=SS cq W0 GL A n e c a m R:=by kernel_rfl)
 :X->aN cq f g m R:=λh=>by
 subst o
 exact yf Pj Zm Zn k (nY Prod.fst d) (nY (λx=>x.2.1) d) (nY (λx=>x.2.2) d) i (lL l) hd (j▸h)
def aah(m:E)(R:Value->E->Prop)(A:Pp)(a:List SV){f:FuncId}{b:Go.Func}{X:Prop}{c:Code}{n:Nat}{e:List ResultVar}{g:List Value}(k:cq.funcs[f]? =some b)
 (d:(b.body,b.ntmps,b.results)=(some c,n,Array.mk e):=by cbv)
 (i:a.all SV.jL=true:=by kernel_rfl)(l:Nat.ble a.length n=true:=by kernel_rfl)(hd:qA c=true:=by kernel_rfl)
 (o:a.map SV.v=g:=by dsimp only[List.map,cI,cS,cP,SV.v,Ce.v])
 (w:Wi (SS cq W0 GL A n e c a m R) X->True:=by intro w;obtain - :=mkT w (by sym -abstractProof=>simp[gel,A0.eq_1,cI.eq_1,cS.eq_1,cP.eq_1,tg0,tg3,tg4,tg5,YH,YI,YJ,YK,YL,YM,YN,YO,YP,YQ,YR,YS,YT,YU,YV,YW,YX,YY,YZ,Y0,Y1,Y2,Y3,Y4,Y5,Y6,Y7,Y8,V3,V5,V6,V7,V8,V9,Wa,Wb,Wc,Wd,We,Wf,Wg,Wh,Wj,Wk,Wl,Wm,Wn,Wo,Wp,Wq,Wr,Ws,Wt,Wu,Wv,Ww,Wx,Wy,Wz,WA,WC,WD,WE,WG,WH,WI,WJ,nbq,nbl,nbt,atl,o1,o2,o3,o5,o6,a2,a3,a4,t1,t2,t3,g1,g2,cK,fF,cZ,eE,Oj,List.all_nil,aZ,eW,List.elem_cons,Oi,Bool.false_and,Vu,Vt,Bool.true_or,Oh,Mz,Bool.and_true,nX,Option.map_none,iB,jt,my,List.flatMap_nil,List.isEmpty_cons,List.isEmpty_nil,List.any_cons,QA,qT,Nr,uE.eq_1,uE.eq_2,vc.eq_1,vc.eq_4,vc.eq_6,vc.eq_7,vc.eq_8,uN.eq_def,YC.eq_def,V0.eq_def,rc.eq_1,rc.eq_2,LD.eq_def,UA.eq_1,UA.eq_2,uF.eq_1,Dy.eq_1,Dy.eq_2,lg.eq_1,pW.eq_1,pW.eq_2,oO.eq_def,nF.eq_1,nF.eq_2,PD.eq_1,PC.eq_1,OA.eq_1,OA.eq_2,HK.eq_1,HK.eq_2,Q1.eq_def,VY.eq_1,DC.eq_def,lk.eq_1,lk.eq_2,oR.eq_1,DP.eq_1,DP.eq_2,pQ.eq_def,xc.eq_def,kO.eq_1,od.eq_1,od.eq_2,lD.eq_1,uj.eq_1,uj.eq_2,uj.eq_3,sG.eq_1,zV.eq_1,zV.eq_2,gd.eq_1,gd.eq_2,Lg.eq_1,sB.eq_1,sB.eq_2,Lm.eq_def,wr.eq_1,wr.eq_2,wr.eq_4,wr.eq_6,wr.eq_8,wr.eq_9,wr.eq_10,wr.eq_11,xp.eq_1,xp.eq_2,Sx.eq_1,UB.eq_1,ME.eq_def,Aw.eq_def,rd.eq_1,rd.eq_2,rd.eq_3,rd.eq_4,rd.eq_5,rd.eq_6,rd.eq_7,rd.eq_8,rd.eq_9,rd.eq_10,rd.eq_11,rd.eq_12,rd.eq_13,rd.eq_15,SY.eq_def,VH,VI,VJ,NH.eq_1,Hp.eq_1,Hp.eq_2,OL.eq_1,MX.eq_1,MX.eq_2,vt.eq_1,vt.eq_2,FJ.eq_1,FJ.eq_2,mh.eq_1,mh.eq_2,mh.eq_3,mh.eq_4,mh.eq_5,SV.cells.eq_def,Zs.eq_def,Vd.eq_def,UQ.eq_def,rW.eq_1,rW.eq_2,rW.eq_3,rW.eq_6,rW.eq_7,rW.eq_8,rW.eq_9,rW.eq_10,rW.eq_11,rW.eq_12,VL,VN,VW.eq_1,Ie.eq_1,Ie.eq_2,Ie.eq_3,lz.eq_def,SV.jL.eq_def,TI.uJ.eq_1,TI.agg.eq_1,Sh.zero.eq_1,Sh.zero.eq_2,Sh.zero.eq_3,Sh.zero.eq_4,Sh.zero.eq_5,Sh.zero.eq_6,Sh.zero.eq_7,ev.eq_1,ev.eq_2,ev.eq_3,ev.eq_4,FO.eq_def,pJ.eq_1,pJ.eq_2,kM.eq_1,kM.eq_3,kM.eq_4,kM.eq_5,kM.eq_6,kM.eq_7,uh.eq_1,uh.eq_2,SV.nb.eq_def,il.eq_1,il.eq_2,AV.sv.eq_1,AV.sv.eq_2,SV.v.eq_1,SV.v.eq_2,SV.v.eq_3,SV.v.eq_4,SV.v.eq_5,SV.v.eq_6,SV.v.eq_7,SV.v.eq_8,SV.v.eq_9,AV.v.eq_1,AV.v.eq_2,Ce.v.eq_1,Ce.v.eq_2,Ce.v.eq_3,Ce.v.eq_4,Ce.v.eq_5,Ce.v.eq_6,Ce.v.eq_7,Ce.v.eq_8,Ce.v.eq_9,Ce.v.eq_10,Ce.v.eq_11,Ce.v.eq_12,Ce.v.eq_13,vo.eq_1,vo.eq_2,TQ.eq_1,FQ.eq_def,je.eq_1,je.eq_2,HH.eq_1,HH.eq_2,Ou.eq_1,Ou.eq_2,Sh.ty.eq_1,Sh.ty.eq_2,Sh.ty.eq_3,Sh.ty.eq_4,Sh.ty.eq_5,Sh.ty.eq_6,Sh.ty.eq_7,Sh.mk.eq_1,Sh.mk.eq_2,Sh.mk.eq_3,Sh.mk.eq_4,Sh.mk.eq_5,Sh.mk.eq_6,Sh.mk.eq_7,OB.eq_1,SV.UX.eq_def,AV.UX.eq_1,AV.UX.eq_2,Gt.eq_1,Vi.eq_1,Vi.eq_2,Tw.eq_1,Tw.eq_2,Z2.eq_1,Z1.eq_1,Z7.eq_1,Z8.eq_1,Z4.eq_1,ZW.eq_1,ZX.eq_1,pa.eq_1,p3.eq_1,p2.eq_1,RT.eq_1,Va.eq_1,Z0.eq_1,Z3.eq_1,Yx.eq_1,Z9.eq_1,Z6.eq_1,Z5.eq_1,Vb.eq_1,ZY.eq_1,ZZ.eq_1,kw.eq_1,kr.eq_1,ky.eq_1,kn.eq_1,ZP.eq_1,ZS.eq_1,Zk.eq_1,ZQ.eq_1,ZT.eq_1,ZR.eq_1,kq.eq_1,ks.eq_def,kc.eq_def,ki.eq_1,kb.eq_def,ke.eq_def,kl.eq_1,kR.eq_def,kx.eq_1,kz.eq_1,kf.eq_def,Ox.eq_1,Yk,TL,RL,RI,VE,VF,VO,TG,Yh,TH,VK,TJ,TE,TF,VM,VP,RH,TM,RJ,RK,Yj,Yi,VA,VB,exI,exU,exB,Yp,exP,exF,exM,alI,alU,alB,X0,alP,alF,alM,cU8,z0,z1,tb,VC,b1,b2,b3,b4,b5,b6,TN,TO,Yn,Ym,Yl,VD,VG];simp[cK,fF,jH,LN.eq_1,LN.eq_2,rg1,rg2,rg3,rg4,rg5,rg6,rg7];exact Tg.lf _) (by refine Tg.pm2.trans ?_;dsimp -zeta+instances only[↓RZ,ile,↓Yv,nze,nce,HH,Ou,Sh.ty,Int.cast_ofNat_Int]);trivial)
 (j:X=SS cq W0 GL A n e c a m R:=by kernel_rfl)
 :X->aN cq f g m R:=λh=>by
 subst o
 exact yf Pj Zm Zn k (nY Prod.fst d) (nY (λx=>x.2.1) d) (nY (λx=>x.2.2) d) i (lL l) hd (j▸h)
end
section
open Tryz
variable{m:E}{R:Value->E->Prop}
variable{a b c d e f g h p q r u v w x y:O}{i j k l n o s t z A B C D F G H:Int}
def yS(i:Int):=cX m R A0 [.agg [i,j,k,l,a,b,c],.agg [n,o,s,t,d,e,f]] func15
def Al(a:O):=cX m R ⟨[(4,[(5,.I)])],[],[]⟩ [a,b] func16
def yR(i:Int):=cX m R A0 [.agg [i,j,k,a,b,c],.agg [l,n,o,d,e,f]] func17
def wy(a:O):=cX m R A0 [a] func18
def Cs(a:O):=cX m R ⟨[(5,[(9,.I)])],[(4,[(8,.P)])],[(4,[50,48,47]),(5,[50,48,47])]⟩ [.agg [a,b],.agg [i,j,k,l,c,d,e],n] func19
def CC(a:O):=cX m R A0 [.agg [a,b],.agg [i,j,k,l,c,d,e],n] func20
end
section
open Tryz
variable{m:E}{R:Value->E->Prop}
variable{a b c d e f g h p q r u v w x y:O}{i j k l n o s t z A B C D F G H:Int}
def yI(a:O):=cX m R A0 [.agg [a,b],.agg [i,j,k,l,c,d,e]] func21
def yY(p:Nat×Nat):=cX m R A0 [p] func29
def Bj(a:O):=cX m R A0 [a] func30
def Cv(a:O):=cX m R ⟨[(3,[(3,.I),(8,.I)])],[],[]⟩ [a] func31
def yK(i:Int):=cX m R ⟨[(3,[(20,.I)])],[],[(3,[52,53])]⟩ [.agg [i,j,k,l,a,b,c]] func32
def wa(p:Nat×Nat):=cX m R ⟨[],[(5,[(4,.T)])],[(5,[91])]⟩ [p] func33
def zy(a:O):=cX m R ⟨[(8,[(5,.I)])],[(5,[])],[(5,[93,92]),(8,[93,92])]⟩ [.agg [a,b],.agg [i,j,k,l,c,d,e]] func34
def AO(i:Int):=cX m R ⟨[(3,[(4,.I)])],[(2,[(3,.P)])],[(2,[58,57]),(3,[58,57])]⟩ [.agg [i,j,k,l,a,b,c]] func35
def wL(p:Nat×Nat):=cX m R A0 [p] func36
def Ak(a:O):=cX m R ⟨[(4,[(5,.I)])],[],[]⟩ [a,b] func37
def xl(a:O):=cX m R ⟨[(4,[(5,.I)])],[],[]⟩ [a,b] func38
def zk(p:Nat×Nat):=cX m R A0 [p,a] func39
def xR(p:Nat×Nat):=cX m R A0 [p,i] func40
end
section
open Tryz
variable{m:E}{R:Value->E->Prop}
variable{a b c d e f g h p q r u v w x y:O}{i j k l n o s t z A B C D F G H:Int}
def EM(i:Int):=cX m R A0 [i,j,k] func41
def xP(p:Nat×Nat):=cX m R ⟨[(2,[(5,.I)])],[],[]⟩ [p,i] func42
def yH(a:O):=cX m R ⟨[(5,[(20,.I)]),(13,[(66,.I)])],[(12,[])],[(5,[82,80]),(12,[85,82,80]),(13,[85,82,80])]⟩ [.agg [a,b]] func43
def yP(a:O):=cX m R ⟨[(10,[(95,.I)]),(20,[(158,.I)])],[(3,[]),(16,[]),(24,[])],[(3,[191,190]),(10,[191,190]),(16,[197,191,190]),(20,[191,190]),(24,[191,190])]⟩ [.agg [a,b],.agg [i,j,k,l,c,d,e]] func44
def zr(a:O):=cX m R ⟨[(4,[(3,.I)])],[],[(4,[30])]⟩ [.agg [a,b]] func51
def CF(p:Nat×Nat):=cX m R A0 [p] func53
def zo(p:Nat×Nat):=cX m R A0 [p,.agg [i,j,k,l,a,b,c]] func54
def AZ(p:Nat×Nat):=cX m R A0 [p,.agg [a,b]] func55
def tH(a:O):=cX m R A0 [a] func56
def Ad(a:O):=cX m R ⟨[(3,[(10,.I)])],[],[]⟩ [a] func57
def mJ(a:O):=cX m R A0 [a] func58
end
section
open Tryz
variable{m:E}{R:Value->E->Prop}
variable{a b c d e f g h p q r u v w x y:O}{i j k l n o s t z A B C D F G H:Int}
def xk(p q:Nat×Nat):=cX m R ⟨[(4,[(28,.I)]),(14,[(65,.I)])],[(13,[])],[(4,[212,211]),(13,[212,211]),(14,[212,211])]⟩ [p,q,.agg [i,j,k,l,a,b]] func59
def yN(p q:Nat×Nat):=cX m R ⟨[(3,[(24,.I)])],[],[(3,[353])]⟩ [p,q,.agg [i,j,k,l,a,b]] func60
def yW(a:O):=cX m R ⟨[(2,[(3,.I)])],[],[]⟩ [a] func61
def BG(a:O):=cX m R ⟨[(4,[(3,.I)]),(10,[(5,.I)])],[(3,[])],[]⟩ [a] func62
def zq(a:O):=cX m R A0 [.agg [a,b],.agg [i,j,k,l,c,d,e],n] func63
def CY(i:Int):=cX m R ⟨[(3,[(4,.I)]),(6,[(5,.I)]),(14,[(7,.I)])],[],[(3,[101]),(6,[101]),(14,[101])]⟩ [.agg [i,j,k,l,a,b,c]] func64
def xH(i:Int):=cX m R ⟨[(4,[(5,.I)])],[],[(4,[44])]⟩ [.agg [i,j,k,l,a,b,c]] func65
def nE(a:O):=cX m R A0 [a] func66
def CM(a:O):=cX m R ⟨[(3,[(3,.S),(4,.I)])],[],[]⟩ [a] func67
def GU(i:Int):=cX m R A0 [i] func68
def Dh(i:Int):=cX m R ⟨[(3,[(6,.I)])],[],[(3,[42])]⟩ [.agg [i,j,k,a,b,c],d] func69
def Fe(a:O):=cX m R ⟨[(4,[(5,.S),(6,.I)])],[(3,[(30,.T)])],[(3,[70,69]),(4,[70,69])]⟩ [.agg [a,b],.agg [i,j,k,l,c,d]] func70
def uv(p:Nat×Nat):=cX m R ⟨[],[(3,[])],[(3,[226,225])]⟩ [p,.agg [i,j,k,a,b,c],.agg [l,n,o,s,d,e],f] func71
def tP(p:Nat×Nat):=cX m R A0 [p,.agg [i,j,k,a,b,c],.agg [l,n,o,s,d,e]] func72
def Aj(i:Int):=cX m R A0 [.agg [i,j,a],.agg [k,l,b]] func73
def Ag(a:O):=cX m R ⟨[(5,[(18,.I)])],[],[(5,[43,42])]⟩ [.agg [a,b]] func74
def pM(a:O):=cX m R ⟨[(6,[(88,.I)])],[(5,[])],[(5,[147,146,145,144]),(6,[147,146,145,144])]⟩ [.agg [a,b],.agg [c,d,i,j,e],k,.agg [l,n,o,s,f,g]] func75
def HV(i:Int):=cX m R A0 [i] func76
end
section
open Tryz
variable{m:E}{R:Value->E->Prop}
variable{a b c d e f g h p q r u v w x y:O}{i j k l n o s t z A B C D F G H:Int}
def xh(a:O):=cX m R ⟨[(3,[(26,.I)]),(8,[(37,.I)]),(21,[(12,.S),(73,.I)]),(28,[(12,.S),(13,.I)]),(33,[(12,.S),(127,.I)])],[(17,[])],[(8,[165]),(33,[175])]⟩ [a] func77
def pu(s:O)(f:Fn×Array Value×Array Value):=cX m R A0 [s,.c (.fv f)] func78
def wh(i:Int):=cX m R A0 [i] func79
def yL(a:O):=cX m R ⟨[(7,[(63,.I)])],[],[(7,[97,95,94])]⟩ [.agg [a,b],.agg [i,j,k,c,d,e]] func80
def xf(i:Int):=cX m R ⟨[(2,[(17,.I)])],[(9,[])],[(2,[82]),(9,[82])]⟩ [.agg [i,j,k,a,b,c],d,e,f] func81
def Cx(a:O):=cX m R A0 [.agg [a,b],i,j] func83
def BN(a:O):=cX m R ⟨[(4,[(3,.I)])],[],[(4,[65])]⟩ [.agg [a,b]] func84
def xU(a:O):=cX m R ⟨[(3,[(4,.I)])],[],[(3,[37,36])]⟩ [.agg [a,b]] func85
def BK(a:O):=cX m R ⟨[(5,[(6,.I)])],[],[(5,[62,61])]⟩ [.agg [a,b],.agg [c,d,i,j,e]] func86
def zp(a:O):=cX m R A0 [.agg [a,b],i] func87
def AY(p:Nat×Nat):=cX m R A0 [p] func90
def AH(p:Nat×Nat):=cX m R ⟨[(3,[(6,.I)])],[],[(3,[57,56,55])]⟩ [p,.agg [a,b]] func91
def zm(p:Nat×Nat):=cX m R A0 [p,.agg [a,b],i] func92
def sW(p:Nat×Nat):=cX m R A0 [p,a] func93
def na(a:O):=cX m R A0 [a] func94
end
section
open Tryz
variable{m:E}{R:Value->E->Prop}
variable{a b c d e f g h p q r u v w x y:O}{i j k l n o s t z A B C D F G H:Int}
def sM(p:Nat×Nat):=cX m R ⟨[(15,[(4,.S),(5,.S),(31,.I)])],[],[(15,[62])]⟩ [p,.agg [i,j,k,l,a,b]] func95
def wg(i:Int):=cX m R A0 [i] func96
def ui(p:Nat×Nat):=cX m R A0 [p,i] func97
def vm(p:Nat×Nat):=cX m R A0 [i,p] func98
def Ed(a:O):=cX m R A0 [a] func99
def sO(p q:Nat×Nat):=cX m R A0 [p,q,.agg [i,j,k,l,a,b]] func100
def ry(p q:Nat×Nat):=cX m R ⟨[(14,[(10,.S),(74,.I)])],[],[(14,[125,121])]⟩ [p,q,.agg [i,j,k,l,a,b]] func101
def tz(p q:Nat×Nat):=cX m R A0 [p,q,.agg [i,j,k,l,a,b]] func102
def Aa(p:Nat×Nat):=cX m R A0 [p,i,j,k] func103
def rY(p q:Nat×Nat):=cX m R A0 [p,q,.agg [i,j,k,l,a,b]] func104
def vj(p:Nat×Nat):=cX m R A0 [p,i,a] func105
def xg(p:Nat×Nat):=cX m R ⟨[(3,[(13,.I)])],[],[]⟩ [p,a] func106
def Ae(p:Nat×Nat):=cX m R ⟨[(1,[(4,.S)])],[],[]⟩ [p,i] func107
def vZ(p q:Nat×Nat):=cX m R ⟨[(5,[(39,.I)])],[],[(5,[58])]⟩ [p,q,.agg [i,j,k,l,a,b]] func108
def we(i:Int):=cX m R A0 [i] func109
def tJ(a:O):=cX m R ⟨[(2,[(8,.I)])],[],[]⟩ [a,i] func110
def Ga(a:O):=cX m R ⟨[(6,[(6,.S),(28,.I)])],[],[]⟩ [a,i] func111
def vY(p:Nat×Nat):=cX m R ⟨[(9,[(63,.I)])],[(7,[(9,.I)])],[(7,[111]),(9,[114,111])]⟩ [p,i,a,.agg [j,k,l,n,b,c]] func112
end
section
open Tryz
variable{m:E}{R:Value->E->Prop}
variable{a b c d e f g h p q r u v w x y:O}{i j k l n o s t z A B C D F G H:Int}
def vk(a:Nat×Nat)(w:Int)(eA:Bool):=cX m R ⟨[(13,[(69,.I)])],[(5,[])],[]⟩ [a,w,.c (.t eA)] func113
def sN(p:Nat×Nat):=cX m R A0 [p,i] func114
def BD(a:O):=cX m R ⟨[(6,[(5,.I)])],[],[(6,[59])]⟩ [a,.agg [i,j,b]] func115
def G8(a:O):=cX m R ⟨[(3,[(4,.I)]),(6,[(5,.I)])],[],[]⟩ [a] func116
def Bb(a:O):=cX m R ⟨[(4,[(4,.I),(5,.T)]),(7,[(4,.I),(5,.T),(6,.I)])],[],[]⟩ [a] func117
def BL(a:O):=cX m R ⟨[(2,[(5,.I)])],[],[(2,[53])]⟩ [a,.agg [i,j,k,b,c,d]] func118
def Bd(i:Int):=cX m R A0 [i] func119
def Di(i:Int):=cX m R ⟨[(3,[(4,.I)]),(7,[(6,.I)])],[],[(3,[61]),(7,[65,61])]⟩ [.agg [i,j,k,l,a,b,c]] func120
def sD(i:Int):=cX m R A0 [i] func121
def ER(a:O):=cX m R A0 [.agg [a,b],.agg [i,j,k,l,c,d],n] func122
def wN(a:O):=cX m R ⟨[(2,[(3,.I)])],[],[]⟩ [a] func123
def Km(i:Int):=cX m R A0 [i] func124
def yX(i:Int):=cX m R ⟨[(2,[(5,.I)])],[],[(2,[26,25])]⟩ [.agg [i,j,k,a,b,c],.agg [l,n,o,s,d,e]] func125
def sU(p:Nat×Nat):=cX m R A0 [p,.agg [i,j,k,a,b,c],.agg [l,n,o,s,d,e]] func126
def sS(p:Nat×Nat):=cX m R ⟨[(2,[(7,.I)])],[],[(2,[51,50])]⟩ [p,.agg [i,j,k,a,b,c],.agg [l,n,o,s,d,e]] func127
def Ez(a:O):=cX m R ⟨[(2,[(3,.I)])],[],[]⟩ [a] func128
def sT(p:Nat×Nat):=cX m R A0 [p,i] func129
def GW(a:O):=cX m R A0 [a,i] func130
end
section
open Tryz
variable{m:E}{R:Value->E->Prop}
variable{a b c d e f g h p q r u v w x y:O}{i j k l n o s t z A B C D F G H:Int}
def ur(p:Nat×Nat):=cX m R A0 [p,i] func131
def tO(p:Nat×Nat):=cX m R A0 [p,.agg [i,j,k,a,b,c],.agg [l,n,o,s,d,e]] func132
def J6(a:O):=cX m R ⟨[(2,[(5,.I)])],[],[]⟩ [a,i] func133
def uP(a:O):=cX m R ⟨[(5,[(5,.S),(6,.I)])],[],[]⟩ [a,i] func134
def ux(p:Nat×Nat):=cX m R A0 [p,i,j] func135
def Kj(i:Int):=cX m R A0 [i,j,k] func136
def sg(p:Nat×Nat):=cX m R ⟨[],[(5,[(8,.I)])],[(5,[75,74])]⟩ [p,.agg [i,j,k,a,b,c],.agg [l,n,o,s,d,e],t] func137
def CL(a:O):=cX m R ⟨[(3,[(3,.I),(4,.I)])],[],[]⟩ [a] func138
def vy(p:Nat×Nat):=cX m R ⟨[],[(10,[(6,.I),(7,.S)])],[(10,[128,127])]⟩ [p,.agg [i,j,k,a,b,c],.agg [l,n,o,s,d,e]] func139
def vz(p:Nat×Nat):=cX m R A0 [p,.agg [i,j,k,a,b,c],l] func140
def vA(p:Nat×Nat):=cX m R ⟨[(1,[(4,.I)])],[],[]⟩ [p,a] func141
def ph(p:Nat×Nat):=cX m R A0 [p,i] func142
def AU(a:O):=cX m R ⟨[(2,[(5,.S)])],[],[]⟩ [a,b] func143
def sV(p:Nat×Nat):=cX m R ⟨[(4,[(8,.I)])],[],[(4,[111,110])]⟩ [p,.agg [i,j,k,a,b,c],.agg [l,n,o,s,d,e]] func144
def uw(p:Nat×Nat):=cX m R A0 [p,i,j] func145
def CU(a:O):=cX m R ⟨[(3,[(5,.I),(6,.I)])],[],[]⟩ [a,i] func146
def Ah(a:O):=cX m R ⟨[(4,[(39,.I)]),(9,[(64,.I)])],[],[(9,[108])]⟩ [a,b] func147
def oK(p q:Nat×Nat):=cX m R A0 [i,p,q] func148
end
section
open Tryz
variable{m:E}{R:Value->E->Prop}
variable{a b c d e f g h p q r u v w x y:O}{i j k l n o s t z A B C D F G H:Int}
def oL(p:Nat×Nat):=cX m R A0 [i,p] func149
def qI(b c:O)(d e f g:Int)(h i:O)(a:Fn×Array Value×Array Value):=cX m R A0 [.agg [b,c],.agg [d,e,f,g,h,i],.c (.fv a)] func150
def rZ(a:O):=cX m R A0 [.agg [a,b],.agg [i,j,k,l,c,d]] func151
def Ac(a:O):=cX m R ⟨[(6,[(48,.I)])],[(5,[])],[(5,[69]),(6,[69])]⟩ [a,.agg [i,j,b]] func152
def Gf(a:O):=cX m R A0 [a,i] func153
def qL(s:O)(f:Fn×Array Value×Array Value):=cX m R ⟨[(2,[(8,.I)])],[],[]⟩ [s,.c (.fv f)] func154
def zA(a:O):=cX m R ⟨[(4,[(3,.I)])],[],[]⟩ [a] func155
def CD(a:O):=cX m R ⟨[(2,[(5,.I)])],[],[]⟩ [a,b] func156
def BJ(a:O):=cX m R ⟨[(2,[(5,.I)])],[],[]⟩ [a,b] func157
def zt(a:O):=cX m R ⟨[(4,[(9,.I)])],[(10,[])],[(4,[241,238,237]),(10,[241,238,237])]⟩ [.agg [a,b],.agg [c,d,i,j,e],k] func158
def EK(a:O):=cX m R A0 [.agg [a,b],i,j,c,d] func159
def EJ(a:O):=cX m R ⟨[(3,[(4,.I)])],[],[(3,[75,74])]⟩ [.agg [a,b]] func162
def wA(p:Nat×Nat):=cX m R ⟨[],[(4,[]),(6,[]),(9,[]),(11,[])],[(4,[37]),(6,[37]),(9,[37]),(11,[37])]⟩ [p] func163
def BA(a:O):=cX m R ⟨[(3,[(4,.I)])],[],[(3,[45,44])]⟩ [.agg [a,b]] func164
def AN(a:O):=cX m R ⟨[(3,[(4,.I)]),(8,[(6,.S),(7,.I)])],[],[(3,[62,61]),(8,[65,62,61])]⟩ [.agg [a,b]] func165
def AG(p:Nat×Nat):=cX m R A0 [p,.agg [i,j,k,l,a,b]] func166
end
end Go.Proofs.YtkoifinbblcbiaaGreat
