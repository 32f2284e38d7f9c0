/- Part of a proof. -/
import Derived.KernelRfl
import Derived.Laws.Append
import Derived.Laws.Cells
import Derived.Laws.Entries
import Derived.Laws.IdiomCopy
import Derived.Orders
import Derived.OrdersHeld
import Derived.Still
import Derived.Tactics
import Derived.Test.YtkoifinbblcbiaaGreatProg
set_option linter.all false
set_option maxHeartbeats 8000000
set_option maxRecDepth 100000
namespace Go.Vc
def ad:=@Nat.le_refl
def ae:=@if_neg
def ai:=@List.mem_cons_of_mem
def aj:=@if_pos
def ak:=@beq_eq_false_iff_ne
def au:=@decide_eq_true_eq
def ax:=@List.getElem?_append_left
def aE:=@beq_iff_eq
def aF:=@List.getElem?_append_right
def aO:=@Nat.lt_of_lt_of_le
def aS:=@List.mem_cons
def aV:=@List.length_cons
def aX:=@List.mem_cons_self
def aZ:=@Nat.lt_or_ge
def ba:=@List.length_append
def bt:=@Nat.eq_of_beq_eq_true
def bu:=@Bool.or_eq_false_iff
def bG:=@decide_eq_false_iff_not
def bL:=@List.mem_append_left
def bN:=@Bool.and_eq_true
def bU:=@Bool.or_eq_true
def bX:=@Nat.le_trans
def cz:=@List.getElem?_set_ne
def cD:=@Nat.zero_add
def cG:=@List.map_cons
def cH:=@List.cons_append
def cU:=@List.getElem?_map
def cX:=@Int.le_refl
def cZ:=@List.getElem?_eq_none
def dh:=@Nat.mul_le_mul_right
def dk:=@Nat.add_assoc
def dm:=@List.take_append_drop
def dp:=@List.mem_or_eq_of_mem_set
def dB:=@Classical.byContradiction
def dG:=@List.getElem?_take_of_lt
def dI:=@Classical.em
def dJ:=@List.getElem?_set_self
def dN:=@List.append_nil
def dW:=@List.length_map
def dX:=@List.nil_append
def eB:=@Classical.choose_spec
def eD:=@List.dropLast_concat_getLast
def eE:=@List.length_set
def eO:=@Nat.zero_le
def eU:=@List.length_nil
def fg:=@List.getLast?_eq_some_getLast
def fx:=@List.take_length
def fD:=@List.append_assoc
def fE:=@List.map_nil
def fL:=@List.mem_append_right
def fO:=@List.map_append
def fS:=@List.getD_eq_getElem?_getD
def gB:=@List.mem_of_mem_take
def gG:=@List.length_take
def gL:=@Nat.add_mul
def gX:=@List.getElem?_cons_succ
def ig:=@Bool.false_eq_true
def ij:=@List.mem_of_getElem?
def il:=@List.set_cons_zero
def iu:=@Nat.mul_one
def iv:=@Nat.not_lt_zero
def iH:=@bne_eq_false_iff_eq
def iK:=@Bool.not_eq_true'
def iL:=@List.ext_getElem?
def jd:=@Nat.min_eq_left
def jq:=@List.set_cons_succ
def jE:=@List.flatten_cons
def jF:=@List.getElem?_set
def jG:=@Nat.add_zero
def jH:=@Option.map_eq_some_iff
def jI:=@cond_true
def jS:=@Array.getElem?_setIfInBounds_ne
def j8:=@List.not_mem_nil
def j9:=@Nat.eq_zero_or_pos
def kJ:=@Ne.symm
def ly:=@gt_iff_lt
def lK:=@List.getElem?_take
def lL:=@Array.getElem?_modify
def lM:=@List.getElem?_toArray
def lO:=@Nat.le_of_ble_eq_true
def mq:=@Option.some.inj
def mF:=@List.findIdx_lt_length_of_exists
def mG:=@List.flatMap_cons
def mN:=@cond_false
def mR:=@Array.getElem?_push
def mS:=@List.length_reverse
def nv:=@List.map_toArray
def nG:=@List.take_append_of_le_length
def nN:=@List.mem_singleton
def nO:=@List.take_of_length_le
def nP:=@Nat.lt_of_le_of_lt
def oD:=@Option.map_some
def oX:=@List.sizeOf_lt_of_mem
def px:=@Nat.le_succ_of_le
def qt:=@Int.tdiv_eq_ediv_of_nonneg
def qu:=@congrArg
def qv:=@if_false
def qy:=@Nat.succ_mul
def qC:=@List.drop_eq_getElem_cons
def qU:=@List.flatten_append
def qV:=@List.length_take_le
def qW:=@List.replicate_succ
def rX:=@List.set_eq_of_length_le
def sH:=@List.getElem?_drop
def sO:=@List.getElem?_cons_zero
def ue:=@Int.le_trans
def uf:=@Int.toNat_natCast
def ug:=@List.map_set
def uh:=@Nat.le_of_eq
def ui:=@not_or
def vJ:=@Option.getD_some
def vK:=@bne_iff_ne
def xc:=@List.mem_of_mem_drop
def zw:=@Array.getD_eq_getD_getElem?
def BH:=@Array.ext_getElem?
def BJ:=@or_false
def DF:=@List.size_toArray
def DG:=@Option.some.injEq
def Hj:=@Nat.add_sub_cancel_left
def Hk:=@Nat.le_of_not_lt
def Hl:=@ge_iff_le
def IV:=@Array.getElem?_eq_none
def IW:=@Int.lt_or_le
def IY:=@List.drop_of_length_le
def Ju:=@Bool.eq_iff_iff
def Jv:=@decide_eq_false
def Mw:=@Bool.not_false
def Mx:=@List.set_append_left
def My:=@List.take_take
def Mz:=@Nat.mul_le_mul
def MC:=@if_true
def Nl:=@List.replicate_zero
def Nm:=@List.take_succ_cons
def Nn:=@Nat.testBit_two_pow
def NZ:=@Bool.not_true
def N3:=@Bool.true_and
def Oa:=@List.all_cons
def Ob:=@List.map_take
def Oc:=@Prod.mk.injEq
def Pm:=@List.set_eq_take_append_cons_drop
def QE:=@List.any_nil
def QF:=@List.reverse_cons
def QG:=@Nat.le_of_lt
def QH:=@Nat.sub_self
def QI:=@Nat.zero_mul
def Tf:=@List.range_succ
def Tj:=@Iff.rfl
def Tk:=@dif_pos
def UL:=@List.mapM_cons
def UM:=@Nat.eq_of_mul_eq_mul_right
def UO:=@Nat.testBit_or
def UU:=@Array.mapM_eq_mapM_toList
def UW:=@List.exists_mem_of_ne_nil
def VK:=@Array.getElem?_replicate
def VL:=@Bool.false_or
def VM:=@Bool.or_false
def VN:=@List.eq_of_mem_replicate
def XQ:=@List.map_map
def XR:=@List.mem_map
def XS:=@List.set_set
def XT:=@Nat.sub_zero
def Yh:=@Array.getElem?_toList
def Yi:=@List.set_append_right
def Yj:=@Nat.ble_eq_true_of_le
def ZA:=@Int.add_mul
def ZN:=@Array.length_toList
def ZO:=@Array.toList_zipIdx
def aai:=@Array.foldl_toList
def aaj:=@Bool.not_eq_false'
theorem dit{p A B:Prop}{i:Decidable p}(f:p->A)(g:¬p->B):(decide p=true->A)/\(decide p=false->B):=⟨λh=>f (of_decide_eq_true h),λh=>g (of_decide_eq_false h)⟩
theorem V{p:Prop}(h:p:=by omega):p:=h
theorem aJ{p:Prop}(h:p:=by simp):p:=h
theorem be{p:Prop}(h:p:=by decide):p:=h
theorem bI{p:Prop}(h:p:=by simp;omega):p:=h
end Go.Vc
section
namespace Go.Vc
variable{n:Nat}{a:Act}
abbrev E:=Array Obj
def af(m:E)(b o:Nat):Option Value:=
 match m[b]? with
 |some (.cells c _ _)=>c[o]?
 |_=>none
def vV(m:E)(b o:Nat):Bool:=
 match m[b]? with
 |some (.cells _ _ (c,a))=>c<=o&&o<a
 |_=>false
def rK(m:E)(b o:Nat)(v:Value):E:=
 m.modify b λ
  | .cells c e f=>.cells (c.setIfInBounds o v) e f
  |x=>x
def zL(w:World)(b o:Nat):w.cell? ⟨b,o,none⟩=af w.heap b o:=by
 simp only[World.cell?,af];cases h:w.heap[b]? with
 |none=>rfl
 |some x=>cases x<;>simp
def Q2(w:World)(b o:Nat):w.frozen? ⟨b,o,none⟩=vV w.heap b o:=by
 simp only[World.frozen?,vV];cases h:w.heap[b]? with
 |none=>rfl
 |some x=>cases x<;>simp
def OP(w:World)(b o:Nat)(v:Value):(w.setCell ⟨b,o,none⟩ v).heap=rK w.heap b o v:=by
 simp only[World.setCell,rK];congr 1
structure pI(w w':World):Prop where
 os:w'.os=w.os
 tape:w'.tape=w.tape
 output:w'.output=w.output
def pI.aA(w:World):pI w w:=⟨rfl,rfl,rfl⟩
def pI.trans{a b c:World}(h:pI a b)(k:pI b c):pI a c:=⟨k.os.trans h.os,k.tape.trans h.tape,k.output.trans h.output⟩
def aM(P:Program)(f:FuncId)(b:List Value)(m:E)(K:Value->E->Prop):Prop:=
 ∀w:World,w.heap=m->Calls P f b.toArray w λe a=>∃v,e=.returned v/\pI w a/\K v a.heap
def aM.mono{P:Program}{f:FuncId}{b:List Value}{m:E}{K a:Value->E->Prop}(h:aM P f b m K)
 (e:∀v c,K v c->a v c):aM P f b m a:=
 λw i=>(h w i).mono λ_ _⟨v,d,g,c⟩=>⟨v,d,g,e _ _ c⟩
inductive O where
 |nil
 |mk (b o len cap:Nat)
 |zP (b o sp:Nat)
def O.v:O->Value
 | .nil=>.slice none 0 0
 | .mk b o l c=>.slice (some ⟨b,o,none⟩) l c
 | .zP b o a=>.slice (some ⟨b,o,some a⟩) 0 0
def O.len:O->Nat
 | .nil=>0
 | .mk _ _ l _=>l
 | .zP _ _ _=>0
def O.cap:O->Nat
 | .nil=>0
 | .mk _ _ _ c=>c
 | .zP _ _ _=>0
def O.D:O->Nat
 | .nil=>0
 | .mk b _ _ _=>b
 | .zP b _ _=>b
def O.off:O->Nat
 | .nil=>0
 | .mk _ o _ _=>o
 | .zP _ o _=>o
@[simp] theorem O.Sb (b o sp:Nat):(O.zP b o sp).len=0:=rfl
@[simp] theorem O.Ve (b o sp:Nat):(O.zP b o sp).cap=0:=rfl
@[simp] theorem O.OH:O.nil.len=0:=rfl
@[simp] theorem O.Vf:O.nil.cap=0:=rfl
@[simp] theorem O.ZF:O.nil.D=0:=rfl
@[simp] theorem O.ZJ:O.nil.off=0:=rfl
@[simp] theorem O.iS (b o l c:Nat):(O.mk b o l c).len=l:=rfl
@[simp] theorem O.Oo (b o l c:Nat):(O.mk b o l c).cap=c:=rfl
@[simp] theorem O.jC (b o l c:Nat):(O.mk b o l c).D=b:=rfl
@[simp] theorem O.tH (b o l c:Nat):(O.mk b o l c).off=o:=rfl
def O.Gc:O->Bool
 | .nil=>true
 | .mk _ _ _ _=>false
 | .zP _ _ _=>false
@[simp] theorem O.Yc:O.nil.Gc=true:=rfl
@[simp] theorem O.Yb (b o sp:Nat):(O.zP b o sp).Gc=false:=rfl
@[simp] theorem O.YT (b o l c:Nat):(O.mk b o l c).Gc=false:=rfl
def O.cv:O->Option Addr
 | .nil=>none
 | .mk b o _ _=>some ⟨b,o,none⟩
 | .zP b o a=>some ⟨b,o,some a⟩
def O.XO(s:O):s.v=.slice s.cv s.len s.cap:=by cases s<;>rfl
inductive Ce where
 |i (n:Int)
 |u (k:IntKind) (n:Int)
 |t (x:Bool)
 |s (x:O)
 |p (b o:Nat)
 |pn
 |fn (f:Fn) (first captured:Array Value)
 |fv (q:Fn×Array Value×Array Value)
 |nf
 |str (x:ByteArray)
 |mp (b:Nat)
 |mn
 |bp (k b o:Nat)
def Ce.v:Ce->Value
 | .i n=>.int .i64 n
 | .u k n=>.int k n
 | .t x=>.bool x
 | .s x=>x.v
 | .p b o=>.pointer (some ⟨b,o,none⟩)
 | .pn=>.pointer none
 | .fn f a c=>.func f a c
 | .fv q=>.func q.1 q.2.1 q.2.2
 | .nf=>.nilFunc
 | .str x=>.string x
 | .mp b=>.map (some b)
 | .mn=>.map none
 | .bp _ b o=>.pointer (some ⟨b,o,none⟩)
inductive AV where
 |c (x:Ce)
 |agg (l:List Ce)
def AV.v:AV->Value
 | .c x=>x.v
 | .agg l=>.agg (l.map Ce.v).toArray
inductive SV where
 |c (x:Ce)
 |tt
 |ff
 |agg (l:List Ce)
 |XN (l:List AV)
 |un
 |fZ
 |box (b e:Nat) (l:List Ce)
 |zJ (b e:Nat) (l:List Ce)
def SV.v:SV->Value
 | .c x=>x.v
 | .tt=>.bool true
 | .ff=>.bool false
 | .agg l=>.agg (l.map Ce.v).toArray
 | .XN l=>.tuple (l.map AV.v).toArray
 | .un=>undef
 | .fZ=>undef
 | .box _ _ _=>undef
 | .zJ _ _ _=>undef
def SV.Is:SV->Value->Prop
 | .fZ,_=>True
 | .box _ _ _,_=>True
 | .zJ _ _ _,_=>True
 |s,v=>v=s.v
def AV.sv:AV->SV
 | .c x=>.c x
 | .agg l=>.agg l
def AV.aag(x:AV):x.sv.v=x.v:=by cases x<;>rfl
abbrev Fr:=List (Nat×SV)
def gZ:Fr->Nat->SV
 |[],_=>.fZ
 |(u,x)::r,t=>bif Nat.beq u t then x else gZ r t
def SV.nb:SV->SV
 | .box _ _ _=>.fZ
 | .zJ _ _ _=>.fZ
 |x=>x
def uo(a:Fr)(d:Option Nat)(x:SV):Fr:=
 match d with
 |some d=>(d,x.nb)::a
 |none=>a
def SV.Uk{x:SV}{v:Value}(h:x.Is v):x.nb.Is v:=by
 cases x<;>first|exact h|trivial
def Ce.kY(x:Ce):x.v.cells=#[x.v]:=by
 cases x with
 |s y=>cases y<;>rfl
 |_=>rfl
def kN:Value->Option Ce
 | .int .i64 n=>some (.i n)
 | .int k n=>some (.u k n)
 | .bool x=>some (.t x)
 | .slice none 0 0=>some (.s .nil)
 | .pointer none=>some .pn
 | .nilFunc=>some .nf
 | .string x=>some (.str x)
 |_=>none
def Nz{x:Value}{c:Ce}(h:kN x=some c):c.v=x:=by
 unfold kN at h;split at h<;>simp at h<;>subst h<;>rfl
def pP:List Value->Option (List Ce)
 |[]=>some []
 |v::b=>match kN v,pP b with
  |some c,some a=>some (c::a)
  |_,_=>none
def KK:∀{b:List Value}{a:List Ce},pP b=some a->a.map Ce.v=b
 |[],_,h=>by simp[pP]at h;subst h;rfl
 |v::b,a,h=>by
  simp only[pP]at h;split at h
  .rename_i e f c d;simp at h;subst h;simp[Nz c,KK d]
  .simp at h
def FE:Value->SV
 | .bool true=>.tt
 | .bool false=>.ff
 | .agg a=>match pP a.toList with
  |some l=>.agg l
  |none=>.fZ
 | .tuple a=>bif a.toList.isEmpty then .un else .fZ
 |v=>match kN v with
  |some c=>.c c
  |none=>.fZ
def QT(x:Value):(FE x).Is x:=by
 unfold FE;split
 .rfl
 .rfl
 .rename_i a;split
  .rename_i l b;show Value.agg a=.agg (l.map Ce.v).toArray;rw[KK b]
  .trivial
 .rename_i a;cases h:a.toList.isEmpty
  .trivial
  .show Value.tuple a=undef;have:a=#[]:=by simpa using h
   rw[this];rfl
 .split
  .rename_i c a;exact(Nz a).symm
  .trivial
def ev(a:Fr):Operand->SV
 | .tmp t=>(gZ a t).nb
 | .const v=>FE v
 | .global g=>.c (.p g 0)
 | .func f=>.c (.fn (.func f) #[] #[])
structure ka(n:Nat)(fr:Fr)(a:Act):Prop where
 size:a.tmps.size=n
 defers:a.defers=[]
 aG:∀t,(gZ fr t).Is (a.tmps.getD t undef)
def ka.ev{b:Fr}(h:ka n b a)(x:Operand):(ev b x).Is (a.eval x):=by
 cases x with
 |tmp t=>exact SV.Uk (h.aG t)
 |const v=>exact QT v
 |global g=>rfl
 |func f=>rfl
def ka.put{n:Nat}{b:Fr}{a:Act}(h:ka n b a){d:Option Nat}{x:SV}{v:Value}(g:x.Is v)(hd:∀t,d=some t->t<n):
 ka n (uo b d x) (a.put d v):=by
 cases d with
 |none=>exact h
 |some d=>
  refine⟨by simpa[Act.put]using h.size,h.defers,λt=>?_⟩
  have f:d<a.tmps.size:=by rw[h.size];exact hd d rfl
  simp only[uo,gZ,Act.put]
  by_cases e:d=t
  .subst e
   simp only[Nat.beq_refl,jI]
   simpa[f]using SV.Uk g
  .have:Nat.beq d t=false:=by
    cases c:Nat.beq d t
    .rfl
    .exact absurd (bt c) e
   simp only[this,mN]
   have:=h.aG t
   simpa[jS e]using this
def ka.cons{b:Fr}(h:ka n b a)(t:Nat){x:SV}(c:∀v,x.Is v):ka n ((t,x)::b) a:=by
 refine⟨h.size,h.defers,λu=>?_⟩;simp only[gZ];cases d:Nat.beq t u
 .exact h.aG u
 .exact c _
def ka.fZ{b:Fr}(h:ka n b a)(t:Nat):ka n ((t,.fZ)::b) a:=by
 refine⟨h.size,h.defers,λu=>?_⟩;simp only[gZ];cases c:Nat.beq t u
 .exact h.aG u
 .trivial
end Go.Vc
end
section
namespace Go.Vc
variable{P:Program}{t b e:Nat}
inductive Sh where
 |I
 |U (k:IntKind)
 |T
 |S
 |P
 |F
 |M
 deriving DecidableEq
abbrev Sh.ty:Sh->Type
 | .I=>Int
 | .U _=>Int
 | .T=>Bool
 | .S=>O
 | .P=>Nat×Nat
 | .F=>Fn×Array Value×Array Value
 | .M=>Nat
abbrev Sh.mk:(s:Sh)->s.ty->Ce
 | .I,n=>.i n
 | .U k,n=>.u k n
 | .T,x=>.t x
 | .S,x=>.s x
 | .P,q=>.p q.1 q.2
 | .F,v=>.fv v
 | .M,b=>.mp b
def Sh.zero:Sh->Ce
 | .I=>.i 0
 | .U k=>.u k 0
 | .T=>.t false
 | .S=>.s .nil
 | .P=>.pn
 | .F=>.nf
 | .M=>.mn
inductive TK where
 |cell
 |slice (elem:Nat)
 |struct (offs:List (Nat×Nat))
 |tuple (ts:List Nat)
 |map (key elem:Nat)
structure TI where
 HI:TK
 sh:List Sh
 bytes:Nat
abbrev TT:=List (Nat×TI)
def fK:TT->Nat->Option TI
 |[],_=>none
 |(u,x)::r,t=>bif Nat.beq u t then some x else fK r t
def OR:Sh->Value->Bool
 | .I,.int .i64 0=>true
 | .U k,.int a 0=>decide (k=a)
 | .T,.bool false=>true
 | .S,.slice none 0 0=>true
 | .P,.pointer none=>true
 | .F,.nilFunc=>true
 | .M,.map none=>true
 |_,_=>false
def OS{s:Sh}{v:Value}(h:OR s v=true):v=s.zero.v:=by
 unfold OR at h;split at h<;>first|rfl|(simp at h;subst h;rfl)|simp at h
def Fl:List Value->List Sh->Bool
 |[],[]=>true
 |v::b,s::a=>OR s v&&Fl b a
 |_,_=>false
def BG:∀{b:List Value}{a:List Sh},Fl b a=true->b=a.map λs=>s.zero.v
 |[],[],_=>rfl
 |v::b,s::a,h=>by
  simp only[Fl,bN]at h;simp[OS h.1,BG h.2]
 |[],_::_,h=>by simp[Fl]at h
 |_::_,[],h=>by simp[Fl]at h
def NH:List Field->List (Nat×Nat)->Bool
 |[],[]=>true
 |f::a,(o,t)::r=>Nat.beq f.offset o&&Nat.beq f.type t&&NH a r
 |_,_=>false
def Lq:∀{a:List Field}{b:List (Nat×Nat)},NH a b=true->a.map (λf=>(f.offset,f.type))=b
 |[],[],_=>rfl
 |f::a,(o,t)::r,h=>by
  simp only[NH,bN]at h;simp[bt h.1.1,bt h.1.2,Lq h.2]
 |[],_::_,h=>by simp[NH]at h
 |_::_,[],h=>by simp[NH]at h
def Ai:TypeDesc->List Sh->Bool
 | .bool,[.T]=>true
 | .int .i64,[.I]=>true
 | .int k,[.U k']=>decide (k=k')
 | .pointer _,[.P]=>true
 | .func ..,[.F]=>true
 |_,_=>false
def BP(i:TypeInfo)(a:TI)(b:Bool):Bool:=
 Nat.beq i.size a.sh.length&&Nat.beq i.bytes a.bytes&&
 (match i.zero with
  |some (.agg c)=>b&&Fl c.toList a.sh
  |some z=>!b&&Fl [z] a.sh
  |none=>false)
def Y4(t:Nat):Nat:=t+1000000
def Vh(P:Program)(t:Nat):Bool:=
 match P.underlying t with
 |some (.struct a)=>a.toList.all (λf=>f.name != "_")&&!P.stoodInHeld t&&!P.eqGuardType P.depth t
 |_=>false
def yD(P:Program)(t:Nat)(a:TI):Bool:=
 match a.HI with
 | .tuple _=>if t<1000000 then true else Vh P (t -1000000)
 | .slice e=>match P.info? t,P.underlying t with
  |some i,some (.slice b)=>Nat.beq e b&&BP i a false
  |_,_=>false
 | .struct d=>match P.info? t,P.underlying t with
  |some i,some (.struct c)=>NH c.toList d&&BP i a true
  |_,_=>false
 | .map k e=>match P.info? t,P.underlying t with
  |some i,some (.map c b)=>Nat.beq k c&&Nat.beq e b&&BP i a false
  |_,_=>false
 | .cell=>match P.info? t,P.underlying t with
  |some i,some d=>Ai d a.sh&&BP i a false
  |_,_=>false
def uj(P:Program)(T:TT):Prop:=T.all (λx=>yD P x.1 x.2)=true
def Qt:∀{T:TT}{t:Nat}{b:TI},fK T t=some b->(t,b)∈T
 |[],_,_,h=>by simp[fK]at h
 |(u,x)::r,t,b,h=>by
  simp only[fK]at h;cases a:Nat.beq u t
  .rw[a]at h;exact ai _ (Qt h)
  .rw[a]at h;have:=bt a;simp at h;subst h;subst this;exact aX
def uj.yD{T:TT}(h:uj P T){a:TI}(b:fK T t=some a):yD P t a=true:=
 List.all_eq_true.1 h _ (Qt b)
def uj.cmp{T:TT}(h:uj P T){l:List Nat}{c:List Sh}(a:fK T (Y4 t)=some ⟨.tuple l,c,b⟩):Vh P t=true:=by
 have:=h.yD a;simp only[Go.Vc.yD]at this;rw[ae (by unfold Y4;omega),show Y4 t -1000000=t by unfold Y4;omega]at this;exact this
structure Ky(P:Program)(t:Nat)(ti:TI)(agg:Bool):Prop where
 aam:∃i,P.info? t=some i/\i.size=ti.sh.length/\i.bytes=ti.bytes/\
  ∃z,i.zero=some z/\z.cells.toList=(ti.sh.map λs=>s.zero.v)/\(agg=false->∀cs,z≠.agg cs)
def sX{g:TI}{i:TypeInfo}{c:Bool}(j:P.info? t=some i)(h:BP i g c=true):Ky P t g c:=by
 simp only[BP,bN]at h;refine⟨i,j,bt h.1.1,bt h.1.2,?_⟩;have a:=h.2;split at a
 .rename_i d b;simp only[bN]at a;exact⟨_,b,by simpa[Value.cells]using BG a.2,λf=>by rw[f]at a;simp at a⟩
 .rename_i z f b;simp only[bN]at a;refine⟨_,b,?_,λ_ d e=>f d (by rw[e])⟩;have:=BG a.2;rw[<-this];cases z<;>first|rfl|exact(f _ rfl).elim
 .simp at a
def ku{a:List Sh}(h:yD P t ⟨.slice e,a,b⟩=true):P.underlying t=some (.slice e)/\Ky P t ⟨.slice e,a,b⟩ false:=by
 simp only[yD]at h;split at h
 .rename_i i f c d;simp only[bN]at h;have:=bt h.1;subst this;exact⟨d,sX c h.2⟩
 .simp at h
def Cb{k:Nat}{a:List Sh}(h:yD P t ⟨.map k e,a,b⟩=true):P.underlying t=some (.map k e)/\Ky P t ⟨.map k e,a,b⟩ false:=by
 simp only[yD]at h;split at h
 .rename_i j l i f g;simp only[bN]at h;have c:=bt h.1.1;have d:=bt h.1.2;subst c;subst d;exact⟨g,sX f h.2⟩
 .simp at h
def ns{c:List (Nat×Nat)}{d:List Sh}(h:yD P t ⟨.struct c,d,b⟩=true):
 (∃a,P.underlying t=some (.struct a)/\a.toList.map (λf=>(f.offset,f.type))=c)/\Ky P t ⟨.struct c,d,b⟩ true:=by
 simp only[yD]at h
 split at h
 .rename_i i a e f
  simp only[bN]at h
  exact⟨⟨a,f,Lq h.1⟩,sX e h.2⟩
 .simp at h
def oA{a:List Sh}(h:yD P t ⟨.cell,a,b⟩=true):
 (∃d,P.underlying t=some d/\Ai d a=true)/\Ky P t ⟨.cell,a,b⟩ false:=by
 simp only[yD]at h
 split at h
 .rename_i i d c e
  simp only[bN]at h
  exact⟨⟨d,e,h.1⟩,sX c h.2⟩
 .simp at h
def TI.agg(a:TI):Bool:=match a.HI with| .struct _=>true|_=>false
def TI.uN(a:TI):Bool:=match a.HI with| .tuple _=>true|_=>false
def kG{T:TT}(f:uj P T){d:TI}(g:fK T t=some d)(j:d.uN=false)(w:World):
 (sizeOf t).run P w=.ok d.sh.length w:=by
 have h:=f.yD g
 obtain⟨HI,k,b⟩:=d
 have:∃i,P.info? t=some i/\i.size=k.length:=by
  cases HI with
  |cell=>obtain⟨_,⟨i,a,c,_⟩⟩:=oA h;exact⟨i,a,c⟩
  |slice e=>obtain⟨_,⟨i,a,c,_⟩⟩:=ku h;exact⟨i,a,c⟩
  |map l e=>obtain⟨_,⟨i,a,c,_⟩⟩:=Cb h;exact⟨i,a,c⟩
  |struct o=>obtain⟨_,⟨i,a,c,_⟩⟩:=ns h;exact⟨i,a,c⟩
  |tuple l=>simp[TI.uN]at j
 obtain⟨i,a,c⟩:=this
 simp[sizeOf,typeInfo,a,c]
def Gm{T:TT}(g:uj P T){f:TI}(j:fK T t=some f)(k:f.uN=false):
 ∃i,i.bytes=f.bytes/\i.size=f.sh.length/\(∀w,(typeInfo t).run P w=.ok i w)/\P.info? t=some i:=by
 have h:=g.yD j
 obtain⟨HI,l,b⟩:=f
 have:∃i,P.info? t=some i/\i.size=l.length/\i.bytes=b:=by
  cases HI with
  |cell=>obtain⟨_,⟨i,a,c,d,_⟩⟩:=oA h;exact⟨i,a,c,d⟩
  |slice e=>obtain⟨_,⟨i,a,c,d,_⟩⟩:=ku h;exact⟨i,a,c,d⟩
  |map m e=>obtain⟨_,⟨i,a,c,d,_⟩⟩:=Cb h;exact⟨i,a,c,d⟩
  |struct o=>obtain⟨_,⟨i,a,c,d,_⟩⟩:=ns h;exact⟨i,a,c,d⟩
  |tuple m=>simp[TI.uN]at k
 obtain⟨i,a,c,d⟩:=this
 exact⟨i,d,c,λw=>by simp[typeInfo,a],a⟩
def wz{T:TT}(m:uj P T){k:TI}(n:fK T t=some k)(o:k.uN=false):
 ∃z,z.cells.toList=k.sh.map (λs=>s.zero.v)/\(∀w,(zeroValue t).run P w=.ok z w)/\(k.agg=false->∀a,z≠.agg a):=by
 have h:=m.yD n
 obtain⟨HI,l,b⟩:=k
 have:∃i,P.info? t=some i/\∃z,i.zero=some z/\z.cells.toList=(l.map λs=>s.zero.v)/\((TI.mk HI l b).agg=false->∀a,z≠.agg a):=by
  cases HI with
  |cell=>obtain⟨_,⟨i,a,g,j,z,c,d,f⟩⟩:=oA h;exact⟨i,a,z,c,d,λ_=>f rfl⟩
  |slice e=>obtain⟨_,⟨i,a,g,j,z,c,d,f⟩⟩:=ku h;exact⟨i,a,z,c,d,λ_=>f rfl⟩
  |map p e=>obtain⟨_,⟨i,a,g,j,z,c,d,f⟩⟩:=Cb h;exact⟨i,a,z,c,d,λ_=>f rfl⟩
  |struct p=>obtain⟨_,⟨i,a,g,j,z,c,d,f⟩⟩:=ns h;exact⟨i,a,z,c,d,λh=>by simp[TI.agg]at h⟩
  |tuple d=>simp[TI.uN]at o
 obtain⟨i,a,z,g,j,c⟩:=this
 exact⟨z,j,λw=>by simp[zeroValue,typeInfo,a,g],c⟩
def HZ{T:TT}(d:uj P T){a:TI}(f:fK T t=some a)(g:a.uN=false)(w:World):
 (isAgg t).run P w=.ok a.agg w:=by
 have h:=d.yD f
 obtain⟨HI,j,b⟩:=a
 cases HI with
 |cell=>
  obtain⟨⟨i,hd,c⟩,_⟩:=oA h
  unfold Ai at c
  split at c<;>first|(simp at c;done)|simp[isAgg,run_underlying hd,TI.agg]
 |slice e=>obtain⟨hd,_⟩:=ku h;simp[isAgg,run_underlying hd,TI.agg]
 |map k e=>obtain⟨hd,_⟩:=Cb h;simp[isAgg,run_underlying hd,TI.agg]
 |struct o=>obtain⟨⟨c,hd,_⟩,_⟩:=ns h;simp[isAgg,run_underlying hd,TI.agg]
 |tuple c=>simp[TI.uN]at g
end Go.Vc
end
section
namespace Go.Vc
def lC:SV->Option Bool
 | .tt=>some true
 | .ff=>some false
 | .c (.t x)=>some x
 |_=>none
def SV.jJ:SV->Bool
 | .fZ=>false
 | .box _ _ _=>false
 | .zJ _ _ _=>false
 |_=>true
def cR(n:Int):Int:=IntKind.i64.wrap n
def HO{α:Type}:List α->Nat->Option α
 |[],_=>none
 |x::_,0=>some x
 |_::r,n+1=>HO r n
def pV{α:Type}:∀(l:List α)(n:Nat),HO l n=l[n]?
 |[],_=>by simp[HO]
 |x::_,0=>by simp[HO]
 |_::r,n+1=>by simp[HO,pV r n]
def Wg(m:E)(b o:Nat):Nat->List Sh->(List Ce->Prop)->Prop
 |_,[],k=>k []
 |j,s::r,k=>∃x:s.ty,af m b (o+j)=some (s.mk x).v/\Wg m b o (j+1) r λl=>k (s.mk x::l)
def VI(a b:Int):Int:=cR ((a%18446744073709551616).toNat^^^(b%18446744073709551616).toNat:Nat)
def sg(c:BinOp)(a b:Int)(k:SV->Prop):Prop:=
 match c with
 | .add=>k (.c (.i (cR (a+b))))
 | .sub=>k (.c (.i (cR (a -b))))
 | .mul=>k (.c (.i (cR (a*b))))
 | .quo=>b≠0/\k (.c (.i (cR (a.tdiv b))))
 | .rem=>b≠0/\k (.c (.i (a.tmod b)))
 | .xor=>k (.c (.i (VI a b)))
 | .eql=>k (.c (.t (a==b)))
 | .neq=>k (.c (.t (a !=b)))
 | .lss=>k (.c (.t (decide (a<b))))
 | .leq=>k (.c (.t (decide (a<=b))))
 | .gtr=>k (.c (.t (decide (a>b))))
 | .geq=>k (.c (.t (decide (a>=b))))
 |_=>False
def Vb(c:BinOp)(a b:Bool)(k:SV->Prop):Prop:=
 match c with
 | .eql=>k (.c (.t (a==b)))
 | .neq=>k (.c (.t (!(a==b))))
 |_=>False
def Vr(a:BinOp)(s:O)(k:SV->Prop):Prop:=
 match a with
 | .eql=>k (.c (.t s.Gc))
 | .neq=>k (.c (.t (!s.Gc)))
 |_=>False
def ZM(a:UnOp)(x:SV)(k:SV->Prop):Prop:=
 match a,x with
 | .not,.tt=>k .ff
 | .not,.ff=>k .tt
 | .not,.c (.t b)=>k (.c (.t (!b)))
 | .neg,.c (.i n)=>k (.c (.i (cR (0 -n))))
 |_,_=>False
def O.cut(x:O)(a d e:Nat):O:=
 match x with
 | .nil=>.nil
 | .mk b o _ c=>.mk b (if c=a then o else o+a*e) (d -a) (c -a)
 | .zP b o c=>.zP b o c
def SV.cells:SV->Option (List Ce)
 | .c x=>some [x]
 | .tt=>some [.t true]
 | .ff=>some [.t false]
 | .agg l=>some l
 |_=>none
def mr(l:List Ce)(b:Nat)(a:List Ce):List Ce:=
 match b,l with
 |0,l=>match a,l with
  |[],l=>l
  |n::a,_::l=>n::mr l 0 a
  |_::_,[]=>[]
 |b+1,x::l=>x::mr l b a
 |_+1,[]=>[]
termination_by structural l
def FA(T:TT)(c:Fr)(e:List (Nat×Nat)):List Ce->List (Nat×Operand)->(List Ce->Prop)->Prop
 |a,[],k=>k a
 |a,(i,x)::r,k=>
  match HO e i,(ev c x).cells with
  |some (d,t),some b=>
   match fK T t with
   |some f=>bif !f.uN&&Nat.beq b.length f.sh.length&&Nat.ble (d+b.length) a.length then FA T c e (mr a d b) r k else False
   |none=>False
  |_,_=>False
def vu(T:TT):List (Nat×Nat)->Bool
 |[]=>true
 |(_,t)::r=>(match fK T t with|some a=>!a.uN|none=>false)&&vu T r
def MS(a:Fr)(x:Option Operand)(d:Int)(k:Int->Prop):Prop:=
 match x with
 |none=>k d
 |some x=>match ev a x with
  | .c (.i n)=>k n
  |_=>False
def Xz(T:TT)(t:Nat)(s:O)(n:Int)(k:SV->Prop):Prop:=
 match fK T t with
 |some ⟨.slice e,_,_⟩=>match fK T e with
  |some a=>bif a.uN then False else 0<=n/\n<(s.len:Int)/\k (.c (.p s.D (s.off+n.toNat*a.sh.length)))
  |none=>False
 |_=>False
def P4(T:TT)(m:E)(t b o:Nat)(k:SV->Prop):Prop:=
 match fK T t with
 |some ⟨.struct _,a,_⟩=>Wg m b o 0 a λl=>k (.agg l)
 |some ⟨.cell,[s],_⟩=>∃x:s.ty,af m b o=some (s.mk x).v/\k (.c (s.mk x))
 |some ⟨.slice _,[_],_⟩=>∃x:O,af m b o=some x.v/\k (.c (.s x))
 |_=>False
def Rq(T:TT)(a:Fr)(t:Nat)(s:O)(d c:Option Operand)(k:SV->Prop):Prop:=
 match fK T t with
 |some ⟨.slice e,_,_⟩=>match fK T e with
  |some b=>bif b.uN then False else
   MS a d 0 λl=>MS a c (s.len:Int) λh=>0<=l/\l<=h/\h<=(s.cap:Int)/\k (.c (.s (s.cut l.toNat h.toNat b.sh.length)))
  |none=>False
 |_=>False
def Oy(T:TT)(t f:Nat)(l:List Ce)(k:SV->Prop):Prop:=
 match fK T t with
 |some ⟨.struct c,_,_⟩=>match HO c f with
  |some (b,u)=>match fK T u with
   |some a=>bif a.uN then False else bif a.agg then k (.agg ((l.drop b).take a.sh.length))else(match HO l b with|some x=>k (.c x)|none=>False)
   |none=>False
  |none=>False
 |_=>False
def FH(T:TT)(t f o:Nat)(mk:Nat->SV)(k:SV->Prop):Prop:=
 match fK T t with
 |some ⟨.struct c,_,_⟩=>match HO c f with
  |some (b,u)=>match fK T u with
   |some a=>bif a.uN||Nat.beq a.sh.length 0 then False else k (mk (o+b))
   |none=>False
  |none=>False
 |_=>False
def rZ(a b:Nat)(k:Prop):Prop:=a=b/\k
def aC(b:Nat)(k:Prop):rZ b b k=k:=by simp[rZ]
def Hb:List Ce->Nat->Nat->Option (List Ce)
 |_,_,0=>some []
 |l,o,n+1=>match HO l o,Hb l (o+1) n with
  |some c,some r=>some (c::r)
  |_,_=>none
def Nx(T:TT)(t:Nat)(a:List Ce)(o:Nat)(k:SV->Prop):Prop:=
 match fK T t with
 |some ⟨.struct _,b,_⟩=>match Hb a o b.length with
  |some l=>k (.agg l)
  |none=>False
 |some ⟨.cell,[_],_⟩=>match HO a o with
  |some c=>k (.c c)
  |none=>False
 |some ⟨.slice _,[_],_⟩=>match HO a o with
  |some c=>k (.c c)
  |none=>False
 |some ⟨.map _ _,[_],_⟩=>match HO a o with
  |some c=>k (.c c)
  |none=>False
 |_=>False
def TH(T:TT)(c:Fr)(d:Builtin)(e:List Nat)(f:List Operand)(k:SV->Prop):Prop:=
 match d,e,f with
 | .len,[t],[x]=>match fK T t,ev c x with
  |some ⟨.slice _,_,_⟩,.c (.s s)=>k (.c (.i (s.len:Int)))
  |_,_=>False
 | .max,_,[x,y]=>match ev c x,ev c y with
  | .c (.i a),.c (.i b)=>k (.c (.i (if b>a then b else a)))
  |_,_=>False
 | .min,_,[x,y]=>match ev c x,ev c y with
  | .c (.i a),.c (.i b)=>k (.c (.i (if b<a then b else a)))
  |_,_=>False
 |_,_,_=>False
def X0(T:TT):Nat->List (Nat×Nat)->List Ce->List Ce->Option Bool
 |_,[],[],[]=>some true
 |i,(o,u)::c,.i a::l,.i b::r=>bif Nat.beq o i then match fK T u,X0 T (i+1) c l r with
  |some ⟨.cell,[.I],_⟩,some z=>some (a==b&&z)
  |_,_=>none else none
 |_,_,_,_=>none
def eqA(T:TT)(t:Nat)(l r:List Ce)(k:SV->Prop):Prop:=
 match fK T (Y4 t),fK T t with
 |some ⟨.tuple _,_,_⟩,some ⟨.struct a,_,_⟩=>match X0 T 0 a l r with
  |some z=>k (.c (.t z))
  |none=>False
 |_,_=>False
def rd(T:TT)(a:Fr)(m:E)(k:SV->Prop):Op->Prop
 | .move x| .assign x=>k (ev a x)
 | .pick d c b=>match ev a d with
  | .tt=>k (ev a c)
  | .ff=>k (ev a b)
  | .c (.t x)=>match lC (ev a c),lC (ev a b)with
   |some y,some z=>k (.c (.t (bif x then y else z)))
   |_,_=>False
  |_=>False
 | .nilCheck x=>match ev a x with
  | .c (.p b o)=>k (.c (.p b o))
  | .c (.bp q b o)=>k (.c (.bp q b o))
  | .c (.fn (.func f) c d)=>k (.c (.fn (.func f) c d))
  | .c (.fv q)=>∃g,q.1=.func g/\k (.c (.fv q))
  |_=>False
 | .binOp d t x y _=>match ev a x,ev a y with
  | .c (.i c),.c (.i b)=>sg d c b k
  | .c (.s s),.c (.s .nil)=>match fK T t with
   |some ⟨.slice _,_,_⟩=>Vr d s k
   |_=>False
  | .agg l,.agg r=>match d with
   | .eql=>eqA T t l r k
   |_=>False
  |sx,e=>match fK T t,lC sx,lC e with
   |some ⟨.cell,[.T],_⟩,some c,some b=>Vb d c b k
   |_,_,_=>False
 | .unOp d _ x=>ZM d (ev a x) k
 | .convert s t x=>match fK T s,fK T t,ev a x with
  |some ⟨.cell,[_],_⟩,some ⟨.cell,[.I],_⟩,.c (.u _ n)=>k (.c (.i (cR n)))
  |_,_,_=>False
 | .fieldAddr t x f=>match ev a x with
  | .c (.p b o)=>FH T t f o (λo=>.c (.p b o)) k
  | .c (.bp q b o)=>FH T t f o (λo=>.c (.bp q b o)) k
  |_=>False
 | .field t x f=>match ev a x with
  | .agg l=>Oy T t f l k
  |_=>False
 | .indexAddr t x i=>match ev a x,ev a i with
  | .c (.s s),.c (.i n)=>Xz T t s n k
  |_,_=>False
 | .load t x=>match ev a x with
  | .c (.p b o)=>P4 T m t b o k
  | .c (.bp q b o)=>match gZ a q with
   | .box c _ d=>rZ c b (Nx T t d o k)
   | .zJ c _ d=>rZ c b (Nx T t d o k)
   |_=>P4 T m t b o k
  |_=>False
 | .extract x i=>match ev a x with
  | .XN l=>match HO l i with
   |some y=>k y.sv
   |none=>False
  |_=>False
 | .slice t x c b none=>match ev a x with
  | .c (.s s)=>Rq T a t s c b k
  |_=>False
 | .build t c=>match fK T t with
  |some ⟨.struct b,d,_⟩=>bif vu T b then FA T a b (d.map Sh.zero) c.toList λl=>k (.agg l)else False
  |_=>False
 | .call ⟨.builtin c,b,d⟩=>TH T a c d.toList b.toList k
 |_=>False
def lQ(a:Fr)(q b e:Nat)(l:List Ce):Prop:=gZ a q=.box b e l\/gZ a q=.zJ b e l
structure Bx(n:Nat)(fr:Fr)(m:E):Prop where
 D:∀q b e l,lQ fr q b e l->m[b]? =some (.cells (l.map Ce.v).toArray e)
 Oq:∀q q' b e l b' e' l',q≠q'->lQ fr q b e l->lQ fr q' b' e' l'->b≠b'
 key:∀q b e l,lQ fr q b e l->n<=q
def Ti(T:TT)(c:Fr):Op->List (Nat×Nat)
 | .load t x=>match ev c x,fK T t with
  | .c (.p b o),some a=>(List.range a.sh.length).map λj=>(b,o+j)
  | .c (.bp _ b o),some a=>(List.range a.sh.length).map λj=>(b,o+j)
  |_,_=>[]
 |_=>[]
end Go.Vc
end
section
namespace Go.Vc
variable{s:SV}{b:Bool}
def SV.Is.eq{v:Value}(h:s.Is v)(a:s.jJ=true):v=s.v:=by
 cases s<;>first|exact h|simp[SV.jJ]at a
def nV(s:SV):s.Is s.v:=by cases s<;>first|rfl|trivial
def ka.eq{n:Nat}{b:Fr}{a:Act}(h:ka n b a){x:Operand}{s:SV}(c:Vc.ev b x=s)(d:s.jJ=true):a.eval x=s.v:=by
 have:=h.ev x;rw[c]at this;exact this.eq d
def xh(h:lC s=some b):s.jJ=true/\s.v=.bool b:=by
 unfold lC at h;split at h<;>simp_all [SV.jJ,SV.v,Ce.v]
def ka.ZI{n:Nat}{c:Fr}{a:Act}(h:ka n c a){x:Operand}(d:lC (Vc.ev c x)=some b):a.eval x=.bool b:=by
 rw[h.eq rfl (xh d).1,(xh d).2]
def vT(b o n:Nat):(⟨b,o,none⟩:Addr).add n=⟨b,o+n,none⟩:=by
 unfold Addr.add;split
 .rename_i h;subst h;rfl
 .rfl
def BU:∀(l:List Ce)(a:Nat)(b:List Ce)(i:Nat),a+b.length<=l.length->
 (mr l a b)[i]? =if a<=i/\i<a+b.length then b[i -a]? else l[i]?
 |[],0,[],i,_=>by simp[mr]
 |[],0,_::_,_,h=>by simp at h
 |[],_+1,_,_,h=>by simp at h
 |x::l,0,[],i,_=>by simp[mr]
 |x::l,0,n::b,i,h=>by
  simp only[mr];cases i with
  |zero=>simp
  |succ i=>
   have:=BU l 0 b i (by simp at h;omega);simp only[gX,this];simp
 |x::l,a+1,b,i,h=>by
  simp only[mr];cases i with
  |zero=>simp
  |succ i=>
   have:=BU l a b i (by simp at h;omega);simp only[gX,this];have e:(i+1 -(a+1))=i -a:=V;simp only[e];congr 1;simp;omega
def ND(c:List Value):∀(k a:Nat)(b:Array Value)(i:Nat),
 ((c.zipIdx k).foldl (λ(d:Array Value)(p:Value×Nat)=>d.setIfInBounds (a+p.2) p.1) b)[i]? =
  if a+k<=i/\i<a+k+c.length/\i<b.size then c[i -(a+k)]? else b[i]? :=by
 induction c with
 |nil=>intro k a b i;simp;intro h;omega
 |cons v c g=>
  intro k a b i
  simp only[List.zipIdx_cons,List.foldl_cons,g,Array.size_setIfInBounds,aV]
  by_cases d:i=a+k
  .subst d
   by_cases e:a+k<b.size
   .simp[e];try omega
   .simp[e];try omega
  .have:¬(a+k=i):=λf=>d f.symm
   rw[jS this]
   by_cases e:a+k<=i/\i<a+k+(c.length+1)/\i<b.size
   .rw[aj e,aj V]
    have:i -(a+k)=(i -(a+(k+1)))+1:=V
    rw[this,gX]
   .rw[ae e,ae V]
def pO{l:List Ce}(h:s.cells=some l):s.jJ=true/\s.v.cells=(l.map Ce.v).toArray:=by
 cases s with
 |c x=>simp[SV.cells]at h;subst h;exact⟨rfl,by simp[SV.v,Ce.kY]⟩
 |tt=>simp[SV.cells]at h;subst h;exact⟨rfl,rfl⟩
 |ff=>simp[SV.cells]at h;subst h;exact⟨rfl,rfl⟩
 |agg a=>simp[SV.cells]at h;subst h;exact⟨rfl,rfl⟩
 |XN _=>simp[SV.cells]at h
 |un=>simp[SV.cells]at h
 |fZ=>simp[SV.cells]at h
 |box _ _ _=>simp[SV.cells]at h
 |zJ _ _ _=>simp[SV.cells]at h
end Go.Vc
end
section
namespace Go.Vc
variable{x y:Operand}{c:TypeId}{h b f o:Nat}{g:List Ce}
variable{e:Program}{T:TT}
def pb(e:Program)(T:TT)(b:Fr)(m:E)(a:Act)(o:Oper)(k:SV->Prop):Prop:=
 ∃x v,k x/\x.Is v/\∀w:World,(∀q∈Ti T b o.op,af w.heap q.1 q.2=af m q.1 q.2)->(execOp a.eval o).run e w=.ok (.value v) w
section
variable{n:Nat}{i:Fr}{a:Act}{j:E}{k:SV->Prop}{q:Option Tmp}{v:TypeId}{u:String}{p:Array Edge}{r:Option (Nat×Bool)}
def Uc(b:ka n i a)(h:k (ev i x)):pb e T i j a ⟨q,.move x,v,u,p,r⟩ k:=
 ⟨_,_,h,b.ev x,λw _=>by simp[execOp]⟩
def SH(b:ka n i a)(h:k (ev i x)):pb e T i j a ⟨q,.assign x,v,u,p,r⟩ k:=
 ⟨_,_,h,b.ev x,λw _=>by simp[execOp]⟩
def Q6(c:ka n i a){f:Operand}(h:rd T i j k (.pick f x y)):pb e T i j a ⟨q,.pick f x y,v,u,p,r⟩ k:=by
 simp only[rd]at h;split at h
 .rename_i d;exact⟨_,_,h,c.ev x,λw _=>by simp[execOp,c.eq d rfl,SV.v,asBool]⟩
 .rename_i d;exact⟨_,_,h,c.ev y,λw _=>by simp[execOp,c.eq d rfl,SV.v,asBool]⟩
 .rename_i b d;split at h
  .rename_i m o g l;refine⟨_,_,h,nV _,λw _=>?_⟩;simp[execOp,c.eq d rfl,SV.v,Ce.v,asBool,c.ZI g,c.ZI l];try (cases b<;>rfl)
  .exact h.elim
 .exact h.elim
def KX(d:ka n i a)(h:rd T i j k (.nilCheck x)):pb e T i j a ⟨q,.nilCheck x,v,u,p,r⟩ k:=by
 simp only[rd]at h;split at h
 .rename_i b o c;exact⟨_,_,h,nV _,λw _=>by simp[execOp,d.eq c rfl,SV.v,Ce.v]⟩
 .rename_i m b o c;exact⟨_,_,h,nV _,λw _=>by simp[execOp,d.eq c rfl,SV.v,Ce.v]⟩
 .rename_i f g l c;exact⟨_,_,h,nV _,λw _=>by simp[execOp,d.eq c rfl,SV.v,Ce.v]⟩
 .rename_i m c;obtain⟨s,g,l⟩:=h;exact⟨_,_,l,nV _,λw _=>by simp[execOp,d.eq c rfl,SV.v,Ce.v,g]⟩
 .exact h.elim
def Vd{a:BinOp}{x y:Int}(h:sg a x y k):∃s v,k s/\s.Is v/\∀w:World,(binOp a c (.int .i64 x) (.int .i64 y)).run e w=.ok v w:=by
 cases a<;>simp only[sg]at h
 case quo=>exact⟨_,_,h.2,nV _,λw=>by simp[binOp,Op.intDiv,h.1,SV.v,Ce.v,cR]⟩
 case rem=>exact⟨_,_,h.2,nV _,λw=>by simp[binOp,Op.intDiv,h.1,SV.v,Ce.v]⟩
 case xor=>exact⟨_,_,h,nV _,λw=>by simp[binOp,Op.intBits,SV.v,Ce.v,cR,VI,IntKind.bits];rfl⟩
 all_goals exact⟨_,_,h,nV _,λw=>by simp[binOp,Op.intArith,Op.intCmp,SV.v,Ce.v,cR]⟩
def PM(a:BinOp)(c:TypeId)(d f:Operand)(b:IntKind)(x:Int)(y:Value)(w:World):(eqGuard a c d f (.int b x) y).run e w=.ok () w:=by
 cases a<;>simp[eqGuard]
def Ow(a:BinOp)(c:TypeId)(b d:Operand)(x:Bool)(y:Value)(w:World):(eqGuard a c b d (.bool x) y).run e w=.ok () w:=by
 cases a<;>simp[eqGuard]
def QY(hd:e.underlying c=some .bool)(x y:Bool)(w:World):(Op.equal c (.bool x) (.bool y)).run e w=.ok (x==y) w:=by
 have:Op.equal c (.bool x) (.bool y)=Op.equalIn (9999+1) c (.bool x) (.bool y):=rfl;rw[this];generalize 9999=h;simp[Op.equalIn,run_underlying hd]
def Jz{a:TypeId}(hd:e.underlying c=some (.slice a))(s:O)(w:World):(Op.equal c s.v (.slice none 0 0)).run e w=.ok s.Gc w:=by
 have:Op.equal c s.v (.slice none 0 0)=Op.equalIn (9999+1) c s.v (.slice none 0 0):=rfl;rw[this];generalize 9999=h;cases s<;>simp[Op.equalIn,run_underlying hd,O.v]
def PN(hd:e.underlying c=some (.int .i64))(x y:Int)(w:World):(Op.equalIn (h+1) c (.int .i64 x) (.int .i64 y)).run e w=.ok (x==y) w:=by
 simp[Op.equalIn,run_underlying hd]
def Qb(d:uj e T){u:Nat}(f:fK T u=some ⟨.cell,[.I],b⟩){a:Array Value}{c:Nat}{v:Value}(h:a[c]? =some v)(w:World):(part u a c).run e w=.ok v w:=by
 simp[part,HZ d f rfl,TI.agg,h]
def T5(n:uj e T){X Y:Array Value}(A:World):∀(j:List Field)(i:Nat)(l:List (Nat×Nat))(g r:List Ce)(z:Bool),j.map (λf=>(f.offset,f.type))=l->(∀f∈j,f.name≠ "_")->
 (∀k d,g[k]? =some d->X[i+k]? =some d.v)->(∀k d,r[k]? =some d->Y[i+k]? =some d.v)->X0 T i l g r=some z->
 (forIn (m:=Sem) j ((none,()):Option Bool×PUnit) λf _=>do
  if f.name≠ "_" then
   if !(<-Op.equalIn (h+1) f.type (<-part f.type X f.offset) (<-part f.type Y f.offset))then pure (.done (some false,()))else pure (.yield (none,()))
  else pure (.yield (none,()))).run e A=.ok (if z=true then(none,())else(some false,())) A:=by
 intro j
 induction j with
 |nil=>
  intro i l g r z u v p q c
  subst u
  cases g<;>cases r<;>simp[X0]at c
  subst c
  simp
 |cons f j K=>
  intro i l g r z u v p q c
  subst u
  simp only[cG]at c
  unfold X0 at c
  split at c
  .simp at*
  .rename_i i _ _ _ _ o N l a g b r C
   obtain⟨⟨rfl,rfl⟩,rfl⟩:=by simpa using C
   cases s:Nat.beq f.offset i
   .rw[s]at c;simp at c
   .rw[s]at c;simp only[jI]at c
    have x:=bt s
    split at c
    .rename_i M L w J
     simp only[DG]at c
     obtain⟨⟨B,D,y⟩,_⟩:=oA (n.yD w)
     have F:B=.int .i64:=by unfold Ai at y;split at y<;>simp_all
     subst F
     have H:X[f.offset]? =some (.int .i64 a):=by have:=p 0 (.i a) rfl;rw[x];exact this
     have I:Y[f.offset]? =some (.int .i64 b):=by have:=q 0 (.i b) rfl;rw[x];exact this
     have G:=K (i+1) _ g r L rfl (λt E=>v t (ai _ E)) (λk d t=>by have:=p (k+1) d (by simpa using t);rw[<-this];congr 1;omega) (λk d t=>by have:=q (k+1) d (by simpa using t);rw[<-this];congr 1;omega) J
     rw[List.forIn_cons,Sem.run_bind,aj (v f aX)]
     simp only[Sem.run_bind,Qb n w H,Qb n w I,Result.andThen_ok,PN D]
     cases t:(a==b)
     .rw[t]at c;subst c;simp
     .rw[t]at c;simp only[N3]at c;subst c
      simp only[NZ,ig,qv,Sem.run_pure,Result.andThen_ok]
      exact G
    .simp at c
  .simp at c
def Ox(j:uj e T){a:Array Field}(p:e.underlying c=some (.struct a))(o:e.stoodInHeld c=false)(n:∀f∈a.toList,f.name≠ "_"){r:List Ce}{z:Bool}
 (l:X0 T 0 (a.toList.map λf=>(f.offset,f.type)) g r=some z)(w:World):(Op.equal c (.agg (g.map Ce.v).toArray) (.agg (r.map Ce.v).toArray)).run e w=.ok z w:=by
 have:Op.equal c (.agg (g.map Ce.v).toArray) (.agg (r.map Ce.v).toArray)=Op.equalIn (9998+1+1) c (.agg (g.map Ce.v).toArray) (.agg (r.map Ce.v).toArray):=rfl
 rw[this]
 generalize 9998=h
 rw[Op.equalIn]
 simp only[Sem.run_bind,run_underlying p,Result.andThen_ok]
 have m:=T5 j (h:=h) (X:=(g.map Ce.v).toArray) (Y:=(r.map Ce.v).toArray) w a.toList 0 _ g r z rfl n (λk i b=>by simp[b]) (λk i b=>by simp[b]) l
 have b:(program:Sem Program).run e w=.ok e w:=rfl
 rw[b,Result.andThen_ok,ae (by simp[o]),Sem.run_bind,<-Array.forIn_toList,m]
 cases z<;>rfl
def SC(h:Vh e c=true):∃a,e.underlying c=some (.struct a)/\(∀f∈a.toList,f.name≠ "_")/\e.stoodInHeld c=false/\e.eqGuardType e.depth c=false:=by
 unfold Vh at h;split at h
 .rename_i a b;simp only[bN,List.all_eq_true,vK,iK]at h;exact⟨a,b,h.1.1,h.1.2,h.2⟩
 .cases h
def PL(h:e.eqGuardType e.depth c=false)(f g:Operand)(a b:Array Value)(w:World):(eqGuard .eql c f g (.agg a) (.agg b)).run e w=.ok () w:=by
 have d:(program:Sem Program).run e w=.ok e w:=rfl;simp only[eqGuard,Sem.run_bind];simp[d,h]
def MH(a:BinOp)(c:TypeId)(b d:Operand)(s:O)(y:Value)(w:World):(eqGuard a c b d s.v y).run e w=.ok () w:=by
 cases s<;>cases a<;>simp[eqGuard,O.v]
def PU(m:uj e T)(d:ka n i a){z:BinOp}{D:TypeId}(b:rd T i j k (.binOp z c x y D)):pb e T i j a ⟨q,.binOp z c x y D,v,u,p,r⟩ k:=by
 simp only[rd]at b;split at b
 .rename_i L M f l;obtain⟨s,E,A,w,C⟩:=Vd (e:=e) (c:=c) b;refine⟨s,E,A,w,λB _=>?_⟩;simp only[execOp,d.eq f rfl,d.eq l rfl,SV.v,Ce.v,Sem.run_bind];simp[PM,C]
 .rename_i s f l;split at b
  .rename_i I J H A;have w:=(ku (m.yD A)).1;have F:a.eval x=s.v:=d.eq f rfl;have G:a.eval y=.slice none 0 0:=d.eq l rfl;cases z<;>simp only[Vr]at b
   all_goals
    first
    |exact b.elim
    |exact⟨_,_,b,nV _,λB _=>by
     have C:∀o:BinOp,o=.eql\/o=.neq->binOp o c s.v (.slice none 0 0)=(if o=.eql then(do pure (.bool (<-Op.equal c s.v (.slice none 0 0))))else(do pure (.bool (!(<-Op.equal c s.v (.slice none 0 0)))))):=by
      intro o E;rcases E with rfl|rfl<;>cases s<;>rfl
     simp only[execOp,F,G,Sem.run_bind,MH,Result.andThen_ok];rw[C _ aJ];simp[Jz w,SV.v,Ce.v]⟩
  .exact b.elim
 .rename_i g N f l;split at b
  .unfold eqA at b;split at b
   .rename_i G A;split at b
    .rename_i R C;obtain⟨O,w,J,K,H⟩:=SC (m.cmp G);obtain⟨⟨Q,s,I⟩,_⟩:=ns (m.yD A);rw[w]at s;obtain rfl:=(TypeDesc.struct.inj (mq s));rw[<-I]at C;refine⟨_,_,b,nV _,λB _=>?_⟩;have E:a.eval x=.agg (g.map Ce.v).toArray:=d.eq f rfl;have F:a.eval y=.agg (N.map Ce.v).toArray:=d.eq l rfl;simp only[execOp,E,F,Sem.run_bind,PL H,Result.andThen_ok,binOp,Ox m w K J C];rfl
    .exact b.elim
   .exact b.elim
  .exact b.elim
 .split at b
  .rename_i L M w f l;obtain⟨⟨h,hd,A⟩,_⟩:=oA (m.yD w);have s:h=.bool:=by
    cases h<;>simp_all [Ai]
   subst s;cases z<;>simp only[Vb]at b
   all_goals
    first
    |exact b.elim
    |exact⟨_,_,b,nV _,λB _=>by
     simp only[execOp,d.ZI f,d.ZI l,Sem.run_bind,Ow,Result.andThen,binOp,QY hd];rfl⟩
  .exact b.elim
def ML(d:uj e T)(l:ka n i a){s:TypeId}(b:rd T i j k (.convert s c x)):pb e T i j a ⟨q,.convert s c x,v,u,p,r⟩ k:=by
 simp only[rd]at b;split at b
 .rename_i B b1 b2 z A t w y;obtain⟨⟨h,hd,_⟩,_⟩:=oA (d.yD t);obtain⟨⟨g,m,f⟩,_⟩:=oA (d.yD w);have o:g=.int .i64:=by unfold Ai at f;split at f<;>simp_all
  subst o;exact⟨_,_,b,nV _,λC _=>by
   simp only[execOp,l.eq y rfl,SV.v,Ce.v,Sem.run_bind];simp[convert,run_underlying hd,run_underlying m,Conv.intToInt,cR]⟩
 .exact b.elim
def Q7(b:ka n i a){f:UnOp}(h:rd T i j k (.unOp f c x)):pb e T i j a ⟨q,.unOp f c x,v,u,p,r⟩ k:=by
 simp only[rd]at h;generalize d:ev i x=sx at h;unfold ZM at h;split at h
 .exact⟨_,_,h,nV _,λw _=>by simp[execOp,b.eq d rfl,SV.v,Op.unary]⟩
 .exact⟨_,_,h,nV _,λw _=>by simp[execOp,b.eq d rfl,SV.v,Op.unary]⟩
 .exact⟨_,_,h,nV _,λw _=>by simp[execOp,b.eq d rfl,SV.v,Ce.v,Op.unary]⟩
 .exact⟨_,_,h,nV _,λw _=>by simp[execOp,b.eq d rfl,SV.v,Ce.v,Op.unary,Op.intArith,cR]⟩
 .exact h.elim
def Dm(l:uj e T)(L:ka n i a){mk:Nat->SV}(E:∀o,(mk o).v=.pointer (some ⟨b,o,none⟩))(J:a.eval x=.pointer (some ⟨b,o,none⟩))(h:FH T c f o mk k):
 pb e T i j a ⟨q,.fieldAddr c x f,v,u,p,r⟩ k:=by
 unfold FH at h
 split at h
 .rename_i N O K H
  split at h
  .rename_i M P s
   split at h
   .rename_i g I
    cases d:(g.uN||Nat.beq g.sh.length 0)
    .rw[d]at h
     simp only[bu]at d
     obtain⟨⟨z,C,D⟩,_⟩:=ns (l.yD H)
     rw[pV,<-D,cU]at s
     obtain⟨y,A,m⟩:=Option.map_eq_some_iff.1 s
     simp only[Oc]at m
     obtain⟨rfl,rfl⟩:=m
     have G:=λw=>kG l I d.1 w
     have F:g.sh.length≠0:=λt=>by rw[t]at d;simp at d
     refine⟨_,_,h,nV _,λw _=>?_⟩
     have B:z[f]? =some y:=by simpa using A
     rw[E]
     simp[execOp,Instr.fieldAt,J,run_underlying C,B,Instr.sureAddr,fieldPlace,G,F,vT]
    .rw[d]at h;exact h.elim
   .exact h.elim
  .exact h.elim
 .exact h.elim
def JA(l:uj e T)(d:ka n i a)(h:rd T i j k (.fieldAddr c x f)):pb e T i j a ⟨q,.fieldAddr c x f,v,u,p,r⟩ k:=by
 simp only[rd]at h;split at h
 .rename_i b o g;exact Dm l d (λo=>rfl) (d.eq g rfl) h
 .rename_i m b o g;exact Dm l d (λo=>rfl) (d.eq g rfl) h
 .exact h.elim
def PW(l:uj e T)(m:ka n i a)(h:rd T i j k (.field c x f)):pb e T i j a ⟨q,.field c x f,v,u,p,r⟩ k:=by
 simp only[rd]at h;split at h
 .rename_i g C;unfold Oy at h;split at h
  .rename_i N O L K;split at h
   .rename_i M P A;split at h
    .rename_i E B;cases b:E.uN
     .rw[b]at h;obtain⟨⟨G,z,I⟩,_⟩:=ns (l.yD K);rw[pV,<-I,cU]at A;obtain⟨F,H,s⟩:=Option.map_eq_some_iff.1 A;simp only[Oc]at s;obtain⟨rfl,rfl⟩:=s;have J:=λw=>kG l B b w;have o:=λw=>HZ l B b w;have t:G[f]? =some F:=by simpa using H
      cases d:E.agg
      .simp only[d,mN]at h;split at h
       .rename_i y D;refine⟨_,_,h,nV _,λw _=>?_⟩;rw[pV]at D;simp[execOp,Instr.field,m.eq C rfl,SV.v,run_underlying z,t,asAgg,part,o,d,D]
       .exact h.elim
      .simp only[d,mN,jI]at h;refine⟨_,_,h,nV _,λw _=>?_⟩;simp[execOp,Instr.field,m.eq C rfl,SV.v,run_underlying z,t,asAgg,part,o,d,J,List.map_drop,Ob]
     .rw[b]at h;exact h.elim
    .exact h.elim
   .exact h.elim
  .exact h.elim
 .exact h.elim
def JB(l:uj e T)(g:ka n i a)(h:rd T i j k (.indexAddr c x y)):pb e T i j a ⟨q,.indexAddr c x y,v,u,p,r⟩ k:=by
 simp only[rd]at h;split at h
 .rename_i E J C D;unfold Xz at h;split at h
  .rename_i I L G A;split at h
   .rename_i F t;cases f:F.uN
    .rw[f]at h;obtain⟨m,d,s⟩:=h;have B:=(ku (l.yD A)).1;have z:=λw=>kG l t f w;cases E with
     |nil=>simp[O.len]at d;omega
     |zP _ _ _=>simp[O.len]at d;omega
     |mk b o K H=>
      refine⟨_,_,s,nV _,λw _=>?_⟩;simp only[O.len]at d;simp[execOp,Instr.indexAt,g.eq C rfl,g.eq D rfl,SV.v,Ce.v,O.v,asIntOf,run_underlying B,m,d,z,vT,O.D,O.off]
    .rw[f]at h;exact h.elim
   .exact h.elim
  .exact h.elim
 .exact h.elim
def P3:∀(d:List Sh)(b o a:Nat)(k:List Ce->Prop),Wg j b o a d k->∃g,k g/\g.length=d.length/\∀i,i<d.length->af j b (o+a+i)=(g[i]?).map Ce.v
 |[],_,_,_,_,h=>⟨[],h,rfl,λi c=>by simp at c⟩
 |s::r,b,o,a,k,h=>by
  obtain⟨x,n,h⟩:=h;obtain⟨g,l,m,f⟩:=P3 r b o (a+1) _ h;refine⟨s.mk x::g,l,by simp[m],λi c=>?_⟩;cases i with
  |zero=>simpa using n
  |succ i=>
   have:=f i (by simpa using c);have e:o+(a+1)+i=o+a+(i+1):=V;rw[e]at this;simpa using this
def mX(B:uj e T)(S:ka n i a)(I:a.eval x=.pointer (some ⟨b,o,none⟩)){f:TI}(H:fK T c=some f)(G:f.uN=false)
 (K:∀d,d<f.sh.length->(b,o+d)∈Ti T i (.load c x))(E:g.length=f.sh.length)(L:∀z,z<f.sh.length->af j b (o+z)=(g[z]?).map Ce.v)
 {s:SV}(U:s.jJ=true)(O:(f.agg=true/\s.v=.agg (g.map Ce.v).toArray)\/(f.agg=false/\∃m,g=[m]/\s.v=m.v))(N:k s):
 pb e T i j a ⟨q,.load c x,v,u,p,r⟩ k:=by
 refine⟨s,s.v,N,nV _,λl R=>?_⟩
 have Q:=kG B H G l
 have C:=HZ B H G l
 have D:∀d,d<f.sh.length->af l.heap b (o+d)=(g[d]?).map Ce.v:=λd h=>by rw[R (b,o+d) (K d h),L d h]
 rcases O with⟨t,y⟩|⟨t,m,y,J⟩
 .have F:=run_loadCells_list (P:=e) (w:=l) ⟨b,o,none⟩ (g.map Ce.v) (λd V h=>by
   rw[vT,zL];have M:d<f.sh.length:=by
    rcases aZ d f.sh.length with A|A
    .exact A
    .rw[cZ bI]at h;simp at h
   rw[D d M,<-cU,h])
  simp only[dW]at F
  simp only[execOp,Instr.loadAt,I,Instr.sureAddr,loadVar,Sem.run_bind,Sem.run_pure,C,t,Result.andThen_ok,Q,MC]
  simp[<-E,F,y]
 .subst y
  have A:=D 0 (by rw[<-E];simp)
  simp at A
  simp only[execOp,Instr.loadAt,I,Instr.sureAddr,loadVar,Sem.run_bind,Sem.run_pure,C,t,Result.andThen_ok]
  simp[zL,A,J]
def I8(C:uj e T)(B:ka n i a)(D:a.eval x=.pointer (some ⟨b,o,none⟩))
 (A:∀d f,fK T c=some d->f<d.sh.length->(b,o+f)∈Ti T i (.load c x))(h:P4 T j c b o k):pb e T i j a ⟨q,.load c x,v,u,p,r⟩ k:=by
 unfold P4 at h
 split at h
 .rename_i H I F d
  obtain⟨g,w,G,E⟩:=P3 _ _ _ _ _ h
  exact mX C B D d rfl (λf t=>A _ f d t) G (λz m=>by simpa using E z m) (s:=.agg g) rfl (Or.inl ⟨rfl,rfl⟩) w
 .rename_i G F d
  obtain⟨y,E,w⟩:=h
  exact mX C B D d rfl (λf t=>A _ f d t) (g:=[G.mk y]) rfl (λz m=>by
   have:z=0:=by simpa using m
   subst this;exact E) (s:=.c (G.mk y)) rfl (Or.inr ⟨rfl,_,rfl,rfl⟩) w
 .rename_i G H F d
  obtain⟨y,E,w⟩:=h
  exact mX C B D d rfl (λf t=>A _ f d t) (g:=[.s y]) rfl (λz m=>by
   have:z=0:=by simpa using m
   subst this;exact E) (s:=.c (.s y)) rfl (Or.inr ⟨rfl,_,rfl,rfl⟩) w
 .exact h.elim
def Mm:∀{a:List Ce}{b o:Nat}{g:List Ce},Hb a o b=some g->g.length=b/\∀i,i<b->a[o+i]? =g[i]?
 |a,0,o,g,h=>by simp[Hb]at h;subst h;simp
 |a,b+1,o,g,h=>by
  simp only[Hb]at h;split at h
  .rename_i j r c f;simp at h;subst h;obtain⟨d,e⟩:=Mm f;refine⟨by simp[d],λi k=>?_⟩;cases i with
   |zero=>rw[pV]at c;simpa using c
   |succ i=>
    have:=e i V;rw[show o+(i+1)=o+1+i by omega];simpa using this
  .simp at h
def I7(C:uj e T)(B:ka n i a){H:Nat}{G:List Ce}(E:a.eval x=.pointer (some ⟨b,o,none⟩))
 (A:∀d m,fK T c=some d->m<d.sh.length->(b,o+m)∈Ti T i (.load c x))(I:j[b]? =some (.cells (G.map Ce.v).toArray H))(h:Nx T c G o k):
 pb e T i j a ⟨q,.load c x,v,u,p,r⟩ k:=by
 have D:∀f,af j b f=(G[f]?).map Ce.v:=λf=>by simp[af,I]
 unfold Nx at h
 split at h
 .rename_i K L F d
  split at h
  .rename_i g J
   obtain⟨t,w⟩:=Mm J
   exact mX C B E d rfl (λm z=>A _ m d z) t (λf y=>by rw[D,w f y]) (s:=.agg g) rfl (Or.inl ⟨rfl,rfl⟩) h
  .exact h.elim
 .rename_i J F d
  split at h
  .rename_i t w
   rw[pV]at w
   exact mX C B E d rfl (λm z=>A _ m d z) (g:=[t]) rfl (λf y=>by
    have:f=0:=by simpa using y
    subst this;rw[D];simp[w]) (s:=.c t) rfl (Or.inr ⟨rfl,_,rfl,rfl⟩) h
  .exact h.elim
 .rename_i H J F d
  split at h
  .rename_i t w
   rw[pV]at w
   exact mX C B E d rfl (λm z=>A _ m d z) (g:=[t]) rfl (λf y=>by
    have:f=0:=by simpa using y
    subst this;rw[D];simp[w]) (s:=.c t) rfl (Or.inr ⟨rfl,_,rfl,rfl⟩) h
  .exact h.elim
 .rename_i L K J F d
  split at h
  .rename_i t w
   rw[pV]at w
   exact mX C B E d rfl (λm z=>A _ m d z) (g:=[t]) rfl (λf y=>by
    have:f=0:=by simpa using y
    subst this;rw[D];simp[w]) (s:=.c t) rfl (Or.inr ⟨rfl,_,rfl,rfl⟩) h
  .exact h.elim
 .exact h.elim
def Q5(l:uj e T)(d:ka n i a)(B:Bx n i j)(h:rd T i j k (.load c x)):pb e T i j a ⟨q,.load c x,v,u,p,r⟩ k:=by
 simp only[rd]at h;split at h
 .rename_i b o f;exact I8 l d (d.eq f rfl) (λm g A z=>by simp only[Ti,f,A];exact List.mem_map.2 ⟨g,List.mem_range.2 z,rfl⟩) h
 .rename_i C b o f;have w:∀m g,fK T c=some m->g<m.sh.length->(b,o+g)∈Ti T i (.load c x):=λm g A z=>by simp only[Ti,f,A];exact List.mem_map.2 ⟨g,List.mem_range.2 z,rfl⟩
  split at h
  .rename_i D t s y;obtain⟨rfl,h⟩:=h;exact I7 l d (d.eq f rfl) w (B.D C _ t s (Or.inl y)) h
  .rename_i D t s y;obtain⟨rfl,h⟩:=h;exact I7 l d (d.eq f rfl) w (B.D C _ t s (Or.inr y)) h
  .exact I8 l d (d.eq f rfl) w h
 .exact h.elim
end
end Go.Vc
end
section
namespace Go.Vc
variable{x:Operand}{t:TypeId}
variable{P:Program}{T:TT}
section
variable{n:Nat}{b:Fr}{a:Act}{m:E}{k:SV->Prop}{d:Option Tmp}{g:TypeId}{f:String}{c:Array Edge}{e:Option (Nat×Bool)}
def MM(l:ka n b a){j:Nat}(h:rd T b m k (.extract x j)):pb P T b m a ⟨d,.extract x j,g,f,c,e⟩ k:=by
 simp only[rd]at h;split at h
 .rename_i p o;split at h
  .rename_i y i;refine⟨_,_,h,nV _,λw _=>?_⟩;rw[pV]at i;rw[AV.aag];have:a.eval x=.tuple (p.map AV.v).toArray:=l.eq o rfl;simp[execOp,Instr.extract,this,i]
  .exact h.elim
 .exact h.elim
def NI(c:ka n b a){x:Option Operand}{d:Int}{k:Int->Prop}(h:MS b x d k):
 (x=none/\k d)\/∃y i,x=some y/\a.eval y=.int .i64 i/\k i:=by
 unfold MS at h
 split at h
 .exact Or.inl ⟨rfl,h⟩
 .rename_i y
  split at h
  .rename_i i e
   exact Or.inr ⟨y,i,rfl,c.eq e rfl,h⟩
  .exact h.elim
def pY(k:IntKind)(i:Int)(y:Nat)(c:BoundsCode)(a:0<=i)(b:i<=y)(w:World):(Instr.sliceBound (.int k i) y c).run P w=.ok i.toNat w:=by
 simp[Instr.sliceBound,asIntOf,a,b]
def YC(b o l c a d e:Nat):(O.cut (.mk b o l c) a d e).v=.slice (if c=a then some ⟨b,o,none⟩else(some (⟨b,o,none⟩:Addr)).map (·.add (a*e))) (d -a) (c -a):=by
 show Value.slice _ _ _=_;simp only[vT,oD];split<;>rfl
def PX(J:uj P T)(r:ka n b a){A y:Option Operand}(i:rd T b m k (.slice t x A y none)):pb P T b m a ⟨d,.slice t x A y none,g,f,c,e⟩ k:=by
 simp only[rd]at i;split at i
 .rename_i s G;unfold Rq at i;split at i
  .rename_i v N M L;split at i
   .rename_i B K;cases D:B.uN
    .rw[D]at i;have F:=(ku (J.yD L)).1;have E:=λw=>kG J K D w;have z:∀(l h:Int),0<=l->l<=h->h<=(s.cap:Int)->
      (∀w:World,(Instr.sliceBounds true s.len s.cap (A.map a.eval) (y.map a.eval) none).run P w=.ok (l.toNat,h.toNat,s.cap) w)->
      ∀w:World,(execOp a.eval ⟨d,.slice t x A y none,g,f,c,e⟩).run P w=.ok (.value (Ce.s (s.cut l.toNat h.toNat B.sh.length)).v) w:=by
      intro l h o p j q w
      cases s with
      |nil=>
       simp only[O.cap,O.len]at q j
       have:h=0:=V
       have:l=0:=V
       subst this;subst h
       simp[execOp,Instr.sliceAt,r.eq G rfl,SV.v,Ce.v,O.v,run_underlying F,Instr.slice,q,E,O.cut]
      |zP u C H=>
       simp only[O.cap,O.len]at q j
       have:h=0:=V
       have:l=0:=V
       subst this;subst h
       simp[execOp,Instr.sliceAt,r.eq G rfl,SV.v,Ce.v,O.v,run_underlying F,Instr.slice,q,E,O.cut]
      |mk u I H C=>
       simp only[O.cap,O.len]at q
       have v:(Ce.s ((O.mk u I H C).cut l.toNat h.toNat B.sh.length)).v=_:=YC u I H C l.toNat h.toNat B.sh.length
       rw[v]
       have:a.eval x=.slice (some ⟨u,I,none⟩) H C:=r.eq G rfl
       simp[execOp,Instr.sliceAt,this,run_underlying F,Instr.slice,q,E]
     simp only[mN]at i;rcases NI r i with⟨rfl,C⟩|⟨Q,l,rfl,H,C⟩<;>rcases NI r C with⟨rfl,o,p,j,u⟩|⟨R,h,rfl,I,o,p,j,u⟩
     .exact⟨_,_,u,nV _,λw _=>z _ _ o p j (λw=>by simp[Instr.sliceBounds]) w⟩
     .exact⟨_,_,u,nV _,λw _=>z _ _ o p j (λw=>by simp[Instr.sliceBounds,I,pY _ _ _ _ (by omega:0<=h) j]) w⟩
     .exact⟨_,_,u,nV _,λw _=>z _ _ o p j (λw=>by simp[Instr.sliceBounds,H,pY _ _ _ _ o p]) w⟩
     .exact⟨_,_,u,nV _,λw _=>z _ _ o p j (λw=>by
       have v:l<=(h.toNat:Int):=V;simp[Instr.sliceBounds,I,H,pY _ _ _ _ (by omega:0<=h) j,pY _ _ _ _ o v]) w⟩
    .rw[D]at i;exact i.elim
   .exact i.elim
  .exact i.elim
 .exact i.elim
def KI(w:uj P T)(q:ka n b a)(p:List (Nat×Nat))(je:Nat->Option (Nat×Nat))
 (r:∀i d t f,HO p i=some (d,t)->fK T t=some f->f.uN=false->je i=some (d,f.sh.length)):
 ∀(s:List (Nat×Operand))(c:List Ce)(k:List Ce->Prop),FA T b p c s k->
  ∃l,k l/\Instr.fill je (c.map Ce.v).toArray (s.map λe=>(e.1,a.eval e.2))=some (l.map Ce.v).toArray
 |[],c,k,h=>⟨c,h,rfl⟩
 |(i,x)::H,c,k,h=>by
  simp only[FA]at h;split at h
  .rename_i d t e E D;split at h
   .rename_i f F;cases g:(!f.uN&&Nat.beq e.length f.sh.length&&Nat.ble (d+e.length) c.length)
    .rw[g]at h;exact h.elim
    .rw[g]at h;simp only[bN,iK]at g;obtain⟨⟨y,m⟩,o⟩:=g;have m:=bt m;have o:=lO o;obtain⟨l,A,C⟩:=KI w q p je r H (mr c d e) k h;refine⟨l,A,?_⟩;obtain⟨B,z⟩:=pO D;have G:a.eval x=(ev b x).v:=q.eq rfl B;simp only[cG,Instr.fill,r i d t f E F y,G,z,DF,dW,m];rw[ae bI,<-C];congr 1;apply BH;intro j;have u:=ND (e.map Ce.v) 0 d (c.map Ce.v).toArray j;rw[<-aai,ZO];have v:=BU c d e j o;rw[show((List.map Ce.v (mr c d e)).toArray)[j]? =((mr c d e)[j]?).map Ce.v by simp,v];rw[u];simp;split<;>split<;>first|rfl|(exfalso;omega)|(congr 1;omega)
   .exact h.elim
  .exact h.elim
def Y3(T:TT)(t:Nat):Nat:=match fK T t with|some a=>a.sh.length|none=>0
def Jg(c:uj P T)(w:World):∀(a:List Field),(∀f∈a,∃b,fK T f.type=some b/\b.uN=false)->
 (a.mapM (λf=>do pure (f.offset,<-sizeOf f.type):Field->Sem (Nat×Nat))).run P w=.ok (a.map λf=>(f.offset,Y3 T f.type)) w
 |[],_=>aJ
 |f::a,h=>by
  obtain⟨b,d,j⟩:=h f aJ;have e:=Jg c w a (λg i=>h g (by simp[i]));simp only[UL,Sem.run_bind,kG c d j,Result.andThen_ok,Sem.run_pure]at e⊢;rw[e];simp[Y3,d]
def Ji:∀{d:List (Nat×Nat)},vu T d=true->∀p∈d,∃a,fK T p.2=some a/\a.uN=false
 |[],_,_,h=>by simp at h
 |(o,t)::r,h,p,c=>by
  simp only[vu,bN]at h;rcases List.mem_cons.1 c with rfl|c
  .have b:=h.1;split at b
   .rename_i a e;exact⟨a,e,by simpa using b⟩
   .simp at b
  .exact Ji h.2 p c
def PV(l:uj P T)(z:ka n b a){o:Array (Nat×Operand)}(i:rd T b m k (.build t o)):pb P T b m a ⟨d,.build t o,g,f,c,e⟩ k:=by
 simp only[rd]at i;split at i
 .rename_i y K M v;cases q:vu T y
  .rw[q]at i;exact i.elim
  rw[q]at i;obtain⟨⟨j,D,s⟩,_⟩:=ns (l.yD v);obtain⟨L,I,J,Q⟩:=wz l v rfl;have A:∀h∈j.toList,∃r,fK T h.type=some r/\r.uN=false:=λh B=>
   Ji q (h.offset,h.type) (by rw[<-s];exact List.mem_map.2 ⟨h,B,rfl⟩)
  have G:∀w:World,(j.mapM (λh=>do pure (h.offset,<-sizeOf h.type):Field->Sem (Nat×Nat))).run P w=.ok (j.toList.map λh=>(h.offset,Y3 T h.type)).toArray w:=by
   intro w;rw[UU,Sem.run_map,Jg l w j.toList A];rfl
  obtain⟨R,E,F⟩:=KI l z y (λx=>((j.toList.map λh=>(h.offset,Y3 T h.type)).toArray)[x]?) (λx S t r u H O=>by
   rw[pV,<-s,cU]at u;obtain⟨N,C,p⟩:=Option.map_eq_some_iff.1 u;simp only[Oc]at p;obtain⟨rfl,rfl⟩:=p;simp only[lM,cU,C,oD,Y3,H]) _ _ _ i
  refine⟨_,_,E,nV _,λw _=>?_⟩;have u:L.cells=((K.map Sh.zero).map Ce.v).toArray:=by
   apply Array.toList_inj.1;simp[I]
  have C:(o.map λp=>(p.1,a.eval p.2)).toList=o.toList.map λp=>(p.1,a.eval p.2):=aJ;simp only[execOp,Instr.build,Sem.run_bind,J,Result.andThen_ok,run_underlying D,G,u,C,F];simp[SV.v]
 .exact i.elim
def BQ(d:ka n b a):∀{c:List Operand},c.all (λx=>(ev b x).jJ)=true->c.map a.eval=c.map λx=>(ev b x).v
 |[],_=>rfl
 |x::c,h=>by
  simp only[Oa,bN]at h;simp only[cG,d.eq rfl h.1,BQ d h.2]
def MK(v:uj P T)(l:ka n b a){s:Builtin}{i:Array Operand}{r:Array TypeId}(h:rd T b m k (.call ⟨.builtin s,i,r⟩)):
 pb P T b m a ⟨d,.call ⟨.builtin s,i,r⟩,g,f,c,e⟩ k:=by
 simp only[rd]at h
 unfold TH at h
 split at h
 .rename_i t x z p
  split at h
  .rename_i D E C q y o
   refine⟨_,_,h,nV _,λw _=>?_⟩
   have A:=(ku (v.yD y)).1
   have u:r=#[t]:=Array.toList_inj.1 (by simpa using z)
   have j:i=#[x]:=Array.toList_inj.1 (by simpa using p)
   subst u;subst j
   have B:a.eval x=q.v:=l.eq o rfl
   cases q<;>simp[execOp,resolve,invoke,builtin,Builtin.len_,run_underlying A,B,O.v,goInt,SV.v,Ce.v,O.len]
  .exact h.elim
 .rename_i x y p
  split at h
  .rename_i u z o q
   refine⟨_,_,h,nV _,λw _=>?_⟩
   have j:i=#[x,y]:=Array.toList_inj.1 (by simpa using p)
   subst j
   simp[execOp,resolve,invoke,builtin,Builtin.max_,Builtin.max2,l.eq o rfl,l.eq q rfl,SV.v,Ce.v]
  .exact h.elim
 .rename_i x y p
  split at h
  .rename_i u z o q
   refine⟨_,_,h,nV _,λw _=>?_⟩
   have j:i=#[x,y]:=Array.toList_inj.1 (by simpa using p)
   subst j
   simp[execOp,resolve,invoke,builtin,Builtin.min_,Builtin.min2,l.eq o rfl,l.eq q rfl,SV.v,Ce.v]
  .exact h.elim
 .exact h.elim
def Lv(j:uj P T)(i:ka n b a)(s:Bx n b m)(o:Oper)(h:rd T b m k o.op):pb P T b m a o k:=by
 obtain⟨d,l,g,f,c,e⟩:=o;cases l with
 |move x=>exact Uc i h
 |assign x=>exact SH i h
 |pick p x y=>exact Q6 i h
 |nilCheck x=>exact KX i h
 |binOp l t x y q=>exact PU j i h
 |unOp l t x=>exact Q7 i h
 |convert q t x=>exact ML j i h
 |fieldAddr t x q=>exact JA j i h
 |field t x q=>exact PW j i h
 |indexAddr t x y=>exact JB j i h
 |load t x=>exact Q5 j i s h
 |extract x r=>exact MM i h
 |slice t x u r mx=>cases mx with
  |none=>exact PX j i h
  |some y=>exact h.elim
 |build t r=>exact PV j i h
 |call p=>
  obtain⟨r,u,w⟩:=p;cases r with
  |builtin v=>exact MK j i h
  |value q=>exact h.elim
  |invoke v q=>exact h.elim
 |_=>exact h.elim
end
end Go.Vc
end
section
namespace Go.Vc
variable{m m':E}{b o e n q:Nat}{l:List Ce}
def ag(m:E)(b o:Nat):List Ce->E
 |[]=>m
 |c::r=>ag (rK m b o c.v) b (o+1) r
def eC(m:E)(b o n:Nat):Prop:=∀j,j<n->(af m b (o+j)).isSome=true/\vV m b (o+j)=false
def fX(m:E)(b o:Nat)(l:List Ce):Prop:=∀(i:Nat)(c:Ce),l[i]? =some c->af m b (o+i)=some c.v
def nF(a:List Ce)(n:Nat):List Ce:=(List.replicate n a).flatten
def bA(l:List Ce):Array Value:=(l.map Ce.v).toArray
def Rn(m:E)(b o:Nat)(v:Value):(rK m b o v).size=m.size:=by simp[rK]
def LJ(m:E)(b o:Nat)(v:Value){j:Nat}(h:j≠b):(rK m b o v)[j]? =m[j]? :=by
 simp only[rK,lL];rw[ae (λe=>h e.symm)]
def aw:∀(l:List Ce)(m:E)(b o:Nat),(ag m b o l).size=m.size
 |[],_,_,_=>rfl
 |c::r,m,b,o=>by simp only[ag];rw[aw r,Rn]
def bo:∀(l:List Ce)(m:E)(b o:Nat){j:Nat},j≠b->(ag m b o l)[j]? =m[j]?
 |[],_,_,_,_,_=>rfl
 |c::r,m,b,o,j,h=>by simp only[ag];rw[bo r _ _ _ h,LJ m b o _ h]
def mW{v:Value}(h:af m b o=some v):b<m.size:=by
 rcases aZ b m.size with a|a
 .exact a
 .simp[af,IV a]at h
def aL(h:m'[b]? =m[b]?)(o:Nat):af m' b o=af m b o:=by simp only[af,h]
def cx(m:E)(b:Nat)(e:Nat)(l:List Ce):Prop:=m[b]? =some (.cells (bA l) e)
def UD(l:List Ce)(i:Nat):(bA l)[i]? =(l[i]?).map Ce.v:=by simp[bA]
def cx.bV(h:cx m b e l)(o:Nat):af m b o=(l[o]?).map Ce.v:=by
 have a:m[b]? =some (.cells (bA l) e (0,0)):=h;simp only[af,a,UD]
def cx.iF(h:cx m b e l):fX m b 0 l:=λi c a=>by rw[h.bV,cD,a];rfl
def cx.lt(h:cx m b e l):b<m.size:=(Array.getElem?_eq_some_iff.1 h).1
def cx.vV{m:E}{b e:Nat}{l:List Ce}(h:cx m b e l)(o:Nat):vV m b o=false:=by
 have a:m[b]? =some (.cells (bA l) e (0,0)):=h;simp[Vc.vV,a]
def cx.eC(h:cx m b e l)(c:o+n<=l.length):eC m b o n:=λj a=>by
 refine⟨?_,h.vV _⟩;rw[h.bV];simp;omega
def cx.push(m:E)(l:List Ce)(e:Nat):cx (m.push (.cells (bA l) e)) m.size e l:=by simp[cx]
def cx.congr(a:cx m b e l)(h:m'[b]? =m[b]?):cx m' b e l:=by
 unfold cx at*;rw[h];exact a
def cx.rK{m:E}{b e:Nat}{l:List Ce}(h:cx m b e l)(o:Nat)(c:Ce):cx (rK m b o c.v) b e (l.set o c):=by
 have d:m[b]? =some (.cells (bA l) e (0,0)):=h;have f:=h.lt;simp only[cx,Vc.rK,lL,MC,d,oD];congr 2;apply BH;intro i;simp only[bA,Array.getElem?_setIfInBounds,lM,cU,jF,DF,dW];by_cases e:o=i
 .subst e;by_cases a:o<l.length
  .simp[a]
  .simp[a]
 .simp[e]
def js(l:List Ce)(o:Nat):List Ce->List Ce
 |[]=>l
 |c::r=>js (l.set o c) (o+1) r
def kU:∀(r l:List Ce)(o:Nat),(js l o r).length=l.length
 |[],_,_=>rfl
 |c::r,l,o=>by simp only[js];rw[kU r];simp
def wA:∀(r l:List Ce)(o i:Nat),(js l o r)[i]? =if o<=i/\i<o+r.length/\i<l.length then r[i -o]? else l[i]?
 |[],l,o,i=>by simp[js];intro h;omega
 |c::r,l,o,i=>by
  simp only[js];rw[wA r,jF];simp only[eE,aV];by_cases b:o=i
  .subst b;by_cases a:o<l.length
   .simp[a];try omega
   .simp[a];try omega
  .by_cases a:o<=i/\i<o+(r.length+1)/\i<l.length
   .rw[aj a,aj V,show i -o=(i -(o+1))+1 by omega,gX]
   .rw[ae a,ae V];simp[b]
def cx.ag{m:E}{b e:Nat}:∀{r l:List Ce}{m:E}{o:Nat},cx m b e l->cx (ag m b o r) b e (js l o r)
 |[],_,_,_,h=>h
 |c::r,l,m,o,h=>by
  simp only[Vc.ag,js];exact cx.ag (m:=m) (h.rK o c)
def vr(t:Nat):List Nat->Bool
 |[]=>false
 |u::r=>Nat.beq u t||vr t r
def HK{t:Nat}:∀{M:List Nat},vr t M=true->t∈M
 |[],h=>by simp[vr]at h
 |u::r,h=>by
  simp only[vr,bU]at h;rcases h with h|h
  .rw[bt h];exact aX
  .exact ai _ (HK h)
def MB(n:Nat):Fr->List Nat->List Nat
 |[],_=>[]
 |(q,x)::r,a=>bif Nat.ble n q&&!vr q a then
  match x with
  | .box b _ _=>b::MB n r (q::a)
  | .zJ b _ _=>b::MB n r (q::a)
  |_=>MB n r (q::a)
  else MB n r a
def dY(l:List Nat)(m m':E):Prop:=∀b∈l,m'[b]? =m[b]?
def Ao(l:List Nat)(m m':E)(k:Prop):Prop:=
 match l with
 |[]=>k
 |_=>dY l m m'/\k
def mH{l:List Nat}{k:Prop}(h:Ao l m m' k):dY l m m'/\k:=by
 unfold Ao at h;split at h
 .exact⟨(λb a=>by cases a),h⟩
 .exact h
def He{n:Nat}{q b e:Nat}{l:List Ce}(c:n<=q):∀{j:Fr}{a:List Nat},q∉a->lQ j q b e l->b∈MB n j a
 |[],a,_,h=>by rcases h with h|h<;>simp[gZ]at h
 |(u,x)::r,a,g,h=>by
  simp only[MB];cases f:Nat.beq u q
  .have k:u≠q:=λe=>by subst e;simp at f
   have d:lQ r q b e l:=by
    unfold lQ at h⊢;simpa only[gZ,f,mN]using h
   have i:q∉u::a:=by
    simp only[aS,ui];exact⟨λe=>k e.symm,g⟩
   cases(Nat.ble n u&&!vr u a)
   .exact He c g d
   .simp only[jI];split
    .exact ai _ (He c i d)
    .exact ai _ (He c i d)
    .exact He c i d
  .have:=bt f;subst this;have i:vr u a=false:=by
    cases k:vr u a
    .rfl
    .exact absurd (HK k) g
   have d:Nat.ble n u=true:=Yj c;simp only[i,d,Mw,Bool.and_self,jI];unfold lQ at h;simp only[gZ,f,jI]at h;rcases h with h|h<;>rw[h]<;>exact aX
def Bx.fZ{c:Fr}(h:Bx n c m){x:SV}(i:∀b e l,x≠.box b e l/\x≠.zJ b e l):Bx n ((q,x)::c) m:=by
 have d:∀{u b e l},lQ ((q,x)::c) u b e l->lQ c u b e l:=by
  intro u b e l a;unfold lQ at a⊢;simp only[gZ]at a;cases g:Nat.beq q u
  .rw[g]at a;exact a
  .rw[g]at a;rcases a with a|a
   .exact absurd a (i b e l).1
   .exact absurd a (i b e l).2
 exact⟨λq b e l f=>h.D q b e l (d f),λq t b e l j k s r o p=>h.Oq q t b e l j k s r (d o) (d p),λq b e l f=>h.key q b e l (d f)⟩
def SV.YW(x:SV)(b e:Nat)(l:List Ce):x.nb≠.box b e l/\x.nb≠.zJ b e l:=by
 cases x<;>exact⟨by simp[SV.nb],by simp[SV.nb]⟩
def Bx.put{a:Fr}(h:Bx n a m)(d:Option Nat)(x:SV):Bx n (uo a d x) m:=by
 cases d with
 |none=>exact h
 |some d=>exact h.fZ (SV.YW x)
def Bx.dv{a:Fr}(h:Bx n a m)(d:dY (MB n a []) m m'):Bx n a m':=
 ⟨λq b e l c=>by rw[d b (He (h.key q b e l c) aJ c)];exact h.D q b e l c,h.Oq,h.key⟩
def Bx.push{a:Fr}(h:Bx n a m)(o:Obj):Bx n a (m.push o):=
 ⟨λq b e l d=>by
  have c:=h.D q b e l d;have f:=(Array.getElem?_eq_some_iff.1 c).1;rw[mR,ae V];exact c,h.Oq,h.key⟩
def Bx.new{d:Fr}(h:Bx n d m)(x:n<=q)(t:Nat)(l:List Ce):Bx n ((q,.box m.size t l)::d) (m.push (.cells (bA l) t)):=by
 have w:=h.push (.cells (bA l) t);have p:∀{u b e l},lQ d u b e l->b<m.size:=λa=>(Array.getElem?_eq_some_iff.1 (h.D _ _ _ _ a)).1;have g:∀{u b e c},lQ ((q,.box m.size t l)::d) u b e c->(u=q/\b=m.size/\e=t/\c=l)\/(u≠q/\lQ d u b e c):=by
  intro u b e c a;unfold lQ at a⊢;simp only[gZ]at a;cases f:Nat.beq q u
  .rw[f]at a;exact Or.inr ⟨λe=>by subst e;simp at f,a⟩
  .rw[f]at a;have:=bt f;subst this;rcases a with a|a
   .simp at a;exact Or.inl ⟨rfl,a.1.symm,a.2.1.symm,a.2.2.symm⟩
   .simp at a
 refine⟨λu b e c a=>?_,λu B b e z r s A o v k=>?_,λu b e c a=>?_⟩
 .rcases g a with⟨rfl,rfl,rfl,rfl⟩|⟨_,a⟩
  .simp[bA]
  .exact w.D u b e c a
 .rcases g v with⟨rfl,rfl,rfl,rfl⟩|⟨f,j⟩
  .rcases g k with⟨rfl,rfl,rfl,rfl⟩|⟨y,i⟩
   .exact absurd rfl o
   .have:=p i;omega
  .rcases g k with⟨rfl,rfl,rfl,rfl⟩|⟨y,i⟩
   .have:=p j;omega
   .exact h.Oq u B b e z r s A o j i
 .rcases g a with⟨rfl,rfl,rfl,rfl⟩|⟨_,a⟩
  .exact x
  .exact h.key u b e c a
def Bx.pw{j:Fr}(h:Bx n j m){f:List Ce}(E:gZ j q=.box b e f)(o:Nat)(l:List Ce):Bx n ((q,.box b e (js f o l))::j) (ag m b o l):=by
 have k:lQ j q b e f:=Or.inl E;have D:cx m b e f:=h.D q b e f k;have p:∀{u c d g},lQ ((q,.box b e (js f o l))::j) u c d g->(u=q/\c=b/\d=e/\g=js f o l)\/(u≠q/\lQ j u c d g):=by
  intro u c d g a;unfold lQ at a⊢;simp only[gZ]at a;cases i:Nat.beq q u
  .rw[i]at a;exact Or.inr ⟨λe=>by subst e;simp at i,a⟩
  .rw[i]at a;have:=bt i;subst this;rcases a with a|a
   .simp at a;exact Or.inl ⟨rfl,a.1.symm,a.2.1.symm,a.2.2.symm⟩
   .simp at a
 refine⟨λu c d g a=>?_,λu s b1 t A b2 v B y C x=>?_,λu c d g a=>?_⟩
 .rcases p a with⟨rfl,rfl,rfl,rfl⟩|⟨i,a⟩
  .exact cx.ag (m:=m) D
  .rw[bo l m b o (h.Oq u q c d g b e f i a k)];exact h.D u c d g a
 .rcases p C with⟨rfl,rfl,rfl,rfl⟩|⟨i,w⟩
  .rcases p x with⟨rfl,rfl,rfl,rfl⟩|⟨z,r⟩
   .exact absurd rfl y
   .exactλe=>h.Oq s u b2 v B _ _ _ z r k e.symm
  .rcases p x with⟨rfl,rfl,rfl,rfl⟩|⟨z,r⟩
   .exact h.Oq u s b1 t A _ _ _ i w k
   .exact h.Oq u s b1 t A b2 v B y w r
 .rcases p a with⟨rfl,rfl,rfl,rfl⟩|⟨_,a⟩
  .exact h.key u c d f k
  .exact h.key u c d g a
def FF(a:Fr):List Ce->Option Fr
 |[]=>some a
 | .bp q _ _::r=>match gZ a q with
  | .zJ _ _ _=>none
  |_=>FF ((q,.fZ)::a) r
 |_::r=>FF a r
def AV.Vg:AV->List Ce
 | .c x=>[x]
 | .agg l=>l
def SV.Vg:SV->List Ce
 | .c x=>[x]
 | .agg l=>l
 | .XN l=>l.flatMap AV.Vg
 |_=>[]
def T9(a:Fr)(l:List SV):Option Fr:=FF a (l.flatMap SV.Vg)
def qJ{n:Nat}{f:Act}{m:E}:∀{l:List Ce}{a c:Fr},FF a l=some c->ka n a f->Bx n a m->ka n c f/\Bx n c m
 |[],a,c,h,e,d=>by simp[FF]at h;subst h;exact⟨e,d⟩
 |g::r,a,c,h,e,d=>by
  cases g with
  |bp q b o=>
   simp only[FF]at h;split at h
   .simp at h
   .exact qJ h (e.fZ q) (d.fZ aJ)
  |_=>exact qJ (l:=r) (by simpa[FF]using h) e d
end Go.Vc
end
section
namespace Go.Vc
variable{P:Program}{T:TT}
def OJ(m:E)(k:E->Prop):Prop:=k m
def jN(m:E)(f:Nat)(b:List Ce)(e:Nat)(s x:O)(k:O->E->Prop):Prop:=
 ∃a:List Ce,a.length=x.len*b.length/\fX m x.D x.off a/\
  (s.len+x.len<=s.cap->eC m s.D (s.off+s.len*b.length) a.length/\
   k (match s with| .nil=>.nil| .mk d o l c=>.mk d o (l+x.len) c| .zP d o g=>.zP d o g) (ag m s.D (s.off+s.len*b.length) a))/\
  (s.cap<s.len+x.len->(s.len+x.len)*e<=140737488355328/\∃old:List Ce,old.length=s.len*b.length/\fX m s.D s.off old/\
   ∀c,s.len+x.len<=c->k (.mk m.size 0 (s.len+x.len) c) (m.push (.cells (bA (old++a++nF b (c -(s.len+x.len)))) f)))
def Xu(m:E)(c:Nat)(s x:O)(k:SV->E->Prop):Prop:=
 ∃a:List Ce,a.length=Nat.min x.len s.len*c/\fX m x.D x.off a/\eC m s.D s.off a.length/\
  OJ (ag m s.D s.off a) λb=>k (.c (.i (Nat.min x.len s.len:Nat))) b
def US:List Sh->(List Ce->Prop)->Prop
 |[],k=>k []
 |s::r,k=>∃x:s.ty,US r λl=>k (s.mk x::l)
def SF(T:TT):List Nat->(List AV->Prop)->Prop
 |[],k=>k []
 |t::r,k=>match fK T t with
  |some ⟨.struct _,b,_⟩=>US b λl=>SF T r λa=>k (.agg l::a)
  |some ⟨.cell,[s],_⟩=>∃x:s.ty,SF T r λa=>k (.c (s.mk x)::a)
  |some ⟨.slice _,[_],_⟩=>∃x:O,SF T r λa=>k (.c (.s x)::a)
  |_=>False
def Qf(T:TT)(t:Nat)(v:Value)(k:SV->Prop):Prop:=
 match fK T t with
 |some ⟨.tuple [],_,_⟩=>k .fZ
 |some ⟨.tuple a,_,_⟩=>SF T a λl=>v=.tuple (l.map AV.v).toArray/\k (.XN l)
 |some ⟨.struct _,a,_⟩=>US a λl=>v=.agg (l.map Ce.v).toArray/\k (.agg l)
 |some ⟨.cell,[s],_⟩=>∃x:s.ty,v=(s.mk x).v/\k (.c (s.mk x))
 |some ⟨.slice _,[_],_⟩=>∃x:O,v=x.v/\k (.c (.s x))
 |_=>False
def TM(P:Program)(T:TT)(G:List Nat)(n:Nat)(a:Fr)(m:E)(e:Nat)(h:Operand)(b:List Operand)(k:Fr->SV->E->Prop):Prop:=
 match T9 a (b.map (ev a))with
 |none=>False
 |some d=>match ev a h with
  | .c (.fn (.func g) first f)=>bif G.elem g&&b.all (λx=>(ev a x).jJ)then
   aM P g (first.toList++(b.map λx=>(ev a x).v)++f.toList) m λv c=>Ao (MB n d []) m c (Qf T e v λx=>k d x c)
   else False
  | .c (.fv q)=>bif b.all (λx=>(ev a x).jJ)then
   ∃g,q.1=.func g/\G.elem g=true/\aM P g (q.2.1.toList++(b.map λx=>(ev a x).v)++q.2.2.toList) m λv c=>Ao (MB n d []) m c (Qf T e v λx=>k d x c)
   else False
  |_=>False
def Ds(m:E)(b:Nat)(l:List (Int×Int)):Prop:=
 ∃a c,m[b]? =some (.map a c)/\a.toList.map (λe=>(e.key,e.val))=l.map λp=>(Value.int .i64 p.1,Value.int .i64 p.2)
def vt(l:List (Int×Int))(k:Int):Int:=
 match l with
 |[]=>0
 |(j,v)::r=>if k=j then v else vt r k
def JG(l:List (Int×Int))(k v:Int):List (Int×Int):=
 match l with
 |[]=>[(k,v)]
 |(j,u)::r=>if k=j then(j,v)::r else(j,u)::JG r k v
def xC(T:TT)(d:Fr)(b:Nat):List Ce->List (Nat×Operand)->(List Ce->Prop)->Prop
 |a,[],k=>k a
 |a,(i,x)::r,k=>
  match(ev d x).cells with
  |some c=>bif Nat.beq c.length b&&Nat.ble (i*b+c.length) a.length then xC T d b (mr a (i*b) c) r k else False
  |none=>False
def SK(n:Nat)(b:Fr)(d:Option Nat)(m:E)(t:Nat)(l:List Ce)(k:Fr->SV->E->Prop):Prop:=
 match d with
 |some a=>match gZ b (n+a)with
  | .zJ _ _ _=>False
  |_=>OJ (m.push (.cells (bA l) t)) λc=>k ((n+a,.box m.size t l)::b) (.c (.bp (n+a) m.size 0)) c
 |none=>OJ (m.push (.cells (bA l) t)) λc=>k b (.c (.p m.size 0)) c
def O8(n:Nat)(c:Fr)(m:E)(x:SV)(l:List Ce)(k:Fr->SV->E->Prop):Prop:=
 match x with
 | .c (.p b o)=>eC m b o l.length/\OJ (ag m b o l) λa=>Ao (MB n c []) m a (k c .un a)
 | .c (.bp q b o)=>match gZ c q with
  | .box d f e=>bif Nat.ble (o+l.length) e.length then rZ d b (OJ (ag m b o l) λa=>k ((q,.box d f (js e o l))::c) .un a)else False
  | .zJ _ _ _=>False
  |_=>eC m b o l.length/\OJ (ag m b o l) λa=>Ao (MB n c []) m a (k c .un a)
 |_=>False
def wr(P:Program)(T:TT)(G:List Nat)(n:Nat)(a:Fr)(m:E)(h:Option Nat)(o:Nat)(k:Fr->SV->E->Prop):Op->Prop
 | .alloc t=>match fK T t with
  |some f=>bif f.uN then False else SK n a h m t (f.sh.map Sh.zero) k
  |none=>False
 | .box t x=>match(ev a x).cells with
  |some l=>match FF a l with
   |some d=>SK n d h m t l k
   |none=>False
  |none=>False
 | .buildSlice t g i=>match fK T t with
  |some ⟨.slice e,_,_⟩=>match fK T e with
   |some c=>bif c.uN||!(Nat.ble (g*c.sh.length) 16777216)then False else
    xC T a c.sh.length (nF (c.sh.map Sh.zero) g) i.toList λl=>match FF a l with
     |some d=>OJ (m.push (.cells (bA l) e)) λb=>k d (.c (.s (.mk m.size 0 g g))) b
     |none=>False
   |none=>False
  |_=>False
 | .store t x y=>match(ev a y).cells,fK T t with
  |some l,some f=>bif f.uN||!(Nat.beq l.length f.sh.length)then False else match FF a l with
   |some d=>O8 n d m (ev a x) l k
   |none=>False
  |_,_=>False
 | .makeSlice t x y=>match fK T t,ev a x,ev a y with
  |some ⟨.slice e,_,_⟩,.c (.i l),.c (.i f)=>match fK T e with
   |some c=>bif c.uN then False else 0<=l/\l<=f/\(c.bytes:Int)*f<=281474976710656/\f<=9223372036854775807/\
    OJ (m.push (.cells (bA (nF (c.sh.map Sh.zero) f.toNat)) e)) λb=>k a (.c (.s (.mk m.size 0 l.toNat f.toNat))) b
   |none=>False
  |_,_,_=>False
 | .makeFunc g first f=>bif first.toList.all (λx=>(ev a x).jJ)&&f.toList.all (λx=>(ev a x).jJ)then
  match T9 a (first.toList.map (ev a)++f.toList.map (ev a))with
  |some d=>k d (.c (.fn g (first.toList.map λx=>(ev a x).v).toArray (f.toList.map λx=>(ev a x).v).toArray)) m
  |none=>False
  else False
 | .makeMap _ none=>OJ (m.push (.map #[] 0)) λb=>k a (.c (.mp m.size)) b
 | .lookup t x y false=>match fK T t,ev a x,ev a y with
  |some ⟨.map f g,_,_⟩,.c (.mp d),.c (.i n)=>match fK T f,fK T g with
   |some ⟨.cell,[.I],_⟩,some ⟨.cell,[.I],_⟩=>∃l,Ds m d l/\k a (.c (.i (vt l n))) m
   |_,_=>False
  |_,_,_=>False
 | .mapUpdate t x y z=>match fK T t,ev a x,ev a y,ev a z with
  |some ⟨.map f _,_,_⟩,.c (.mp d),.c (.i g),.c (.i v)=>match fK T f with
   |some ⟨.cell,[.I],_⟩=>∃l,Ds m d l/\∀b,Ds b d (JG l g v)->b.size=m.size->(∀j,j≠d->b[j]? =m[j]?)->Ao (MB n a []) m b (k a .un b)
   |_=>False
  |_,_,_,_=>False
 | .call ⟨.value f,d,_⟩=>TM P T G n a m o f d.toList k
 | .call ⟨.builtin .append,d,f⟩=>match d.toList,f.toList with
  |[x,y],[t,u]=>match fK T t,fK T u,ev a x,ev a y with
   |some ⟨.slice e,_,_⟩,some ⟨.slice _,_,_⟩,.c (.s s),.c (.s z)=>match fK T e with
    |some c=>bif c.uN||Nat.beq c.bytes 0 then False else jN m e (c.sh.map Sh.zero) c.bytes s z λr b=>Ao (MB n a []) m b (k a (.c (.s r)) b)
    |none=>False
   |_,_,_,_=>False
  |_,_=>False
 | .call ⟨.builtin .copy,d,f⟩=>match d.toList,f.toList with
  |[x,y],t::_=>match fK T t,ev a x,ev a y with
   |some ⟨.slice e,_,_⟩,.c (.s s),.c (.s z)=>match fK T e with
    |some c=>bif c.uN then False else Xu m c.sh.length s z λx b=>Ao (MB n a []) m b (k a x b)
    |none=>False
   |_,_,_=>False
  |_,_=>False
 |_=>False
def Hw(P:Program)(g:Nat):Bool:=
 match P.funcs[g]? with
 |some a=>!(a.name== "runtime.NumGoroutine")&&a.body.isSome
 |none=>false
def U1(P:Program)(G:List Nat):Prop:=G.all (Hw P)=true
def QD(a:List Ce):∀(n i:Nat),i<n*a.length->(nF a n)[i]? =a[i%a.length]?
 |0,i,h=>by simp at h
 |n+1,i,h=>by
  have c:0<a.length:=by
   rcases j9 a.length with e|e
   .rw[e]at h;simp at h
   .exact e
  have e:nF a (n+1)=a++nF a n:=by simp[nF,qW]
  rw[e,List.getElem?_append];split
  .rename_i b;rw[Nat.mod_eq_of_lt b]
  .rename_i b;rw[QD a n (i -a.length) (by rw[gL,Nat.one_mul]at h;omega)];congr 1;rw[Nat.mod_eq_sub_mod (by omega:i>=a.length)]
def rW(a:List Ce)(n:Nat):(nF a n).length=n*a.length:=by
 simp[nF]
def IU(a:List Ce)(z:Array Value)(d:z.toList=a.map Ce.v)(n:Nat):
 (Array.range (n*a.length)).map (λi=>z[i%z.size]!)=bA (nF a n):=by
 apply BH
 intro i
 have j:z.size=a.length:=by rw[<-ZN,d];simp
 by_cases b:i<n*a.length
 .have f:=QD a n i b
  have h:0<a.length:=by
   rcases j9 a.length with e|e
   .rw[e]at b;simp at b
   .exact e
  have g:i%a.length<a.length:=Nat.mod_lt _ h
  have c:(bA (nF a n))[i]? =((nF a n)[i]?).map Ce.v:=by simp[bA]
  rw[c,f,<-cU,<-d]
  simp[b,j,g]
 .have c:(bA (nF a n))[i]? =none:=by simp[bA,rW];omega
  rw[c]
  simp[b]
end Go.Vc
end
section
namespace Go.Vc
variable{c:SV}{l:List Ce}{t:TypeId}
variable{d:Program}{T:TT}{G:List Nat}
def Ce.Vs(c:Ce):c.v.oneCell'=true:=by
 cases c with
 |s y=>cases y<;>rfl
 |_=>rfl
def k8:∀(l:List Ce)(w:World)(b o:Nat),(w.setCells b o (l.map Ce.v)).heap=ag w.heap b o l
 |[],_,_,_=>rfl
 |c::r,w,b,o=>by
  simp only[cG,World.setCells,ag];rw[k8 r,OP]
def rm:∀(l:List Value)(w:World)(a o:Nat),pI w (w.setCells a o l)
 |[],w,_,_=>pI.aA w
 |c::r,w,a,o=>by
  simp only[World.setCells];exact pI.trans (b:=w.setCell ⟨a,o,none⟩ c) ⟨rfl,rfl,rfl⟩ (rm r _ a (o+1))
def Ej(l:List Ce)(b o:Nat)(w:World)(h:eC w.heap b o l.length):
 (storeCells ⟨b,o,none⟩ (l.map Ce.v)).run d w=.ok () (w.setCells b o (l.map Ce.v)):=by
 have:=run_storeCells_cells (P:=d) b o (l.map Ce.v) 0 w
  (λj a=>by have:=(h j (by simpa using a)).1;rw[zL];simpa using this)
  (λj a=>by have:=(h j (by simpa using a)).2;rw[Q2];simpa using this)
  (λv a=>by obtain⟨c,_,rfl⟩:=List.mem_map.1 a;exact c.Vs)
 simpa using this
def Qh(l:List Ce)(b o:Nat)(a:World)(h:fX a.heap b o l):(loadCells ⟨b,o,none⟩ l.length).run d a=.ok (bA l) a:=by
 have:=run_loadCells_list (P:=d) (w:=a) ⟨b,o,none⟩ (l.map Ce.v) (λj v c=>by
  rw[vT,zL];rw[cU]at c;obtain⟨e,f,rfl⟩:=Option.map_eq_some_iff.1 c;exact h j e f)
 simpa[bA]using this
section
variable{n:Nat}{b:Fr}{a:Act}{m:E}{k:Fr->SV->E->Prop}{e:Option Tmp}{f:TypeId}{i:String}{g:Array Edge}{h:Option (Nat×Bool)}
def Fq(d:Program)(n:Nat)(a:Act)(m:E)(o:Oper)(k:Fr->SV->E->Prop):Prop:=
 ∀(w:World),w.heap=m->∀(f:Act->World->Prop)(Q:Exit->Act->World->Prop),
  (∀e c v b,k e c b.heap->ka n e a->Bx n e b.heap->c.Is v->pI w b->f (a.put o.dst v) b)->o.wp d a w f Q
def jO{o:Oper}{e:Fr}{v:Value}{w b:World}(h:ka n e a)(g:Bx n e b.heap)(p:c.Is v)(m:pI w b)(i:k e c b.heap)(l:(execOp a.eval o).run d w=.ok (.value v) b)
 {f:Act->World->Prop}{Q:Exit->Act->World->Prop}(j:∀e c v b,k e c b.heap->ka n e a->Bx n e b.heap->c.Is v->pI w b->f (a.put o.dst v) b):o.wp d a w f Q:=by
 unfold Oper.wp
 rw[l]
 exact j e c v b i h g p m
def NG{i:Option Nat}{t:Nat}(g:ka n b a)(f:Bx n b m)(h:SK n b i m t l k):
 ∃d c,ka n d a/\Bx n d (m.push (.cells (bA l) t))/\c.Is (.pointer (some ⟨m.size,0,none⟩))/\k d c (m.push (.cells (bA l) t)):=by
 unfold SK at h
 split at h
 .split at h
  .exact h.elim
  .rename_i e _ j
   exact⟨(n+e,.box m.size t l)::b,.c (.bp (n+e) m.size 0),g.cons _ (λ_=>trivial),f.new (Nat.le_add_right _ _) t l,rfl,h⟩
 .exact⟨b,.c (.p m.size 0),g,f.push _,rfl,h⟩
def Qr(s:ka n b a)(g:Bx n b m)(h:O8 n b m c l k):
 ∃p d o,ka n p a/\Bx n p (ag m d o l)/\(∀v,c.Is v->v=.pointer (some ⟨d,o,none⟩))/\eC m d o l.length/\k p .un (ag m d o l):=by
 unfold O8 at h
 split at h
 .obtain⟨q,r⟩:=mH h.2
  exact⟨_,_,_,s,g.dv q,λv e=>e,h.1,r⟩
 .split at h
  .rename_i w d o _ i j f u
   cases t:Nat.ble (o+l.length) f.length
   .rw[t]at h;exact h.elim
   .rw[t]at h
    obtain⟨rfl,h⟩:=h
    have x:cx m i j f:=g.D w i j f (Or.inl u)
    exact⟨(w,.box i j (js f o l))::b,_,_,s.cons _ (λ_=>trivial),g.pw u o l,λv e=>e,x.eC (lO t),h⟩
  .exact h.elim
  .obtain⟨q,r⟩:=mH h.2
   exact⟨_,_,_,s,g.dv q,λv e=>e,h.1,r⟩
 .exact h.elim
def QU(y:uj d T)(s:ka n b a)(q:Bx n b m)(j:wr d T G n b m e f k (.alloc t)):Fq d n a m ⟨e,.alloc t,f,i,g,h⟩ k:=by
 intro l D L Q B
 subst D;simp only[wr]at j;split at j
 .rename_i p C;cases o:p.uN
  .rw[o]at j;obtain⟨I,F,H,K⟩:=wz y C o;have z:I.cells=bA (p.sh.map Sh.zero):=by apply Array.toList_inj.1;simp[F,bA]
   obtain⟨J,c,u,r,E,A⟩:=NG s q j;refine jO (w:=l) (c:=c) (v:=.pointer (some ⟨l.heap.size,0,none⟩)) (b:={l with heap:=l.heap.push (.cells (bA (p.sh.map Sh.zero)) t)}) u r E ⟨rfl,rfl,rfl⟩ A ?_ B;simp[execOp,Instr.alloc,H,newVar,newRow,z]
  .rw[o]at j;exact j.elim
 .exact j.elim
def TR(p:ka n b a)(q:Bx n b m){c:Operand}(j:wr d T G n b m e f k (.box t c)):Fq d n a m ⟨e,.box t c,f,i,g,h⟩ k:=by
 intro o F L Q E
 subst F;simp only[wr]at j;split at j
 .rename_i l D;split at j
  .rename_i K A;obtain⟨y,s⟩:=qJ A p q;obtain⟨B,z⟩:=pO D;obtain⟨J,I,u,r,H,C⟩:=NG y s j;refine jO (w:=o) (c:=I) (v:=.pointer (some ⟨o.heap.size,0,none⟩)) (b:={o with heap:=o.heap.push (.cells (bA l) t)}) u r H ⟨rfl,rfl,rfl⟩ C ?_ E;simp[execOp,Instr.box,newVar,newRow,p.eq rfl B,z,bA]
  .exact j.elim
 .exact j.elim
def MF(q:ka n b a)(y:Bx n b m){o:Fn}{first l:Array Operand}(j:wr d T G n b m e f k (.makeFunc o first l)):Fq d n a m ⟨e,.makeFunc o first l,f,i,g,h⟩ k:=by
 intro r D F Q C
 subst D;simp only[wr]at j;cases p:(first.toList.all (λc=>(ev b c).jJ)&&l.toList.all (λc=>(ev b c).jJ))
 .rw[p]at j;exact j.elim
 .rw[p]at j;simp only[bN]at p;obtain⟨u,x⟩:=p;have s:(first.toList.map λc=>(ev b c).v).toArray=first.map a.eval:=by
   apply Array.toList_inj.1;simp[BQ q u]
  have t:(l.toList.map λc=>(ev b c).v).toArray=l.map a.eval:=by
   apply Array.toList_inj.1;simp[BQ q x]
  simp only[jI]at j;split at j
  .rename_i E B;obtain⟨A,z⟩:=qJ B q y;refine jO (w:=r) (b:=r) A z (v:=.func o (first.map a.eval) (l.map a.eval)) ?_ (pI.aA r) j ?_ C
   .show Value.func o (first.map a.eval) (l.map a.eval)=Value.func o _ _;rw[s,t]
   .simp[execOp,Instr.makeFunc]
  .exact j.elim
def Jo(p:ka n b a)(e:Nat):
 ∀(q:List (Nat×Operand))(d:List Ce)(k:List Ce->Prop),xC T b e d q k->
  ∃l,k l/\Instr.fill (λi=>some (i*e,e)) (d.map Ce.v).toArray (q.map λf=>(f.1,a.eval f.2))=some (l.map Ce.v).toArray
 |[],d,k,h=>⟨d,h,rfl⟩
 |(i,c)::z,d,k,h=>by
  simp only[xC]at h;split at h
  .rename_i f x;cases g:(Nat.beq f.length e&&Nat.ble (i*e+f.length) d.length)
   .rw[g]at h;exact h.elim
   .rw[g]at h;simp only[bN]at g;obtain⟨m,o⟩:=g;have m:=bt m;have o:=lO o;obtain⟨l,u,w⟩:=Jo p e z (mr d (i*e) f) k h;refine⟨l,u,?_⟩;obtain⟨v,t⟩:=pO x;have y:a.eval c=(ev b c).v:=p.eq rfl v;simp only[cG,Instr.fill,y,t,DF,dW,m];rw[ae bI,<-w];congr 1;apply BH;intro j;have r:=ND (f.map Ce.v) 0 (i*e) (d.map Ce.v).toArray j;rw[<-aai,ZO];have s:=BU d (i*e) f j o;rw[show((List.map Ce.v (mr d (i*e) f)).toArray)[j]? =((mr d (i*e) f)[j]?).map Ce.v by simp,s];rw[r];simp;split<;>split<;>first|rfl|(exfalso;omega)|(congr 1;omega)
  .exact h.elim
def Jx(B:uj d T)(D:ka n b a)(N:Bx n b m){j:Nat}{z:Array (Nat×Operand)}(o:wr d T G n b m e f k (.buildSlice t j z)):Fq d n a m ⟨e,.buildSlice t j z,f,i,g,h⟩ k:=by
 intro q U ad Z Q
 subst U;simp only[wr]at o;split at o
 .rename_i L sh aa S;split at o
  .rename_i p H;cases r:(p.uN||!(Nat.ble (j*p.sh.length) 16777216))
   .rw[r]at o;simp only[bu,aaj]at r;have ab:=lO r.2;have I:=(ku (B.yD S)).1;obtain⟨K,W,X,ac⟩:=wz B H r.1;have F:=λq=>kG B H r.1 q;obtain⟨l,y,s⟩:=Jo D _ _ _ _ o;cases C:FF b l with
    |none=>rw[C]at y;exact y.elim
    |some u=>
    rw[C]at y;obtain⟨P,O⟩:=qJ C D N;refine jO (w:=q) (c:=.c (.s (.mk q.heap.size 0 j j))) (v:=.slice (some ⟨q.heap.size,0,none⟩) j j) (b:={q with heap:=q.heap.push (.cells (bA l) L)}) P (O.push _) rfl ⟨rfl,rfl,rfl⟩ y ?_ Q;have E:(z.map λu=>(u.1,a.eval u.2)).toList=z.toList.map λu=>(u.1,a.eval u.2):=aJ;have Y:K.cells.toList=(p.sh.map Sh.zero).map Ce.v:=by simp[W]
    have J:(p.sh.map Sh.zero).length=p.sh.length:=aJ;have jm:=IU (p.sh.map Sh.zero) K.cells Y j;rw[J]at jm;by_cases A:j*p.sh.length=0
    .have R:nF (p.sh.map Sh.zero) j=[]:=by
      apply List.length_eq_zero_iff.1;rw[rW,J,A]
     rw[R]at s;simp only[execOp,Instr.buildSlice,Sem.run_bind,run_underlying I,Result.andThen_ok,F,A];simp only[E];have M:(Array.map (λc=>(default:Value)) (Array.range 0))=#[]:=aJ;simp at s⊢;rw[M,s];simp[newRow,bA]
    .simp only[execOp,Instr.buildSlice,Sem.run_bind,run_underlying I,Result.andThen_ok,F,A,qv];have:¬(j*p.sh.length>2^24):=V;simp only[this,qv,X,Sem.run_bind,Sem.run_pure,Result.andThen_ok,E];rw[jm];simp only[bA]at s⊢;simp[s,newRow]
   .rw[r]at o;exact o.elim
  .exact o.elim
 .exact o.elim
def QV(C:uj d T)(q:ka n b a)(v:Bx n b m){c y:Operand}(j:wr d T G n b m e f k (.store t c y)):Fq d n a m ⟨e,.store t c y,f,i,g,h⟩ k:=by
 intro w R Y W K
 subst R;simp only[wr]at j;split at j
 .rename_i l s I Q;cases o:(s.uN||!(Nat.beq l.length s.sh.length))
  .rw[o]at j;simp only[mN]at j;simp only[bu,aaj]at o;split at j
   .rename_i X E;obtain⟨B,z⟩:=qJ E q v;obtain⟨u,p,r,A,x,S,L,F⟩:=Qr B z j;have J:=bt o.2;obtain⟨H,D⟩:=pO I;have O:=λw=>kG C Q o.1 w;unfold Oper.wp;have M:(execOp a.eval ⟨e,.store t c y,f,i,g,h⟩).run d w=.ok .skip (w.setCells p r (l.map Ce.v)):=by
     have N:=Ej (d:=d) l p r w L;have U:a.eval c=.pointer (some ⟨p,r,none⟩):=S _ (q.ev c);have V:(a.eval y).cells=(l.map Ce.v).toArray:=by rw[q.eq rfl H,D]
     simp only[execOp,Instr.storeAt,U,Instr.sureAddr,storeVar,Sem.run_bind,Sem.run_pure,Result.andThen_ok,O,V,DF,dW,J];simp[N]
    rw[M];exact K u .un undef _ (by rw[k8];exact F) A (by rw[k8];exact x) rfl (rm _ _ _ _)
   .exact j.elim
  .rw[o]at j;exact j.elim
 .exact j.elim
end
end Go.Vc
end
section
namespace Go.Vc
variable{b y f:Operand}{t:TypeId}{e:Array TypeId}
variable{c:Program}{T:TT}{G:List Nat}
section
variable{n:Nat}{g:Fr}{a:Act}{m:E}{k:Fr->SV->E->Prop}{i:Option Tmp}{h:TypeId}{o:String}{j:Array Edge}{l:Option (Nat×Bool)}
def Pd{b:Int}(e: -9223372036854775808<=b)(f:b<=9223372036854775807):IntKind.i64.wrap b=b:=by
 have a:((2:Int)^IntKind.i64.bits)=18446744073709551616:=be;have c:((2:Int)^(IntKind.i64.bits -1))=9223372036854775808:=be;have d:IntKind.i64.signed=true:=rfl;simp only[IntKind.wrap,a,c,d,N3,au];split<;>omega
def aP{b:Int}(a: -9223372036854775808<=b)(c:b<=9223372036854775807):cR b=b:=Pd a c
def KO(s:uj c T)(u:ka n g a)(F:Bx n g m)(e:wr c T G n g m i h k (.makeSlice t b y)):Fq c n a m ⟨i,.makeSlice t b y,h,o,j,l⟩ k:=by
 intro q U ah ad J
 subst U;simp only[wr]at e;split at e
 .rename_i D sh ae p d Q Y hy;split at e
  .rename_i f z;cases r:f.uN
   .rw[r]at e;obtain⟨h0,h1,h2,h3,I⟩:=e;have S:=(ku (s.yD Q)).1;obtain⟨C,hz,ab,ag⟩:=wz s z r;obtain⟨ti,H,af,R,_⟩:=Gm s z r;have P:=λq=>kG s z r q;refine jO (w:=q) (c:=.c (.s (.mk q.heap.size 0 p.toNat d.toNat))) (v:=.slice (some ⟨q.heap.size,0,none⟩) p.toNat d.toNat) (b:={q with heap:=q.heap.push (.cells (bA (nF (f.sh.map Sh.zero) d.toNat)) D)}) u (F.push _) rfl ⟨rfl,rfl,rfl⟩ I ?_ J;have ac:C.cells.toList=(f.sh.map Sh.zero).map Ce.v:=by simp[hz]
    have B:(f.sh.map Sh.zero).length=f.sh.length:=aJ;have jm:=IU (f.sh.map Sh.zero) C.cells ac d.toNat;rw[B]at jm;have Z:a.eval b=.int .i64 p:=u.eq Y rfl;have aa:a.eval y=.int .i64 d:=u.eq hy rfl;have X:IntKind.i64.wrap p=p:=Pd V V;have W:IntKind.i64.wrap d=d:=Pd V V;have K:¬d<0:=V;have L:¬((f.bytes:Int)*d>2^48):=by
     have:(2:Int)^48=281474976710656:=be;omega
    have M:¬p<0:=V;have N:¬p>d:=V;simp only[execOp,Instr.makeSlice,Sem.run_bind,run_underlying S,Result.andThen_ok,asInt,asIntOf,Z,aa,Sem.run_pure,R,X,W,H];simp only[K,L,M,N,decide_false,VM,ig,qv];simp only[Sem.run_bind,Sem.run_pure,Result.andThen_ok,run_askRoom,P];by_cases A:d.toNat*f.sh.length=0
    .have O:nF (f.sh.map Sh.zero) d.toNat=[]:=by
      apply List.length_eq_zero_iff.1;rw[rW,B,A]
     rw[O];have E:(Array.map (λb=>(default:Value)) (Array.range 0))=#[]:=aJ;simp[A,newRow,bA];rw[E]
    .simp only[A,qv,Sem.run_bind,ab,Result.andThen_ok,Sem.run_pure];rw[jm];simp[newRow]
   .rw[r]at e;exact e.elim
  .exact e.elim
 .exact e.elim
def KR:∀{c:List Sh}{k:List Ce->Prop},US c k->∃l,k l
 |[],_,h=>⟨_,h⟩
 |_::_,_,⟨b,h⟩=>let⟨_,a⟩:=KR h;⟨_,a⟩
def FG:∀{e:List Nat}{k:List AV->Prop},SF T e k->∃l,k l
 |[],_,h=>⟨_,h⟩
 |t::e,k,h=>by
  simp only[SF]at h;split at h
  .obtain⟨l,c⟩:=KR h;obtain⟨d,a⟩:=FG c;exact⟨_,a⟩
  .obtain⟨b,c⟩:=h;obtain⟨d,a⟩:=FG c;exact⟨_,a⟩
  .obtain⟨b,c⟩:=h;obtain⟨d,a⟩:=FG c;exact⟨_,a⟩
  .exact h.elim
def SX{t:Nat}{v:Value}{k:SV->Prop}(h:Qf T t v k):∃b:SV,b.Is v/\k b:=by
 unfold Qf at h;split at h
 .exact⟨.fZ,trivial,h⟩
 .obtain⟨l,c,a⟩:=FG h;exact⟨.XN l,c,a⟩
 .obtain⟨l,c,a⟩:=KR h;exact⟨.agg l,c,a⟩
 .rename_i s _ _;obtain⟨b,c,a⟩:=h;exact⟨.c (s.mk b),c,a⟩
 .obtain⟨b,c,a⟩:=h;exact⟨.c (.s b),c,a⟩
 .exact h.elim
def KN(z:U1 c G)(A:ka n g a){q:Fr}(B:ka n q a)(y:Bx n q m){d:Array Operand}{p:Nat}{first s:Array Value}(E:a.eval f=.func (.func p) first s)
 (H:G.elem p=true)(J:d.toList.all (λb=>(ev g b).jJ)=true)
 (x:aM c p (first.toList++(d.toList.map λb=>(ev g b).v)++s.toList) m λv r=>Ao (MB n q []) m r (Qf T h v λb=>k q b r)):
 Fq c n a m ⟨i,.call ⟨.value f,d,e⟩,h,o,j,l⟩ k:=by
 intro w O V R K
 subst O
 have r:Hw c p=true:=List.all_eq_true.1 z p (by simpa using H)
 have C:d.map a.eval=(d.toList.map λb=>(ev g b).v).toArray:=by
  apply Array.toList_inj.1;simp[<-BQ A J]
 unfold Hw at r
 split at r
 .rename_i u F
  simp only[bN,iK]at r
  have D:u.body.isNone=false:=by cases U:u.body<;>simp_all
  have L:(execOp a.eval ⟨i,.call ⟨.value f,d,e⟩,h,o,j,l⟩).run c w=
   .ok (.enter p (first.toList++(d.toList.map λb=>(ev g b).v)++s.toList).toArray) w:=by
   simp only[execOp,resolve,E,C,Deferred.ofValue,Sem.run_bind,Sem.run_pure,Result.andThen_ok,invoke,callFunc,run_program,F,r.1,D,ig,qv]
   simp
  unfold Oper.wp
  rw[L]
  show Calls c p _ w _
  refine(x w rfl).mono ?_
  rintro S Q ⟨v,rfl,M,t⟩
  obtain⟨N,t⟩:=mH t
  obtain⟨b,P,I⟩:=SX t
  exact K q b v Q I B (y.dv N) P M
 .simp at r
def SD(v:U1 c G)(q:ka n g a)(y:Bx n g m){r:Array Operand}(d:wr c T G n g m i h k (.call ⟨.value f,r,e⟩)):Fq c n a m ⟨i,.call ⟨.value f,r,e⟩,h,o,j,l⟩ k:=by
 simp only[wr,TM]at d;split at d
 .exact d.elim
 rename_i D z;obtain⟨w,u⟩:=qJ z q y;split at d
 .rename_i s first x t
  cases p:(G.elem s&&r.toList.all (λb=>(ev g b).jJ))
  .rw[p]at d;exact d.elim
  .rw[p]at d;simp only[bN]at p;exact KN v q w u (q.eq t rfl) p.1 p.2 d
 .rename_i x t;cases p:(r.toList.all (λb=>(ev g b).jJ))
  .rw[p]at d;exact d.elim
  .rw[p]at d;obtain⟨s,A,B,d⟩:=d;have C:a.eval f=.func (.func s) x.2.1 x.2.2:=by
    rw[<-A];exact q.eq t rfl
   exact KN v q w u C B p d
 .exact d.elim
def sR(a:c.underlying t=some (.int .i64))(e:Bool)(b:Int)(w:World):(Instr.checkKey e 10000 t (.int .i64 b)).run c w=.ok () w:=by
 have:Instr.checkKey e 10000 t (.int .i64 b)=Instr.checkKey e (9999+1) t (.int .i64 b):=rfl;rw[this];generalize 9999=d;simp[Instr.checkKey,run_underlying a]
def zQ(b:Int):∀(a:List MapEntry)(l:List (Int×Int))(i:Nat),a.map (λe=>(e.key,e.val))=l.map (λp=>(Value.int .i64 p.1,Value.int .i64 p.2))->
 (Instr.findNow (.int .i64) (.int .i64 b) a i=some none/\vt l b=0/\(∀v,JG l b v=l++[(b,v)]))\/
 ∃j u,Instr.findNow (.int .i64) (.int .i64 b) a i=some (some (i+j,.int .i64 u))/\vt l b=u/\j<a.length/\l[j]? =some (b,u)/\∀v,JG l b v=l.set j (b,v)
 |[],[],i,_=>Or.inl ⟨rfl,rfl,λv=>rfl⟩
 |[],_::_,i,h=>by simp at h
 |_::_,[],i,h=>by simp at h
 |e::a,(j,u)::l,i,h=>by
  simp only[cG,List.cons.injEq,Oc]at h;obtain⟨⟨r,s⟩,h⟩:=h;have k:Instr.sameNow (.int .i64) (.int .i64 b) e.key=some (b==j):=by rw[r];simp[Instr.sameNow]
  by_cases c:b=j
  .subst c;refine Or.inr ⟨0,u,?_,?_,aJ,aJ,?_⟩
   .simp[Instr.findNow,k,s]
   .simp[vt]
   .intro v;simp[JG]
  .have m:(b==j)=false:=by simpa using c
   rcases zQ b a l (i+1) h with⟨d,f,g⟩|⟨q,t,d,f,g,o,p⟩
   .refine Or.inl ⟨?_,?_,?_⟩
    .simp[Instr.findNow,k,m,d]
    .simp[vt,c,f]
    .intro v;simp[JG,c,g]
   .refine Or.inr ⟨q+1,t,?_,?_,by simpa using g,by simpa using o,?_⟩
    .have n:i+1+q=i+(q+1):=V;simp[Instr.findNow,k,m,d,n]
    .simp[vt,c,f]
    .intro v;simp[JG,c,p]
def Ot(f:ka n g a)(e:Bx n g m){r:Option Operand}(d:wr c T G n g m i h k (.makeMap t r)):Fq c n a m ⟨i,.makeMap t r,h,o,j,l⟩ k:=by
 intro b q s Q p
 subst q;cases r with
 |some r=>exact d.elim
 |none=>
  refine jO (w:=b) (c:=.c (.mp b.heap.size)) (v:=.map (some b.heap.size)) (b:={b with heap:=b.heap.push (.map #[] 0)}) f (e.push _) rfl ⟨rfl,rfl,rfl⟩ d ?_ p;simp[execOp,Instr.makeMap]
def PI(s:uj c T)(r:ka n g a)(L:Bx n g m){z:Bool}(d:wr c T G n g m i h k (.lookup t b y z)):Fq c n a m ⟨i,.lookup t b y z,h,o,j,l⟩ k:=by
 intro e W ag ad S
 subst W;cases z with
 |true=>exact d.elim
 |false=>
  simp only[wr]at d;split at d
  .rename_i kt et sh ae B f V X Y;split at d
   .rename_i b1 b2 R P;obtain⟨u,⟨C,J,O,N⟩,Q⟩:=d;have F:=(Cb (s.yD V)).1;obtain⟨⟨K,hd,E⟩,_⟩:=oA (s.yD R);have M:K=.int .i64:=by
     unfold Ai at E;split at E<;>simp_all
    subst M;obtain⟨A,Z,ac,ab⟩:=wz s P rfl;have aa:A=.int .i64 0:=by
     have:A.cells.toList=[Value.int .i64 0]:=Z;have U:=ab rfl;cases A<;>first|(simp[Value.cells]at this;done)|(simp[Value.cells]at this;rw[this.1,this.2])|exact absurd rfl (U _)
    have H:a.eval b=.map (some B):=r.eq X rfl;have I:a.eval y=.int .i64 f:=r.eq Y rfl;have D:(getObj B).run c e=.ok (.map C J) e:=by simp[getObj,Sem.run,O]
    refine jO (w:=e) (c:=.c (.i (vt u f))) (v:=.int .i64 (vt u f)) (b:=e) r L rfl (pI.aA e) Q ?_ S;rcases zQ f C.toList u 0 N with⟨p,q,_⟩|⟨af,ah,p,q,_⟩
    .simp[execOp,Instr.lookup,run_underlying F,H,I,D,sR hd,Instr.findKey,run_underlying hd,p,ac,aa,q]
    .simp[execOp,Instr.lookup,run_underlying F,H,I,D,sR hd,Instr.findKey,run_underlying hd,p,q]
   .exact d.elim
  .exact d.elim
def KP(L:uj c T)(s:ka n g a)(K:Bx n g m){z:Operand}(r:wr c T G n g m i h k (.mapUpdate t b y z)):Fq c n a m ⟨i,.mapUpdate t b y z,h,o,j,l⟩ k:=by
 intro w hw ai ag Q
 subst hw;simp only[wr]at r;split at r
 .rename_i kt et sh ah e d v ht hx hy hz;split at r
  .rename_i b1 ae;obtain⟨Y,⟨p,q,E,x⟩,P⟩:=r;have U:=(Cb (L.yD ht)).1;obtain⟨⟨Z,hd,R⟩,_⟩:=oA (L.yD ae);have aa:Z=.int .i64:=by
    unfold Ai at R;split at R<;>simp_all
   subst aa;have V:a.eval b=.map (some e):=s.eq hx rfl;have W:a.eval y=.int .i64 d:=s.eq hy rfl;have X:a.eval z=.int .i64 v:=s.eq hz rfl;have N:(getObj e).run c w=.ok (.map p q) w:=by simp[getObj,Sem.run,E]
   have S:∀I,(setObj e I).run c w=.ok () {w with heap:=w.heap.setIfInBounds e I}:=λI=>by simp[setObj,Sem.run,E]
   have M:e<w.heap.size:=(Array.getElem?_eq_some_iff.1 E).1;unfold Oper.wp;rcases zQ d p.toList Y 0 x with⟨C,h2,D⟩|⟨f,aj,C,h2,D,J,h5⟩
   .have H:(execOp a.eval ⟨i,.mapUpdate t b y z,h,o,j,l⟩).run c w=.ok .skip {w with heap:=w.heap.setIfInBounds e (.map (p.push {key:=.int .i64 d,val:=.int .i64 v,born:=q}) (q+1))}:=by
     simp[execOp,Instr.mapUpdate,run_underlying U,V,W,X,N,sR hd,Instr.findKey,run_underlying hd,C,S]
    rw[H];have u:=mH (P {w with heap:=w.heap.setIfInBounds e (.map (p.push {key:=.int .i64 d,val:=.int .i64 v,born:=q}) (q+1))}.heap ?_ aJ ?_)
    .exact Q g .un undef _ u.2 s (K.dv u.1) rfl ⟨rfl,rfl,rfl⟩
    .refine⟨_,_,by simp[M];exact⟨rfl,rfl⟩,?_⟩;rw[D];simp[x]
    .intro f F;simp[jS (kJ F)]
   .have ad:(p[f]?).map (·.key)=some (.int .i64 d):=by
     have:=qu (λA=>(A[f]?).map (·.1)) x;simpa[J]using this
    have af:(Instr.keyThatStays (.int .i64 d) (.int .i64 d)).run c w=.ok (.int .i64 d) w:=by
     simp[Instr.keyThatStays,Instr.sameBits]
    have H:(execOp a.eval ⟨i,.mapUpdate t b y z,h,o,j,l⟩).run c w=.ok .skip {w with heap:=w.heap.setIfInBounds e (.map (p.modify f λB=>{B with key:=.int .i64 d,val:=.int .i64 v}) q)}:=by
     simp only[execOp,Instr.mapUpdate,run_underlying U,V,W,X,N,sR hd,Instr.findKey,run_underlying hd,C,Sem.run_bind,Result.andThen_ok,Sem.run_pure,cD,ad,vJ,af,S]
    rw[H];have u:=mH (P {w with heap:=w.heap.setIfInBounds e (.map (p.modify f λB=>{B with key:=.int .i64 d,val:=.int .i64 v}) q)}.heap ?_ aJ ?_)
    .exact Q g .un undef _ u.2 s (K.dv u.1) rfl ⟨rfl,rfl,rfl⟩
    .refine⟨_,_,by simp[M];exact⟨rfl,rfl⟩,?_⟩;rw[h5];apply iL;intro A;have B:=qu (λ(q':List (Value×Value))=>q'[A]?) x;simp only[cU]at B;simp only[cU,jF,Yh,lL]at B⊢;by_cases O:f=A
     .subst O;have ac:f<Y.length:=(List.getElem?_eq_some_iff.1 J).1;have ab:f<p.size:=by simpa using D
      simp[ac,ab]
     .simp only[O,qv];exact B
    .intro f F;simp[jS (kJ F)]
  .exact r.elim
 .exact r.elim
def tL(l:List Ce)(z:O)(a f:Nat)(d:l.length=a*f)(w:World)(h:fX w.heap z.D z.off l)(e:a<=z.len):
 (Builtin.firstCells f a z.v).run c w=.ok (bA l) w:=by
 cases z with
 |nil=>
  have b:a=0:=by simp at e;omega
  have:l=[]:=List.length_eq_zero_iff.1 (by rw[d,b];simp)
  subst this
  simp[Builtin.firstCells,O.v,bA]
 |zP g i j=>
  have b:a=0:=by simp at e;omega
  have:l=[]:=List.length_eq_zero_iff.1 (by rw[d,b];simp)
  subst this
  simp[Builtin.firstCells,O.v,bA,b,loadCells,loadCellsFrom]
 |mk b o i g=>
  simp only[Builtin.firstCells,O.v,<-d]
  exact Qh l b o w h
def Pe(a:List Ce)(z:Array Value)(b:z.toList=a.map Ce.v)(n:Nat):Builtin.zeroCells z n=bA (nF a n):=by
 have c:z.size=a.length:=by rw[<-ZN,b];simp
 rw[<-IU a z b n,Builtin.zeroCells,c]
def Qz(l r:List Ce):bA (l++r)=bA l++bA r:=by simp[bA]
def PH(H:uj c T)(C:ka n g a)(L:Bx n g m){Z:Array Operand}(q:wr c T G n g m i h k (.call ⟨.builtin .append,Z,e⟩)):Fq c n a m ⟨i,.call ⟨.builtin .append,Z,e⟩,h,o,j,l⟩ k:=by
 intro d hw aM aE N
 subst hw;simp only[wr]at q;split at q
 .rename_i b y t aD am az;split at q
  .rename_i B sh aF e2 aN aG s z ht aA hx hy;split at q
   .rename_i f ac;cases u:(f.uN||Nat.beq f.bytes 0)
    .rw[u]at q;simp only[bu]at u;obtain⟨A,Q,ar,ah,ai⟩:=q;have e1:Z=#[b,y]:=Array.toList_inj.1 (by simpa using am);have al:e=#[t,aD]:=Array.toList_inj.1 (by simpa using az);subst e1;subst al;have U:=(ku (H.yD ht)).1;have W:=(ku (H.yD aA)).1;obtain⟨zv,hz,ak,aL⟩:=wz H ac u.1;obtain⟨ti,hb,aK,af,_⟩:=Gm H ac u.1;have S:=λd=>kG H ac u.1 d;have X:a.eval b=s.v:=C.eq hx rfl;have Y:a.eval y=z.v:=C.eq hy rfl;have E:(Builtin.lenOf z.v).run c d=.ok z.len d:=by cases z<;>simp[Builtin.lenOf,O.v,O.len]
     have aj:(f.sh.map Sh.zero).length=f.sh.length:=aJ;rw[aj]at Q;simp only[aj]at ah ai;have M:∀r:World,r.heap=d.heap->(Builtin.firstCells f.sh.length z.len z.v).run c r=.ok (bA A) r:=λr ag=>
      tL A z z.len f.sh.length Q r (by rw[ag];exact ar) (ad _)
     have ay:=s.XO;by_cases D:s.len+z.len<=s.cap
     .obtain⟨R,p⟩:=ah D;cases s with
      |nil=>
       simp only[O.OH,O.Vf]at D R p;have J:z.len=0:=V;have:A=[]:=List.length_eq_zero_iff.1 (by rw[Q,J];simp);subst this;obtain⟨ab,p⟩:=mH p;refine jO (w:=d) (c:=.c (.s .nil)) (v:=.slice none 0 0) (b:=d) C L rfl (pI.aA d) p ?_ N;have I:a.eval b=.slice none 0 0:=X;have F:=M d rfl;simp only[execOp,resolve,Sem.run_bind,Sem.run_pure,Result.andThen_ok,invoke,builtin,Builtin.append_,nv,cG,fE,I,Y];rw[J]at E F;simp[run_underlying U,run_underlying W,S,E,F]
      |zP K o0 sp=>
       simp only[O.Sb,O.Ve]at D R p;have J:z.len=0:=V;have:A=[]:=List.length_eq_zero_iff.1 (by rw[Q,J];simp);subst this;obtain⟨ab,p⟩:=mH p;refine jO (w:=d) (c:=.c (.s (.zP K o0 sp))) (v:=.slice (some ⟨K,o0,some sp⟩) 0 0) (b:=d) C L rfl (pI.aA d) p ?_ N;have I:a.eval b=.slice (some ⟨K,o0,some sp⟩) 0 0:=X;have F:=M d rfl;simp only[execOp,resolve,Sem.run_bind,Sem.run_pure,Result.andThen_ok,invoke,builtin,Builtin.append_,nv,cG,fE,I,Y];rw[J]at E F;simp[run_underlying U,run_underlying W,S,E,F,bA,storeCells]
      |mk F K J aa=>
       simp only[O.iS,O.Oo,O.jC,O.tH]at D R p;obtain⟨ab,p⟩:=mH p;refine jO (w:=d) (c:=.c (.s (.mk F K (J+z.len) aa))) (v:=.slice (some ⟨F,K,none⟩) (J+z.len) aa) (b:=d.setCells F (K+J*f.sh.length) (A.map Ce.v)) C (by rw[k8];exact L.dv ab) rfl (rm _ _ _ _) (by rw[k8];exact p) ?_ N;have an:=Ej (d:=c) A F (K+J*f.sh.length) d R;have I:a.eval b=.slice (some ⟨F,K,none⟩) J aa:=X;simp only[execOp,resolve,Sem.run_bind,Sem.run_pure,Result.andThen_ok,invoke,builtin,Builtin.append_,nv,cG,fE,I,Y];simp[run_underlying U,run_underlying W,S,E,D,M d rfl,vT,bA,an]
     .obtain⟨ab,old,av,ax,p⟩:=ai V;have aH:=growslice_fits (need:=s.len+z.len) (old:=s.cap) (bytes:=f.bytes) V ab;have K:f.bytes≠0:=λB=>by rw[B]at u;simp at u
      have aI:¬(((s.len+z.len:Nat):Int)>IntKind.i64.max/\f.bytes=0):=λhh=>K hh.2;have aw:∀r:World,r.heap=d.heap->(Builtin.firstCells f.sh.length s.len s.v).run c r=.ok (bA old) r:=λr ag=>
       tL old s s.len f.sh.length av r (by rw[ag];exact ax) (ad _)
      let I:Question:=.appendCap (s.len+z.len) s.cap B;let nc:=I.cut (d.tape d.drawn I);let J:World:={d with drawn:=d.drawn+1};have ap:s.len+z.len<=nc:=Nat.le_add_right _ _;refine jO (w:=d) (c:=.c (.s (.mk d.heap.size 0 (s.len+z.len) nc))) (v:=.slice (some ⟨d.heap.size,0,none⟩) (s.len+z.len) nc)
       (b:={J with heap:=d.heap.push (.cells (bA (old++A++nF (f.sh.map Sh.zero) (nc -(s.len+z.len)))) B)}) C (L.push _) rfl ⟨rfl,rfl,rfl⟩ (mH (p nc ap)).2 ?_ N
      have aC:zv.cells.toList=(f.sh.map Sh.zero).map Ce.v:=by simp[hz]
      have aa:=Pe (f.sh.map Sh.zero) zv.cells aC (nc -(s.len+z.len));have an:I.forced=false:=rfl;have aq:¬(Builtin.nextslicecap (s.len+z.len) s.cap*f.bytes>2^48):=by
       have:(2:Nat)^48=281474976710656:=be;omega
      simp only[execOp,resolve,Sem.run_bind,Sem.run_pure,Result.andThen_ok,invoke,builtin,Builtin.append_,nv,cG,fE,X,Y];have F:=aw J rfl;have R:=M J rfl;rw[ay]at F⊢;simp only[lM,sO,gX,Sem.run_bind,run_underlying U,run_underlying W,Result.andThen_ok,S,Sem.run_pure,E,ig,qv,D,af,hb,false_or];simp only[K,and_false,qv,aq,Sem.run_bind,run_choose,an,ig,Result.andThen_ok,af,run_askRoom,F,Mw,MC,R,ak,aa,newRow,run_newObj,Sem.run_pure];simp[Qz];rw[hb,ae V,ae (show¬(Question.appendCap (s.len+z.len) s.cap B).forced=true by simp[Question.forced])];have au:(Builtin.firstCells f.sh.length s.len (Value.slice s.cv s.len s.cap)).run c d.drew=.ok (bA old) d.drew:=F;have ao:(Builtin.firstCells f.sh.length z.len z.v).run c d.drew=.ok (bA A) d.drew:=R;simp only[af,Result.andThen_ok,au,ao,ak];have aB:Builtin.zeroCells zv.cells ((Question.appendCap (s.len+z.len) s.cap B).cut (d.tape d.drawn (Question.appendCap (s.len+z.len) s.cap B)) -(s.len+z.len))=bA (nF (f.sh.map Sh.zero) (nc -(s.len+z.len))):=aa;rw[aB];rfl
    .rw[u]at q;exact q.elim
   .exact q.elim
  .exact q.elim
 .exact q.elim
end
end Go.Vc
end
section
namespace Go.Vc
variable{b:Program}{T:TT}{G:List Nat}
section
variable{n:Nat}{c:Fr}{a:Act}{m:E}{k:Fr->SV->E->Prop}{d:Option Tmp}{e:TypeId}{h:String}{f:Array Edge}{g:Option (Nat×Bool)}
def SE(M:uj b T)(t:ka n c a)(U:Bx n c m){r:Array Operand}{K:Array TypeId}(i:wr b T G n c m d e k (.call ⟨.builtin .copy,r,K⟩)):Fq b n a m ⟨d,.call ⟨.builtin .copy,r,K⟩,e,h,f,g⟩ k:=by
 intro j hw ah ae W
 subst hw;simp only[wr]at i;split at i
 .rename_i q R ad ai V ab;split at i
  .rename_i ag sh af s z ht hx hy;split at i
   .rename_i J aa;cases u:J.uN
    .rw[u]at i;obtain⟨o,C,X,Y,y⟩:=i;obtain⟨Z,y⟩:=mH y;have S:r=#[q,R]:=Array.toList_inj.1 (by simpa using V);subst S;have E:K[0]? =some ad:=by rw[<-Yh,ab];rfl
     have F:=(ku (M.yD ht)).1;have D:=λj=>kG M aa u j;have H:a.eval q=s.v:=t.eq hx rfl;have I:a.eval R=z.v:=t.eq hy rfl;have A:(Builtin.lenOf z.v).run b j=.ok z.len j:=by cases z<;>simp[Builtin.lenOf,O.v,O.len]
     have l:(Builtin.firstCells J.sh.length (Nat.min z.len s.len) z.v).run b j=.ok (bA o) j:=
      tL o z _ J.sh.length C j X (Nat.min_le_left _ _)
     refine jO (w:=j) (c:=.c (.i (Nat.min z.len s.len:Nat))) (v:=.int .i64 (Nat.min z.len s.len:Nat)) (b:=j.setCells s.D s.off (o.map Ce.v)) t (by rw[k8];exact U.dv Z) rfl (rm _ _ _ _) (by rw[k8];exact y) ?_ W;cases s with
     |nil=>
      have B:Nat.min z.len O.nil.len=0:=aJ;have:o=[]:=List.length_eq_zero_iff.1 (by rw[C,B];simp);subst this;have p:a.eval q=.slice none 0 0:=H;simp only[O.OH]at l⊢;simp only[execOp,resolve,Sem.run_bind,Sem.run_pure,Result.andThen_ok,invoke,builtin,Builtin.copy_,nv,cG,fE,p,I,E];simp only[lM,sO,gX,Sem.run_bind,run_underlying F,Result.andThen_ok,A,D,l,Sem.run_pure];rfl
     |zP L N Q=>
      have B:Nat.min z.len (O.zP L N Q).len=0:=aJ;have:o=[]:=List.length_eq_zero_iff.1 (by rw[C,B];simp);subst this;have p:a.eval q=.slice (some ⟨L,N,some Q⟩) 0 0:=H;simp only[O.Sb]at l⊢;simp only[execOp,resolve,Sem.run_bind,Sem.run_pure,Result.andThen_ok,invoke,builtin,Builtin.copy_,nv,cG,fE,p,I,E];simp only[lM,sO,gX,Sem.run_bind,run_underlying F,Result.andThen_ok,A,D,l,Sem.run_pure,bA];rfl
     |mk B L ac N=>
      have Q:=Ej (d:=b) o B L j Y;have p:a.eval q=.slice (some ⟨B,L,none⟩) ac N:=H;simp only[O.iS]at l⊢;simp only[execOp,resolve,Sem.run_bind,Sem.run_pure,Result.andThen_ok,invoke,builtin,Builtin.copy_,nv,cG,fE,p,I,E];simp only[lM,sO,gX,Sem.run_bind,run_underlying F,Result.andThen_ok,A,D,l,Sem.run_pure,bA,Q];rfl
    .rw[u]at i;exact i.elim
   .exact i.elim
  .exact i.elim
 .exact i.elim
def QB(o:uj b T)(u:U1 b G)(l:ka n c a)(j:Bx n c m)(p:Oper)(i:wr b T G n c m p.dst p.type k p.op):Fq b n a m p k:=by
 obtain⟨d,v,e,h,f,g⟩:=p;cases v with
 |alloc t=>exact QU o l j i
 |box t x=>exact TR l j i
 |buildSlice t q r=>exact Jx o l j i
 |store t x y=>exact QV o l j i
 |makeSlice t x y=>exact KO o l j i
 |makeFunc r first q=>exact MF l j i
 |makeMap t w=>exact Ot l j i
 |lookup t x y q=>exact PI o l j i
 |mapUpdate t x y z=>exact KP o l j i
 |call r=>
  obtain⟨s,t,x⟩:=r;cases s with
  |builtin q=>
   cases q with
   |append=>exact PH o l j i
   |copy=>exact SE o l j i
   |_=>exact i.elim
  |value q=>exact SD u l j i
  |invoke w q=>exact i.elim
 |_=>exact i.elim
end
end Go.Vc
end
section
namespace Go.Vc
variable{b:Array Bool}{j:Nat}{L:List (Nat×(World->Prop))}{a:Act}{w:World}
section
variable{P:Program}{c:Array Oper}{Q:Exit->Act->World->Prop}{d:Region.Mode}{e:Nat->Nat->Bool}
def vI(P:Program)(d:Region.Mode)(c:Array Oper)(Q:Exit->Act->World->Prop)(e:Nat->Nat->Bool)(L:List (Nat×(World->Prop))):Nat->Array Bool->Act->World->Prop
 |0,b,a,w=>Region.ready d c b=[]/\Q .normal a w
 |h+1,b,a,w=>
  (Region.ready d c b=[]->Q .normal a w)/\
  ∀i∈Region.ready d c b,wpOp P c Q i (λg f=>(∀x∈L,e i x.1=false->x.2 w->x.2 f)/\vI P d c Q e L h (b.setIfInBounds i true) g f) a w
def Ms{L:List (Nat×(World->Prop))}:∀(f:Nat)(b:Array Bool)(a:Act)(w:World),vI P d c Q e L f b a w->wpAny P d c Q f b a w
 |0,_,_,_,h=>h
 |f+1,_,_,_,h=>⟨h.1,λk j=>wpOp_mono (λg l i=>Ms f _ g l i.2) (h.2 k j)⟩
def DE{L g:List (Nat×(World->Prop))}(j:∀x∈g,x∈L):∀(f:Nat)(b:Array Bool)(a:Act)(w:World),vI P d c Q e L f b a w->vI P d c Q e g f b a w
 |0,_,_,_,h=>h
 |f+1,_,_,_,h=>⟨h.1,λn l=>wpOp_mono (λk o i=>⟨λx m=>i.1 x (j x m),DE j f _ k o i.2⟩) (h.2 n l)⟩
def Hm(e:Nat->Nat->Bool)(b:Array Bool):Prop:=∀i,b.getD i false=true->∀r,e i r=true->b.getD r false=true
def UX(d:Region.Mode)(c:Array Oper)(e:Nat->Nat->Bool):Prop:=
 ∀(i r:Nat)(o:Oper),c[i]? =some o->e i r=true->∃a∈o.after,Region.binds d a=true/\(a.on=r\/e a.on r=true)
def xE(k:UX d c e)(l:Hm e b)(n:j∈Region.ready d c b){r:Nat}(p:e j r=true):b.getD r false=true:=by
 obtain⟨_,q,o,g⟩:=mem_ready.1 n;obtain⟨f,m,i,h⟩:=k j r q o p;have a:=g f m i;rcases h with rfl|h
 .exact a
 .exact l _ a r h
def Hm.set(k:UX d c e)(a:Hm e b)(l:j∈Region.ready d c b):Hm e (b.setIfInBounds j true):=by
 intro i f r h;by_cases g:j=i
 .subst g;exact getD_set_true (xE k a l h)
 .rw[getD_set_ne false g]at f;exact getD_set_true (a i f r h)
def Hi{i:Nat}{l:Oper}{F:Value}{S:World->Prop}(I:UX d c e)(C:c[i]? =some l)(O:∀(j:Nat)(R:Oper) q p,c[j]? =some R->R.op≠.select q p)
 (V:∀f a w,Q (.panic f) (a.put l.dst F) w->Q (.panic f) a w):
 ∀(r:Nat)(b:Array Bool)(a:Act)(w:World),Hm e b->
  (∀j m,c[j]? =some m->j≠i->b.getD j true=false->(∀f∈m.after,Region.binds d f=true->f.on≠i)->l.apart c m=true)->
  i∈Region.ready d c b->YieldsIf P c S l F a->S w->
  vI P d c Q e ((i,S)::L) r (b.setIfInBounds i true) (a.put l.dst F) w->vI P d c Q e L (r+1) b a w:=by
 intro r
 induction r with
 |zero=>
  intro b a w _ _ k y x H
  refine⟨λh=>(by rw[h]at k;cases k),λj n=>?_⟩
  by_cases g:j=i
  .subst g;exact y.wpOp C x ⟨λz _ _ h=>h,H⟩
  .have:=ready_mono n g
   rw[H.1]at this
   cases this
 |succ r ih=>
  intro b a w J K k y x H
  refine⟨λh=>(by rw[h]at k;cases k),λj n=>?_⟩
  by_cases g:j=i
  .subst g;exact y.wpOp C x ⟨λz _ _ h=>h,DE (λz E=>ai _ E) _ _ _ _ H⟩
  .have u:=H.2 j (ready_mono n g)
   obtain⟨N,m,D,W⟩:=mem_ready.1 n
   have s:b.getD i false=false:=by
    have G:=(mem_ready.1 k).1;rcases aZ i b.size with A|A
    .simp[A]at G⊢;exact G
    .simp[IV A]
   have ad:∀f∈m.after,Region.binds d f=true->f.on≠i:=λf Y B Z=>by
    have u:=W f Y B;rw[Z,s]at u;cases u
   have X:e j i=false:=by
    cases B:e j i
    .rfl
    .have:=xE I J n B;rw[s]at this;cases this
   have U:=wpOp_putIf D (K j m D g N ad) (λq p=>O i l q p C) (λq p=>O j m q p D) V y u
   have aa:∀o t,c[o]? =some t->o≠i->(b.setIfInBounds j true).getD o true=false->
    (∀f∈t.after,Region.binds d f=true->f.on≠i)->l.apart c t=true:=λo t hk ab s ac=>by
    refine K o t hk ab ?_ ac
    by_cases M:j=o
    .subst M;exact N
    .rw[getD_set_ne true M]at s;exact s
   refine wpOp_mono (λT w' v=>⟨λz E=>v.2.1 z (ai _ E),
    ih (b.setIfInBounds j true) T w' (J.set I n) aa (ready_mono k (kJ g)) v.1 (v.2.1 (i,S) aX X x) ?_⟩) U
   rw[Array.setIfInBounds_comm _ _ g]
   exact v.2.2
def RE{f:Nat}(k:Region.ready d c b≠[])
 (j:∀i∈Region.ready d c b,wpOp P c Q i (λh g=>(∀x∈L,e i x.1=false->x.2 w->x.2 g)/\vI P d c Q e L f (b.setIfInBounds i true) h g) a w):
 vI P d c Q e L (f+1) b a w:=⟨λg=>absurd g k,j⟩
def QA(f:Region.ready d c b=[])(h:Q .normal a w):
 ∀g,vI P d c Q e L g b a w
 |0=>⟨f,h⟩
 |_+1=>⟨λ_=>h,by rw[f];simp⟩
end
end Go.Vc
end
section
namespace Go.Vc
variable{o:Oper}{a:Act}{m:E}
variable{b:Program}{T:TT}{G:List Nat}{n:Nat}
def Lc:Op->Bool
 | .alloc _| .box ..| .buildSlice ..| .store ..| .makeSlice ..| .makeMap ..| .lookup ..| .mapUpdate ..| .makeFunc ..=>true
 | .call ⟨.builtin .append,_,_⟩| .call ⟨.builtin .copy,_,_⟩=>true
 | .call ⟨.builtin _,_,_⟩=>false
 | .call _=>true
 |_=>false
def sI(n:Nat):Option Nat->Bool
 |none=>true
 |some d=>Nat.blt d n
def KZ(a:List Oper)(j:Nat):Option Nat:=
 match HO a j with
 |some o=>o.dst
 |none=>none
def gd(e:List Oper)(a:Fr)(g:Option (Nat×Bool))(Pl b:Fr->Prop):Prop:=
 match g with
 |none=>Pl a
 |some (j,c)=>match KZ e j with
  |none=>False
  |some d=>match gZ a d with
   | .tt=>bif c then Pl a else b a
   | .ff=>bif c then b a else Pl a
   | .un=>b a
   | .c (.t x)=>(x=true->bif c then Pl ((d,.tt)::a)else b ((d,.tt)::a))/\(x=false->bif c then b ((d,.ff)::a)else Pl ((d,.ff)::a))
   |_=>False
def sN(b:Program)(T:TT)(G:List Nat)(n:Nat)(c:List Oper):List Oper->Fr->E->(Fr->E->Prop)->Prop
 |[],a,m,k=>k a m
 |o::kj,a,m,k=>
  bif sI n o.dst then
   gd c a o.guard
    (λa=>bif Lc o.op then wr b T G n a m o.dst o.type (λd x e=>sN b T G n c kj (uo d o.dst x) e k) o.op
     else rd T a m (λx=>sN b T G n c kj (uo a o.dst x) m k) o.op)
    (λa=>sN b T G n c kj (uo a o.dst .un) m k)
  else False
def zN:List Oper->List Nat
 |[]=>[]
 |o::r=>match o.dst with
  |some d=>d::zN r
  |none=>zN r
def mJ(M:List Nat)(a b:Act):Prop:=∀t,t∉M->b.tmps.getD t undef=a.tmps.getD t undef
def mJ.aA(M:List Nat)(a:Act):mJ M a a:=λ_ _=>rfl
def mJ.trans{M:List Nat}{a b c:Act}(h:mJ M a b)(k:mJ M b c):mJ M a c:=λt d=>(k t d).trans (h t d)
def mJ.put{M:List Nat}{d:Option Nat}(hd:∀t,d=some t->t∈M)(v:Value)(a:Act):mJ M a (a.put d v):=by
 cases d with
 |none=>exact mJ.aA M a
 |some d=>
  intro t c;have b:d≠t:=λe=>c (e▸hd d rfl);simp[Act.put,jS b]
def Lk{d:Nat}(hd:o.dst=some d):∀(a:List Oper),o∈a->d∈zN a:=by
 intro a;induction a with
 |nil=>intro h;cases h
 |cons x r c=>
  intro h;rcases List.mem_cons.1 h with b|b
  .subst b;simp only[zN,hd];exact aX
  .have:=c b;unfold zN;cases x.dst with
   |none=>exact this
   |some e=>exact ai _ this
def DP{d:Option Nat}(h:sI n d=true):∀t,d=some t->t<n:=by
 rintro t rfl;have:Nat.blt t n=true:=h;simpa[Nat.blt,Nat.succ_le_iff]using this
def IS(k:Array Oper){d:Fr}(f:ka n d a)(e:Bx n d m)(o:Oper){Pl z:Fr->Prop}(h:gd k.toList d o.guard Pl z):
 (Region.wanted o (yielded k a.tmps)=true/\∃b,Pl b/\ka n b a/\Bx n b m)\/
 (Region.wanted o (yielded k a.tmps)=false/\∃b,z b/\ka n b a/\Bx n b m):=by
 unfold gd at h
 cases b:o.guard with
 |none=>
  rw[b]at h
  exact Or.inl ⟨by simp[Region.wanted,b],d,h,f,e⟩
 |some C=>
  obtain⟨r,v⟩:=C
  rw[b]at h
  simp only at h
  split at h
  .exact h.elim
  .rename_i g hd
   have y:(k[r]?).bind (·.dst)=some g:=by
    unfold KZ at hd;rw[pV]at hd;have B:k.toList[r]? =k[r]? :=aJ;rw[B]at hd;split at hd
    .rename_i i c;rw[c];exact hd
    .simp at hd
   have i:=f.aG g
   have w:∀j:Bool,a.tmps.getD g undef=.bool j->yielded k a.tmps r=some j:=by
    intro j l;have:a.tmps[g]? =some (.bool j):=by
     cases q:a.tmps[g]? with
     |none=>rw[zw,q]at l;simp[undef]at l
     |some t=>rw[zw,q]at l;simp at l;rw[l]
    simp[yielded,y,this]
   split at h
   .rename_i p
    rw[p]at i
    have c:=w true i
    cases v
    .exact Or.inr ⟨by simp[Region.wanted,b,c],d,h,f,e⟩
    .exact Or.inl ⟨by simp[Region.wanted,b,c],d,h,f,e⟩
   .rename_i p
    rw[p]at i
    have c:=w false i
    cases v
    .exact Or.inl ⟨by simp[Region.wanted,b,c],d,h,f,e⟩
    .exact Or.inr ⟨by simp[Region.wanted,b,c],d,h,f,e⟩
   .rename_i p
    rw[p]at i
    have c:yielded k a.tmps r=none:=by
     have s:a.tmps.getD g undef=undef:=i;rw[zw]at s;unfold yielded;rw[y];cases q:a.tmps[g]? with
     |none=>simp[q]
     |some t=>rw[q]at s;simp at s;subst s;simp[q,undef]
    exact Or.inr ⟨by simp[Region.wanted,b,c],d,h,f,e⟩
   .rename_i x p
    rw[p]at i
    have c:=w x i
    have u:∀j:Bool,x=j->ka n ((g,if j then SV.tt else SV.ff)::d) a:=by
     rintro j rfl;refine⟨f.size,f.defers,λA=>?_⟩;simp only[gZ];cases l:Nat.beq g A
     .exact f.aG A
     .have:=bt l;subst this;cases x<;>exact i
    obtain⟨s,t⟩:=h
    cases x
    .have t:=t rfl
     cases v
     .exact Or.inl ⟨by simp[Region.wanted,b,c],_,t,u false rfl,e.fZ aJ⟩
     .exact Or.inr ⟨by simp[Region.wanted,b,c],_,t,u false rfl,e.fZ aJ⟩
    .have s:=s rfl
     cases v
     .exact Or.inr ⟨by simp[Region.wanted,b,c],_,s,u true rfl,e.fZ aJ⟩
     .exact Or.inl ⟨by simp[Region.wanted,b,c],_,s,u true rfl,e.fZ aJ⟩
   .exact h.elim
def Y2(g:uj b T){c:Fr}(f:ka n c a)(e:Bx n c m){k:SV->Prop}(h:rd T c m k o.op){w:World}(p:w.heap=m)
 {d:Act->World->Prop}{Q:Exit->Act->World->Prop}(j:∀x v,k x->x.Is v->d (a.put o.dst v) w):o.wp b a w d Q:=by
 obtain⟨x,v,i,q,l⟩:=Lv (P:=b) g f e o h
 unfold Oper.wp
 rw[l w (λr _=>by rw[p])]
 exact j x v i q
def vg(l:uj b T)(s:U1 b G)(c:Array Oper){Q:Exit->Act->World->Prop}{K:World}{H:Act}:
 ∀(kj:List Oper)(d:Fr)(m:E)(k:Fr->E->Prop)(a:Act)(w:World),(∀o∈kj,o∈c.toList)->sN b T G n c.toList kj d m k->ka n d a->Bx n d m->w.heap=m->pI K w->
  mJ (zN c.toList) H a->
  (∀g e f,k g f.heap->ka n g e->Bx n g f.heap->pI K f->mJ (zN c.toList) H e->Q .normal e f)->wpList b c Q kj a w
 |[],d,m,k,a,w,_,h,y,v,e,r,p,q=>by
  subst e;exact q d a w h y v r p
 |o::kj,d,m,k,a,w,I,h,y,v,e,r,p,q=>by
  simp only[sN]at h;cases hd:sI n o.dst
  .rw[hd]at h;exact h.elim
  .rw[hd]at h;simp only[jI]at h;have z:=DP hd;have A:∀u,o.dst=some u->u∈zN c.toList:=λu N=>Lk N _ (I o aX);have B:=λS P=>I S (ai _ P);unfold wpList;rcases IS c y v o h with⟨D,g,t,j,i⟩|⟨D,g,O,j,i⟩
   .rw[aj D];refine .inl ?_;cases J:Lc o.op
    .simp only[J,mN]at t;refine Y2 l j i t e λV U F C=>?_;exact vg l s c kj _ m k _ w B F (j.put C z) (i.put _ _) e r (p.trans (mJ.put A _ _)) q
    .simp only[J,jI]at t;refine QB l s j i o t w e _ _ λW V U f F M L C R=>?_;exact vg l s c kj _ _ k _ f B F (M.put C z) (L.put _ _) rfl (r.trans R) (p.trans (mJ.put A _ _)) q
   .rw[ae (by rw[D];simp)];exact vg l s c kj _ m k _ w B O (j.put (x:=.un) rfl z) (i.put _ _) e r (p.trans (mJ.put A _ _)) q
end Go.Vc
end
section
namespace Go.Vc
variable{P:Program}{T:TT}{G:List Nat}{n:Nat}
def ur:List Nat->Nat->Nat
 |[],_=>0
 |x::_,0=>x
 |_::r,n+1=>ur r n
def lF:List Edge->Nat
 |[]=>0
 |e::r=>bif Region.binds .any e then 2^e.on|||lF r else lF r
def oE(a:List Nat):List Edge->Nat
 |[]=>0
 |e::r=>bif Region.binds .any e then(2^e.on|||ur a e.on)|||oE a r else oE a r
def lz(a:List Nat):List Oper->List Nat->List Nat->Bool
 |[],[],[]=>true
 |o::d,p::e,b::c=>Nat.beq p (lF o.after.toList)&&Nat.beq b (oE a o.after.toList)&&lz a d e c
 |_,_,_=>false
def Se:Op->List Operand
 | .alloc _| .ready _| .waits _=>[]
 | .move x| .assign x| .box _ x| .load _ x| .nilCheck x| .unOp _ _ x| .convert _ _ x| .sliceToArrayPointer _ x| .makeInterface _ x
 | .makeChan _ x| .fieldAddr _ x _| .field _ x _| .range _ x| .next x _| .entry x| .typeAssert x _ _ _| .extract x _| .panic x| .recv _ x _=>[x]
 | .pick c a b=>[c,a,b]
 | .build _ b| .buildSlice _ _ b=>b.toList.map (·.2)
 | .store _ a v| .binOp _ _ a v _| .makeSlice _ a v| .indexAddr _ a v| .index _ a v| .lookup _ a v _| .mapEntry _ a v| .send a v=>[a,v]
 | .makeFunc _ first a=>first.toList++a.toList
 | .makeMap _ r=>r.toList
 | .slice _ x l h m=>[x]++l.toList++h.toList++m.toList
 | .mapUpdate _ m k v| .entryStore _ m k v| .insert _ m k v=>[m,k,v]
 | .call ⟨.value f,a,_⟩| .go ⟨.value f,a,_⟩| .defer ⟨.value f,a,_⟩=>f::a.toList
 | .call ⟨.invoke f _,a,_⟩| .go ⟨.invoke f _,a,_⟩| .defer ⟨.invoke f _,a,_⟩=>f::a.toList
 | .call ⟨.builtin _,a,_⟩| .go ⟨.builtin _,a,_⟩| .defer ⟨.builtin _,a,_⟩=>a.toList
 | .select a _=>(a.flatMap λc=>#[c.chan]++c.send.toArray).toList
def Um(a:Op):a.operands.toList=Se a:=by
 cases a<;>try (simp[Op.operands,Se];done)
 all_goals
  rename_i c
  obtain⟨b,d,e⟩:=c
  cases b<;>simp[Op.operands,Se,Call.operands]
def Jt(d:Nat):List Operand->Bool
 |[]=>false
 | .tmp t::r=>Nat.beq t d||Jt d r
 |_::r=>Jt d r
def OI(a:List Oper)(o:Oper)(d:Nat):Bool:=
 Jt d (Se o.op)||(match o.guard with
  |some (g,_)=>(match KZ a g with|some t=>Nat.beq t d|none=>false)
  |none=>false)
def Om(a:List Oper)(x y:Oper):Bool:=
 (match x.dst with
  |some d=>!OI a y d&&(match y.dst with|some e=>!Nat.beq d e|none=>true)
  |none=>true)&&
 (match y.dst with
  |some d=>!OI a x d
  |none=>true)
def XH:Op->Bool
 | .select ..=>true
 |_=>false
def zI(b:List Oper)(i:Nat)(a:Nat)(o:Oper):Nat->List Oper->List Nat->Bool
 |_,[],_=>true
 |_,_,[]=>true
 |j,x::c,p::d=>(Nat.beq j i||Nat.testBit p i||Nat.testBit a j||Om b o x)&&zI b i a o (j+1) c d
def Fw(a:List Oper)(b:List Nat):Nat->List Oper->List Nat->Bool
 |_,[],_=>true
 |_,_,[]=>true
 |i,o::e,c::d=>!XH o.op&&(Lc o.op||zI a i c o 0 a b)&&Fw a b (i+1) e d
def kQ(done p i:Nat):Bool:=!(Nat.testBit done i)&&Nat.beq (p&&&done) p
def xp(done:Nat):Nat->List Oper->List Nat->Option Nat
 |_,[],_=>none
 |_,_,[]=>none
 |i,o::a,p::b=>bif kQ done p i&&!(Lc o.op)then some i else xp done (i+1) a b
def pW(done:Nat):Nat->List Oper->List Nat->List Nat
 |_,[],_=>[]
 |_,_,[]=>[]
 |i,_::a,p::b=>bif kQ done p i then i::pW done (i+1) a b else pW done (i+1) a b
def LH(m a:E):List (Nat×Nat)->Prop->Prop
 |[],k=>k
 |(b,o)::r,k=>af a b o=af m b o/\LH m a r k
def DA(a:Nat)(m b:E):List (Nat×List (Nat×Nat))->Prop->Prop
 |[],k=>k
 |(r,c)::L,k=>bif Nat.testBit a r then DA a m b L k else LH m b c (DA a m b L k)
def Ol:List Nat->(Nat->Prop)->Prop
 |[],_=>True
 |[i],f=>f i
 |i::r,f=>f i/\Ol r f
def oW(P:Program)(T:TT)(G:List Nat)(n:Nat)(b:List Oper)(c d:List Nat):Nat->Nat->Fr->E->List (Nat×List (Nat×Nat))->(Fr->E->Prop)->Prop
 |0,done,a,m,_,k=>match pW done 0 b c with
  |[]=>k a m
  |_=>False
 |e+1,done,a,m,L,k=>
  match xp done 0 b c with
  |some i=>match HO b i with
   |some o=>bif sI n o.dst then
    gd b a o.guard
     (λa=>rd T a m (λx=>oW P T G n b c d e (done|||2^i) (uo a o.dst x) m ((i,Ti T a o.op)::L) k) o.op)
     (λa=>oW P T G n b c d e (done|||2^i) (uo a o.dst .un) m L k)
    else False
   |none=>False
  |none=>match pW done 0 b c with
   |[]=>k a m
   |h=>Ol h λi=>match HO b i with
    |some o=>bif sI n o.dst then
     gd b a o.guard
      (λa=>wr P T G n a m o.dst o.type (λg x f=>DA (ur d i) m f L (oW P T G n b c d e (done|||2^i) (uo g o.dst x) f L k)) o.op)
      (λa=>oW P T G n b c d e (done|||2^i) (uo a o.dst .un) m L k)
     else False
    |none=>False
def nD(r:Nat):∀(a:List Edge),Nat.testBit (lF a) r=true<->∃e∈a,Region.binds .any e=true/\e.on=r
 |[]=>by simp[lF]
 |e::a=>by
  have c:=nD r a;simp only[lF];cases b:Region.binds .any e
  .simp only[mN,c,aS,exists_eq_or_imp,b];simp
  .simp only[jI,UO,bU,c,aS,exists_eq_or_imp,b,true_and,Nn,au]
def yC(b:List Nat)(r:Nat):∀(a:List Edge),Nat.testBit (oE b a) r=true->∃e∈a,Region.binds .any e=true/\(e.on=r\/Nat.testBit (ur b e.on) r=true)
 |[],h=>by simp[oE]at h
 |e::a,h=>by
  have i:=yC b r a;simp only[oE]at h;cases f:Region.binds .any e
  .simp only[f,mN]at h;obtain⟨c,g,d⟩:=i h;exact⟨c,ai _ g,d⟩
  .simp only[f,jI,UO,bU,Nn,au]at h;rcases h with h|h
   .exact⟨e,aX,f,h⟩
   .obtain⟨c,g,d⟩:=i h;exact⟨c,ai _ g,d⟩
def lX(c:List Nat):∀{e:List Oper}{f a:List Nat},lz c e f a=true->∀(i:Nat)(o:Oper),e[i]? =some o->
 f[i]? =some (lF o.after.toList)/\ur a i=oE c o.after.toList/\∃b,a[i]? =some b
 |[],[],[],_,i,o,h=>by simp at h
 |x::e,p::f,b::a,h,i,o,d=>by
  simp only[lz,bN]at h;obtain⟨⟨g,j⟩,k⟩:=h;cases i with
  |zero=>
   simp at d;subst d;exact⟨by simp[bt g],by simp[ur,bt j],b,aJ⟩
  |succ i=>
   have:=lX c k i o (by simpa using d);simpa[ur]using this
 |[],[],_::_,h,_,_,_=>by simp[lz]at h
 |[],_::_,_,h,_,_,_=>by simp[lz]at h
 |_::_,[],_,h,_,_,_=>by simp[lz]at h
 |_::_,_::_,[],h,_,_,_=>by simp[lz]at h
def Jh(d:List Nat):∀{a:List Oper}{c b:List Nat},lz d a c b=true->c.length=a.length/\b.length=a.length
 |[],[],[],_=>⟨rfl,rfl⟩
 |x::a,p::c,e::b,h=>by
  simp only[lz,bN]at h;have:=Jh d h.2;simp[this.1,this.2]
 |[],[],_::_,h=>by simp[lz]at h
 |[],_::_,_,h=>by simp[lz]at h
 |_::_,[],_,h=>by simp[lz]at h
 |_::_,_::_,[],h=>by simp[lz]at h
end Go.Vc
end
section
namespace Go.Vc
variable{N a:Nat}{b:Array Bool}
variable{P:Program}{T:TT}{G:List Nat}{n:Nat}
def tZ{d:Nat}:∀{a:List Operand},Jt d a=false->d∉(a.filterMap λ| .tmp t=>some t|_=>none)
 |[],_=>aJ
 |x::r,h=>by
  cases x with
  |tmp t=>
   simp only[Jt,bu]at h;have b:=tZ h.2;have:t≠d:=λe=>by subst e;simp at h
   simp only[List.filterMap_cons,aS,ui];exact⟨λe=>this e.symm,b⟩
  |const v=>simpa using tZ (a:=r) (by simpa[Jt]using h)
  |global g=>simpa using tZ (a:=r) (by simpa[Jt]using h)
  |func f=>simpa using tZ (a:=r) (by simpa[Jt]using h)
def Ud(a:Array Oper)(g:Nat):KZ a.toList g=(a[g]?).bind (·.dst):=by
 unfold KZ;rw[pV];have e:a.toList[g]? =a[g]? :=aJ;rw[e];cases a[g]? <;>rfl
def Jf(b:Array Oper){o:Oper}{d:Nat}(h:OI b.toList o d=false):d∉o.looksAt b:=by
 simp only[OI,bu]at h;unfold Oper.looksAt;rw[Um,List.mem_append,ui];refine⟨tZ h.1,?_⟩;have a:=h.2;cases c:o.guard with
 |none=>simp
 |some p=>
  obtain⟨g,f⟩:=p;rw[c]at a;simp only at a⊢;rw[Ud]at a;cases hd:(b[g]?).bind (·.dst)with
  |none=>simp
  |some t=>
   rw[hd]at a;simp only at a;simp only[Option.toList_some,nN];intro e;subst e;simp at a
def Pz(b:Array Oper){x y:Oper}(h:Om b.toList x y=true):x.apart b y=true:=by
 simp only[Om,bN]at h;obtain⟨a,d⟩:=h;unfold Oper.apart;simp only[bN];constructor
 .cases i:x.dst with
  |none=>rfl
  |some f=>
   rw[i]at a;simp only[bN,iK]at a⊢;refine⟨?_,?_⟩
   .have:=Jf b a.1;simpa using this
   .have c:=a.2;cases e:y.dst with
    |none=>simp
    |some j=>
     rw[e]at c;simp only[iK]at c;simp only[vK,ne_eq,DG];intro g;subst g;simp at c
 .cases e:y.dst with
  |none=>rfl
  |some f=>
   rw[e]at d;simp only[iK]at d⊢;have:=Jf b d;simpa using this
def Dh(i:List Oper)(a d:Nat)(o:Oper):∀{g:List Oper}{k:List Nat}{c:Nat},zI i a d o c g k=true->∀(j:Nat)(x:Oper)(p:Nat),g[j]? =some x->k[j]? =some p->
 c+j=a\/Nat.testBit p a=true\/Nat.testBit d (c+j)=true\/Om i o x=true
 |[],_,_,_,j,x,p,h,_=>by simp at h
 |_::_,[],_,_,j,x,p,_,h=>by simp at h
 |y::g,q::k,c,h,j,x,p,f,e=>by
  simp only[zI,bN,bU]at h;obtain⟨b,m⟩:=h;cases j with
  |zero=>
   simp at f e;subst f;subst e;rcases b with((b|b)|b)|b
   .exact Or.inl (by simpa using bt b)
   .exact Or.inr (Or.inl b)
   .exact Or.inr (Or.inr (Or.inl (by simpa using b)))
   .exact Or.inr (Or.inr (Or.inr b))
  |succ j=>
   have:=Dh i a d o m j x p (by simpa using f) (by simpa using e);have l:c+1+j=c+(j+1):=V;rw[l]at this;exact this
def xg(d:List Oper)(j:List Nat):∀{i:List Oper}{e:List Nat}{c:Nat},Fw d j c i e=true->∀(a:Nat)(o:Oper)(b:Nat),i[a]? =some o->e[a]? =some b->
 XH o.op=false/\(Lc o.op=true\/zI d (c+a) b o 0 d j=true)
 |[],_,_,_,a,o,b,h,_=>by simp at h
 |_::_,[],_,_,a,o,b,_,h=>by simp at h
 |y::i,q::e,c,h,a,o,b,g,f=>by
  simp only[Fw,bN,bU,iK]at h;obtain⟨⟨l,m⟩,n⟩:=h;cases a with
  |zero=>simp at g f;subst g;subst f;exact⟨l,by simpa using m⟩
  |succ a=>
   have:=xg d j n a o b (by simpa using g) (by simpa using f);have k:c+1+a=c+(a+1):=V;rw[k]at this;exact this
def Je(p d:Nat):Nat.beq (p&&&d) p=true<->∀r,Nat.testBit p r=true->Nat.testBit d r=true:=by
 constructor
 .intro h r a;have e:=bt h;rw[<-e,Nat.testBit_and]at a;simp only[bN]at a;exact a.2
 .intro h;have:p&&&d=p:=by
   apply Nat.eq_of_testBit_eq;intro r;rw[Nat.testBit_and];cases a:Nat.testBit p r
   .rfl
   .simp[h r a]
  rw[this];simp
structure Od(N done:Nat)(b:Array Bool):Prop where
 size:b.size=N
 Yz:∀a,b.getD a false=Nat.testBit done a
def Od.un{done:Nat}(h:Od N done b)(c:a<N):b.getD a true=Nat.testBit done a:=by
 rw[<-h.Yz a];have:a<b.size:=by rw[h.size];exact c
 simp[this]
def Od.set{done:Nat}(h:Od N done b)(c:a<N):Od N (done|||2^a) (b.setIfInBounds a true):=by
 refine⟨by simp[h.size],λj=>?_⟩;have d:a<b.size:=by rw[h.size];exact c
 rw[UO,Nn];by_cases e:a=j
 .subst e;simp[d]
 .rw[getD_set_ne false e,h.Yz j];simp[e]
def HV(d:Array Oper){q h r:List Nat}(n:lz h d.toList q r=true){done:Nat}(g:Od d.size done b)(a:Nat):
 a∈Region.ready .any d b<->∃o p,d[a]? =some o/\q[a]? =some p/\kQ done p a=true:=by
 rw[mem_ready]
 constructor
 .rintro⟨m,o,c,s⟩
  have k:a<d.size:=(Array.getElem?_eq_some_iff.1 c).1
  have l:=(lX h n a o (by simpa using c)).1
  refine⟨o,_,c,l,?_⟩
  simp only[kQ,bN,iK]
  refine⟨by rw[<-g.un k];exact m,(Je _ _).2 λt e=>?_⟩
  obtain⟨f,j,i,rfl⟩:=(nD t _).1 e
  rw[<-g.Yz]
  exact s f (Array.mem_toList_iff.1 j) i
 .rintro⟨o,p,c,l,e⟩
  have k:a<d.size:=(Array.getElem?_eq_some_iff.1 c).1
  have m:=(lX h n a o (by simpa using c)).1
  rw[l]at m
  simp only[DG]at m
  subst m
  simp only[kQ,bN,iK]at e
  refine⟨by rw[g.un k];exact e.1,o,c,λf j i=>?_⟩
  rw[g.Yz]
  exact(Je _ _).1 e.2 f.on ((nD _ _).2 ⟨f,Array.mem_toList_iff.2 j,i,rfl⟩)
def Ll(done:Nat):∀{d:List Oper}{e:List Nat}{b a:Nat},a∈pW done b d e<->∃j o p,a=b+j/\d[j]? =some o/\e[j]? =some p/\kQ done p a=true
 |[],_,_,_=>by simp[pW]
 |_::_,[],_,_=>by simp[pW]
 |x::d,q::e,b,a=>by
  have h:=Ll done (d:=d) (e:=e) (b:=b+1) (a:=a);have k:(∃j o p,a=b+j/\(x::d)[j]? =some o/\(q::e)[j]? =some p/\kQ done p a=true)<->
   ((a=b/\kQ done q b=true)\/∃j o p,a=b+1+j/\d[j]? =some o/\e[j]? =some p/\kQ done p a=true):=by
   constructor
   .rintro⟨j,o,p,rfl,g,f,c⟩
    cases j with
    |zero=>simp at f;subst f;exact Or.inl ⟨rfl,by simpa using c⟩
    |succ j=>exact Or.inr ⟨j,o,p,V,by simpa using g,by simpa using f,by rwa[show b+(j+1)=b+(j+1)from rfl]at c⟩
   .rintro(⟨rfl,c⟩|⟨j,o,p,rfl,g,f,c⟩)
    .exact⟨0,x,q,rfl,aJ,aJ,c⟩
    .exact⟨j+1,o,p,V,by simpa using g,by simpa using f,c⟩
  rw[k,<-h];simp only[pW];cases c:kQ done q b
  .simp
  .simp
def I6(done:Nat):∀{d:List Oper}{e:List Nat}{c a:Nat},xp done c d e=some a->∃j o p,a=c+j/\d[j]? =some o/\e[j]? =some p/\kQ done p a=true/\Lc o.op=false
 |[],_,_,_,h=>by simp[xp]at h
 |_::_,[],_,_,h=>by simp[xp]at h
 |x::d,q::e,c,a,h=>by
  simp only[xp]at h;cases b:(kQ done q c&&!(Lc x.op))
  .rw[b]at h;obtain⟨j,o,p,rfl,f,g,i,k⟩:=I6 done h;exact⟨j+1,o,p,V,by simpa using f,by simpa using g,i,k⟩
  .rw[b]at h;simp at h;subst h;simp only[bN,iK]at b;exact⟨0,x,q,rfl,aJ,aJ,b.1,b.2⟩
def Nr:∀{l:List Nat}{f:Nat->Prop},Ol l f->∀a∈l,f a
 |[a],f,h,j,b=>by simp at b;subst b;exact h
 |a::c::r,f,h,j,b=>by
  rcases List.mem_cons.1 b with rfl|b
  .exact h.1
  .exact Nr h.2 j b
def LI{m b:E}:∀{l:List (Nat×Nat)}{k:Prop},LH m b l k->k/\∀q∈l,af b q.1 q.2=af m q.1 q.2
 |[],k,h=>⟨h,aJ⟩
 |(e,o)::r,k,h=>by
  obtain⟨c,d⟩:=LI h.2;refine⟨c,λq a=>?_⟩;rcases List.mem_cons.1 a with rfl|a
  .exact h.1
  .exact d q a
def Fi{c:Nat}{m g:E}:∀{L:List (Nat×List (Nat×Nat))}{k:Prop},DA c m g L k->k/\∀x∈L,Nat.testBit c x.1=false->∀q∈x.2,af g q.1 q.2=af m q.1 q.2
 |[],k,h=>⟨h,aJ⟩
 |(r,l)::L,k,h=>by
  simp only[DA]at h;cases f:Nat.testBit c r
  .rw[f]at h;obtain⟨i,j⟩:=LI h;obtain⟨d,e⟩:=Fi i;refine⟨d,λx a b=>?_⟩;rcases List.mem_cons.1 a with rfl|a
   .exact j
   .exact e x a b
  .rw[f]at h;obtain⟨d,e⟩:=Fi h;refine⟨d,λx a b=>?_⟩;rcases List.mem_cons.1 a with rfl|a
   .rw[f]at b;cases b
   .exact e x a b
def ZZ(L:List (Nat×List (Nat×Nat)))(b:List (Nat×(World->Prop))):Prop:=
 ∀x∈b,(∀w,x.2 w)\/∃(a:List (Nat×Nat))(c:Nat×Nat->Option Value),(x.1,a)∈L/\x.2=λw=>∀q∈a,af w.heap q.1 q.2=c q
end Go.Vc
end
section
namespace Go.Vc
variable{a:Program}{T:TT}{G:List Nat}{n:Nat}
def Pc(hT:uj a T)(hG:U1 a G)(b:Array Oper)(U f:List Nat)(z:lz f b.toList U f=true)(ao:Fw b.toList U 0 b.toList f=true)
 {ag:Exit->Act->World->Prop}(hQ:∀N g w,¬ag (.panic N) g w){w0:World}{a0:Act}:
 ∀(F done:Nat)(D:Fr)(ac:E)(L:List (Nat×List (Nat×Nat)))(B:Fr->E->Prop)(M:List (Nat×(World->Prop)))(c:Array Bool)(g:Act)(w:World),
  oW a T G n b.toList U f F done D ac L B->ZZ L M->Od b.size done c->Hm (λi K=>Nat.testBit (ur f i) K) c->ka n D g->Bx n D ac->w.heap=ac->pI w0 w->
  mJ (zN b.toList) a0 g->
  (∀s d k,B s k.heap->ka n s d->Bx n s k.heap->pI w0 k->mJ (zN b.toList) a0 d->ag .normal d k)->
  vI a .any b ag (λi K=>Nat.testBit (ur f i) K) M F c g w:=by
 have H:UX .any b (λi K=>Nat.testBit (ur f i) K):=by
  intro i K o d p;have X:=(lX f z i o (by simpa using d)).2.1;simp only[X]at p;obtain⟨e,he,hb,h⟩:=yC f K _ p;exact⟨e,Array.mem_toList_iff.1 he,hb,h⟩
 have aF:=Jh f z
 have av:∀(j:Nat)(o:Oper) cs r,b[j]? =some o->o.op≠.select cs r:=by
  intro j o cs r d e;obtain⟨_,_,bj,ay⟩:=lX f z j o (by simpa using d);have:=(xg _ _ ao j o bj (by simpa using d) ay).1;rw[e]at this;simp[XH]at this
 have am:∀{done:Nat}{c:Array Bool},Od b.size done c->∀i,i∈Region.ready .any b c<->i∈pW done 0 b.toList U:=by
  intro done c hD i;rw[HV b z hD i,Ll];constructor
  .rintro⟨o,R,d,O,p⟩;exact⟨i,o,R,V,by simpa using d,O,p⟩
  .rintro⟨j,o,R,e,d,O,p⟩;have:i=j:=V;subst this;exact⟨o,R,by simpa using d,O,p⟩
 have au:∀{done:Nat}{c:Array Bool},Od b.size done c->pW done 0 b.toList U=[]->Region.ready .any b c=[]:=by
  intro done c hD h;apply List.eq_nil_iff_forall_not_mem.2;intro i m;rw[am hD i,h]at m;cases m
 intro F
 induction F with
 |zero=>
  intro done D ac L B M c g w h hL hD hC hR hB hw hs hk hq
  subst hw
  simp only[oW]at h
  split at h
  .rename_i h0
   exact⟨au hD h0,hq D g w h hR hB hs hk⟩
  .exact h.elim
 |succ F Q=>
  intro done D ac L B M c g w h hL hD hC hR hB hw hs hk hq
  subst hw
  simp only[oW]at h
  split at h
  · -- a reading is taken first
   rename_i i m
   obtain⟨j,o,R,e,d,O,p,aD⟩:=I6 done m
   have:i=j:=V
   subst this
   rw[pV,d]at h
   simp only at h
   have A:b[i]? =some o:=by simpa using d
   have aa:i<b.size:=(Array.getElem?_eq_some_iff.1 A).1
   have ab:i∈Region.ready .any b c:=(HV b z hD i).2 ⟨o,R,A,O,p⟩
   cases hd:sI n o.dst
   .rw[hd]at h;exact h.elim
   .rw[hd]at h
    simp only[jI]at h
    have Y:=DP hd
    have Z:∀C,o.dst=some C->C∈zN b.toList:=λC ah=>Lk ah _ (ij d)
    have aq:∀j I,b[j]? =some I->j≠i->c.getD j true=false->(∀e∈I.after,Region.binds .any e=true->e.on≠i)->o.apart b I=true:=by
     intro j I al aA ar aB;have az:j<b.size:=(Array.getElem?_eq_some_iff.1 al).1;obtain⟨_,aE,bi,ap⟩:=lX f z i o d;rcases(xg _ _ ao i o bi d ap).2 with t|t
     .rw[aD]at t;cases t
     .have W:=(lX f z j I (by simpa using al)).1;have u:ur f i=bi:=by
       have:∀(l:List Nat)(i r:Nat),l[i]? =some r->ur l i=r:=by
        intro l;induction l with
        |nil=>intro i r h;simp at h
        |cons ad l Q=>intro i r h;cases i with
         |zero=>simpa[ur]using h
         |succ i=>simpa[ur]using Q i r (by simpa using h)
       exact this f i bi ap
      rcases Dh _ _ _ _ t j I _ (by simpa using al) W with e|e|e|e
      .exact absurd V aA
      .rw[cD]at e;obtain⟨q,y,hb,J⟩:=(nD i _).1 e;exact absurd J (aB q (Array.mem_toList_iff.1 y) hb)
      .rw[cD,<-u]at e;have:=xE H hC ab e;rw[hD.Yz]at this;rw[hD.un az,this]at ar;cases ar
      .exact Pz b e
    rcases IS b hR hB o h with⟨J,s,an,y,u⟩|⟨J,s,ak,y,u⟩
    .obtain⟨ad,aw,hx,hv,aC⟩:=Lv (P:=a) hT y u o an
     let ax:World->Prop:=λk=>∀q∈Ti T s o.op,af k.heap q.1 q.2=af w.heap q.1 q.2
     refine Hi (S:=ax) H A av (λN g w hc=>absurd hc (hQ _ _ _)) F c g w hC aq ab (F:=aw) (Or.inl ⟨J,λk l=>aC k l⟩) (λq _=>rfl) ?_
     refine Q _ _ _ _ B _ _ _ w hx ?_ (hD.set aa) (hC.set H ab) (y.put hv Y) (u.put _ _) rfl hs (hk.trans (mJ.put Z _ _)) hq
     intro W l
     rcases List.mem_cons.1 l with rfl|l
     .exact Or.inr ⟨_,λq=>af w.heap q.1 q.2,aX,rfl⟩
     .rcases hL W l with t|⟨As,N,X,h2⟩
      .exact Or.inl t
      .exact Or.inr ⟨As,N,ai _ X,h2⟩
    .refine Hi (S:=λ_=>True) H A av (λN g w hc=>absurd hc (hQ _ _ _)) F c g w hC aq ab (F:=undef) (Or.inr ⟨J,rfl⟩) trivial ?_
     refine Q _ _ _ _ B _ _ _ w ak ?_ (hD.set aa) (hC.set H ab) (y.put (x:=.un) rfl Y) (u.put _ _) rfl hs (hk.trans (mJ.put Z _ _)) hq
     intro W l
     rcases List.mem_cons.1 l with rfl|l
     .exact Or.inl λ_=>trivial
     .exact hL W l
  .split at h
   .rename_i h0
    exact QA (au hD h0) (hq D g w h hR hB hs hk) _
   .rename_i rs ax
    have ar:=Nr h
    refine RE ?_ ?_
    .intro e
     apply ax
     cases I:pW done 0 b.toList U with
     |nil=>rfl
     |cons ad xs=>
      have:ad∈Region.ready .any b c:=(am hD ad).2 (by rw[I];exact aX)
      rw[e]at this
      cases this
    .intro i m
     have I:=ar i ((am hD i).1 m)
     obtain⟨o,R,A,O,p⟩:=(HV b z hD i).1 m
     have d:b.toList[i]? =some o:=by simpa using A
     have aa:i<b.size:=(Array.getElem?_eq_some_iff.1 A).1
     rw[pV,d]at I
     simp only at I
     cases hd:sI n o.dst
     .rw[hd]at I;exact I.elim
     .rw[hd]at I
      simp only[jI]at I
      have Y:=DP hd
      have Z:∀C,o.dst=some C->C∈zN b.toList:=λC ah=>Lk ah _ (ij d)
      unfold wpOp
      simp only[A]
      rcases IS b hR hB o I with⟨J,s,an,y,u⟩|⟨J,s,ak,y,u⟩
      .rw[aj J]
       refine .inl (QB hT hG y u o an w rfl _ _ λaD ad aw k hx aq ap hv az=>?_)
       obtain⟨aA,aB⟩:=Fi hx
       refine⟨λW l aC ab=>?_,Q _ _ _ L B M _ _ k aA hL (hD.set aa) (hC.set H m) (aq.put hv Y) (ap.put _ _) rfl (hs.trans az) (hk.trans (mJ.put Z _ _)) hq⟩
       rcases hL W l with t|⟨As,N,X,h2⟩
       .exact t k
       .rw[h2]at ab⊢
        intro q al
        rw[aB _ X aC q al,ab q al]
      .rw[ae (by rw[J];simp)]
       exact⟨λW l _ ab=>ab,Q _ _ _ L B M _ _ w ak hL (hD.set aa) (hC.set H m) (y.put (x:=.un) rfl Y) (u.put _ _) rfl hs (hk.trans (mJ.put Z _ _)) hq⟩
end Go.Vc
end
section
namespace Go.Vc
variable{M:List Nat}{a:Act}{s:Sh}{y:s.ty}
variable{P:Program}{T:TT}{G:List Nat}{b:Nat}
structure Pg where
 Ug:List (Nat×List (Nat×Sh))
 Vl:List (Nat×List (Nat×Sh))
 dP:List (Nat×List Nat)
def lk{α:Type}:List (Nat×α)->Nat->Option α
 |[],_=>none
 |(u,x)::r,t=>bif Nat.beq u t then some x else lk r t
def Dn:Code->Option Nat
 | .region id _ _=>some id
 | .seq a b=>match Dn a with
  |some i=>some i
  |none=>Dn b
 | .cond _ a b=>match Dn a with
  |some i=>some i
  |none=>Dn b
 | .block _ c=>Dn c
 | .loop c=>Dn c
 | .scope c=>Dn c
 |_=>none
def Wh{α:Type}(l:List (Nat×α))(c:Code):Option α:=
 match Dn c with
 |some i=>lk l i
 |none=>none
def Hr:List (Nat×Sh)->Type
 |[]=>E->Prop
 |(_,s)::r=>s.ty->Hr r
def Og:List (Nat×Sh)->Type
 |[]=>E->Nat
 |(_,s)::r=>s.ty->Og r
def Q4:(s:Sh)->SV->Option s.ty
 | .I,.c (.i b)=>some b
 | .U k,.c (.u c b)=>if k=c then some b else none
 | .T,.c (.t c)=>some c
 | .T,.tt=>some true
 | .T,.ff=>some false
 | .S,.c (.s x)=>some x
 | .P,.c (.p c o)=>some (c,o)
 | .P,.c (.bp _ c o)=>some (c,o)
 | .F,.c (.fn f a d)=>some (f,a,d)
 | .F,.c (.fv q)=>some q
 | .M,.c (.mp c)=>some c
 |_,_=>none
def Ht:(l:List (Nat×Sh))->Hr l->Fr->E->Prop
 |[],I,_,m=>I m
 |(t,s)::r,I,a,m=>match Q4 s (gZ a t)with
  |some x=>Ht r (I x) a m
  |none=>False
def On:(l:List (Nat×Sh))->Hr l->Og l->Fr->E->Nat->Prop
 |[],I,μ,_,m,N=>I m/\μ m<N
 |(t,s)::r,I,μ,a,m,N=>match Q4 s (gZ a t)with
  |some x=>On r (I x) (μ x) a m N
  |none=>False
def Pw:(l:List (Nat×Sh))->Hr l->Fr->(Fr->(E->Prop)->Prop)->Prop
 |[],I,a,k=>k a I
 |(t,s)::r,I,a,k=>∀x:s.ty,Pw r (I x) ((t,.c (s.mk x))::a) k
def Px:(l:List (Nat×Sh))->Hr l->Og l->Fr->(Fr->(E->Prop)->(E->Nat)->Prop)->Prop
 |[],I,μ,a,k=>k a I μ
 |(t,s)::r,I,μ,a,k=>∀x:s.ty,Px r (I x) (μ x) ((t,.c (s.mk x))::a) k
def nL:List Nat->Fr->Fr
 |[],a=>a
 |t::r,a=>(t,.fZ)::nL r a
def oR:Code->List Nat
 | .region _ b _=>zN b.toList
 | .seq a b=>oR a++oR b
 | .cond _ a b=>oR a++oR b
 | .block _ c=>oR c
 | .loop c=>oR c
 |_=>[]
def p7(M:List Nat):List (Nat×Sh)->Bool
 |[]=>true
 |(t,_)::r=>vr t M&&p7 M r
def Jy(x y:SV)(k:Prop):Prop:=x=y/\k
def aB(x:SV)(k:Prop):Jy x x k=k:=by simp[Jy]
def lE(A:Pg)(c:Code):List Nat:=
 match Wh A.dP c with
 |some K=>K
 |none=>[]
def Di(b:Nat)(K:List Nat):Fr->List Nat
 |[]=>[]
 |(q,_)::r=>bif Nat.ble b q&&!vr q K then q::Di b K r else Di b K r
def uH(b:Nat)(K:List Nat)(a:Fr):Fr:=nL (Di b K a) a
def UR(a b:Fr):List Nat->Prop->Prop
 |[],k=>k
 |q::K,k=>Jy (gZ b q) (gZ a q) (UR a b K k)
def Lu(c:Fr):Op->Option SV
 | .move x| .assign x=>match ev c x with
  | .fZ=>none
  |y=>some y
 | .binOp d _ x y _=>match ev c x,ev c y with
  | .c (.i a),.c (.i b)=>match d with
   | .eql=>some (.c (.t (a==b)))
   | .neq=>some (.c (.t (a !=b)))
   | .lss=>some (.c (.t (decide (a<b))))
   | .leq=>some (.c (.t (decide (a<=b))))
   | .gtr=>some (.c (.t (decide (a>b))))
   | .geq=>some (.c (.t (decide (a>=b))))
   |_=>none
  |_,_=>none
 |_=>none
def rj(b:Nat):List Oper->Fr->Option Fr
 |[],a=>some a
 |o::r,a=>bif sI b o.dst then
  match o.guard with
  |none=>match Lu a o.op with
   |some x=>rj b r (uo a o.dst x)
   |none=>none
  |some _=>none
  else none
def Wm(A:Pg)(b t:Nat):Code->Fr->Option Bool
 | .region _ e false,d=>match rj b e.toList d with
  |some a=>lC (gZ a t)
  |none=>none
 | .seq (.region _ e false) (.cond (.tmp u) .skip c),d=>
  match Wh A.Vl (.cond (.tmp u) .skip c)with
  |some _=>none
  |none=>bif Nat.beq u t&&vr t (oR c)then
   match rj b e.toList d with
   |some a=>match lC (gZ a t),Wm A b t c a with
    |some x,some y=>some (x||y)
    |_,_=>none
   |none=>none
   else none
 |_,_=>none
def YZ(A:Pg)(b:Nat)(d:Operand)(a c:Code)(e:Fr):Option (Nat×Bool):=
 match d,a with
 | .tmp t,.skip=>bif vr t (oR c)then
  match Wm A b t c e with
  |some y=>some (t,y)
  |none=>none
  else none
 |_,_=>none
def uQ(a:Fr)(c:Operand)(v:SV):Fr:=
 match c with
 | .tmp t=>(t,v)::a
 |_=>a
def Vw:List Oper->List Nat
 |[]=>[]
 |o::r=>lF o.after.toList::Vw r
def TJ:List Nat->List Oper->List Nat
 |a,[]=>a
 |a,o::r=>TJ (a++[oE a o.after.toList]) r
def qG:Code->Bool
 | .region _ b c=>!c||(lz (TJ [] b.toList) b.toList (Vw b.toList) (TJ [] b.toList)&&Fw b.toList (Vw b.toList) 0 b.toList (TJ [] b.toList))
 | .seq a b=>qG a&&qG b
 | .cond _ a b=>qG a&&qG b
 | .block _ c=>qG c
 | .loop c=>qG c
 |_=>true
def vc(P:Program)(T:TT)(G:List Nat)(b:Nat)(A:Pg):Code->Fr->E->(Exit->Fr->E->Prop)->Prop
 | .skip,c,m,Q=>Q .normal c m
 | .region id d e,c,m,Q=>
  bif e then oW P T G b d.toList (Vw d.toList) (TJ [] d.toList) d.toList.length 0 c m [] (λc m=>Q .normal c m)
  else sN P T G b d.toList d.toList c m (λc m=>Q .normal c m)
 | .seq a g,c,m,Q=>match Wh A.Vl g with
  |none=>vc P T G b A a c m λ
   | .normal,e,d=>vc P T G b A g e d Q
   |h,e,d=>Q h e d
  |some l=>bif p7 (oR a) l then∃K:Hr l,(vc P T G b A a c m λ
   | .normal,e,d=>UR c e (lE A g) (Ht l K e d)
   |h,e,d=>Q h e d)/\
   (Pw l K (nL (oR a) (uH b (lE A g) c)) λe f=>∀d,f d->vc P T G b A g e d Q)else False
 | .cond f a g,c,m,Q=>match ev c f with
  | .tt=>vc P T G b A a c m Q
  | .ff=>vc P T G b A g c m Q
  | .c (.t x)=>match YZ A b f a g c with
   |some (t,y)=>Q .normal ((t,.c (.t (x||y)))::nL (oR g) c) m
   |none=>(x=true->vc P T G b A a (uQ c f .tt) m Q)/\(x=false->vc P T G b A g (uQ c f .ff) m Q)
  |_=>False
 | .block id f,c,m,Q=>vc P T G b A f c m λ
  | .exit i,e,d=>bif Nat.beq i id then Q .normal e d else Q (.exit i) e d
  |h,e,d=>Q h e d
 | .loop f,c,m,Q=>match Wh A.Ug f with
  |none=>False
  |some l=>bif p7 (oR f) l then∃(I:Hr l)(μ:Og l),Ht l I c m/\
   (Px l I μ (nL (oR f) (uH b (lE A f) c)) λe j μ'=>∀d,j d->vc P T G b A f e d λ
    | .normal,g,i=>UR c g (lE A f) (On l I μ g i (μ' d))
    |h,g,i=>Q h g i)else False
 | .exit id,c,m,Q=>Q (.exit id) c m
 | .ret,c,m,Q=>Q .ret c m
 |_,_,_,_=>False
def mJ.mono{b:List Nat}{c:Act}(h:mJ M a c)(e:∀t∈M,t∈b):mJ b a c:=λt f=>h t λd=>f (e t d)
def BO:∀(M:List Nat)(a:Fr)(t:Nat),(t∈M/\gZ (nL M a) t=.fZ)\/(t∉M/\gZ (nL M a) t=gZ a t)
 |[],_,_=>Or.inr ⟨aJ,rfl⟩
 |u::M,a,t=>by
  simp only[nL,gZ];cases d:Nat.beq u t
  .have f:u≠t:=λe=>by subst e;simp at d
   rcases BO M a t with⟨b,c⟩|⟨b,c⟩
   .exact Or.inl ⟨ai _ b,c⟩
   .exact Or.inr ⟨by simp only[aS,ui];exact⟨λe=>f e.symm,b⟩,c⟩
  .have:=bt d;subst this;exact Or.inl ⟨aX,rfl⟩
def An{d:Fr}{c:Act}(g:ka b d a)(j:c.tmps.size=b)(hd:c.defers=[])(i:mJ M a c):ka b (nL M d) c:=by
 refine⟨j,hd,λt=>?_⟩;rcases BO M d t with⟨_,h⟩|⟨e,f⟩
 .rw[h];trivial
 .rw[f,i t e];exact g.aG t
def ka.nL{c:Fr}{a:Act}(d:ka b c a):∀(M:List Nat),ka b (nL M c) a
 |[]=>d
 |t::M=>(ka.nL d M).fZ t
def Bx.nL{a:Fr}{m:E}(h:Bx b a m):∀(M:List Nat),Bx b (nL M a) m
 |[]=>h
 |t::M=>(Bx.nL h M).fZ aJ
def Nw{K:List Nat}{q:Nat}(d:b<=q)(c:q∉K):∀{a:Fr},q∈Di b K a\/gZ a q=.fZ
 |[]=>Or.inr rfl
 |(u,x)::r=>by
  simp only[Di,gZ];cases i:Nat.beq u q
  .rcases Nw d c (a:=r)with h|h
   .left;cases(Nat.ble b u&&!vr u K)
    .exact h
    .exact ai _ h
   .exact Or.inr h
  .have:=bt i;subst this;have f:vr u K=false:=by
    cases g:vr u K
    .rfl
    .exact absurd (HK g) c
   have e:Nat.ble b u=true:=Yj d;simp[f,e]
def KQ{b c:Fr}:∀{K:List Nat}{k:Prop},UR b c K k->(∀q∈K,gZ c q=gZ b q)/\k
 |[],k,h=>⟨aJ,h⟩
 |q::K,k,h=>by
  obtain⟨d,e⟩:=KQ h.2;refine⟨λu a=>?_,e⟩;rcases List.mem_cons.1 a with rfl|a
  .exact h.1
  .exact d u a
def Bx.lE{K:List Nat}{c j:Fr}{v p:E}(h:Bx b c v)(r:Bx b j p)(s:∀q∈K,gZ j q=gZ c q):Bx b (Vc.nL M (uH b K c)) p:=by
 have i:∀{q d e l},lQ (Vc.nL M (uH b K c)) q d e l->lQ c q d e l/\lQ j q d e l:=by
  intro q d e l a;have f:gZ (Vc.nL M (uH b K c)) q=gZ (uH b K c) q\/gZ (Vc.nL M (uH b K c)) q=.fZ:=by
   rcases BO M (uH b K c) q with⟨_,h⟩|⟨_,h⟩
   .exact Or.inr h
   .exact Or.inl h
  unfold lQ at a;rcases f with f|f
  .rw[f]at a;unfold uH at a;rcases BO (Di b K c) c q with⟨_,g⟩|⟨k,g⟩
   .rw[g]at a;simp at a
   .rw[g]at a;have t:b<=q:=h.key q d e l a;by_cases o:q∈K
    .refine⟨a,?_⟩;unfold lQ;rw[s q o];exact a
    .rcases Nw (b:=b) t o (a:=c)with m|m
     .exact absurd m k
     .rw[m]at a;simp at a
  .rw[f]at a;simp at a
 exact⟨λq d e l a=>r.D q d e l (i a).2,λq w d e l m o u t k g=>h.Oq q w d e l m o u t (i k).1 (i g).1,λq d e l a=>h.key q d e l (i a).1⟩
def SG{x:SV}(h:Q4 s x=some y):x.jJ=true/\x.v=(s.mk y).v:=by
 unfold Q4 at h;split at h<;>first|(simp at h;subst h;exact⟨rfl,rfl⟩)|skip
 .split at h
  .rename_i a;subst a;simp at h;subst h;exact⟨rfl,rfl⟩
  .simp at h
 .simp at h
def LA{d cv:Fr}{t:Nat}(g:ka b d a)(c:ka b cv a)(h:Q4 s (gZ d t)=some y):ka b ((t,.c (s.mk y))::cv) a:=by
 refine⟨c.size,c.defers,λu=>?_⟩;simp only[gZ];cases i:Nat.beq t u
 .exact c.aG u
 .have:=bt i;subst this;have e:=g.aG t;obtain⟨j,k⟩:=SG h;have f:=e.eq j;show _=_;rw[f,k];rfl
def Tu:(l:List (Nat×Sh))->Hr l->Og l->Fr->Fr->(E->Prop)->(E->Nat)->Prop
 |[],I,μ,b,c,a,μ'=>c=b/\a=I/\μ'=μ
 |(t,s)::r,I,μ,b,c,a,μ'=>∃x:s.ty,Tu r (I x) (μ x) ((t,.c (s.mk x))::b) c a μ'
def Ns:∀{l:List (Nat×Sh)}{I:Hr l}{μ:Og l}{b:Fr}{k:Fr->(E->Prop)->(E->Nat)->Prop},Px l I μ b k->∀{fr' I' μ'},Tu l I μ b fr' I' μ'->k fr' I' μ'
 |[],_,_,_,_,h,_,_,_,a=>by obtain⟨rfl,rfl,rfl⟩:=a;exact h
 |(t,s)::r,_,_,_,_,h,_,_,_,a=>by obtain⟨x,a⟩:=a;exact Ns (h x) a
def Sh.Uj(s:Sh)(x:s.ty)(b e:Nat)(l:List Ce):SV.c (s.mk x)≠.box b e l/\SV.c (s.mk x)≠.zJ b e l:=⟨aJ,aJ⟩
def Nv{a:Act}{g:Fr}(i:ka b g a):∀{l:List (Nat×Sh)}{I:Hr l}{μ:Og l}{cv:Fr}{m:E}{N:Nat},ka b cv a->Bx b cv m->On l I μ g m N->
 ∃c d μ',Tu l I μ cv c d μ'/\ka b c a/\Bx b c m/\d m/\μ' m<N
 |[],I,μ,cv,_,_,f,e,h=>⟨cv,I,μ,⟨rfl,rfl,rfl⟩,f,e,h.1,h.2⟩
 |(t,s)::r,I,μ,cv,m,N,f,e,h=>by
  simp only[On]at h;split at h
  .rename_i x p;obtain⟨c,d,μ',j,k,n,o⟩:=Nv i (LA i f p) (e.fZ (s.Uj x)) h;exact⟨c,d,μ',⟨x,j⟩,k,n,o⟩
  .exact h.elim
def Nu{a:Act}{g:Fr}(i:ka b g a):∀{l:List (Nat×Sh)}{I:Hr l}{μ:Og l}{cv:Fr}{m:E},ka b cv a->Bx b cv m->Ht l I g m->
 ∃c d μ',Tu l I μ cv c d μ'/\ka b c a/\Bx b c m/\d m
 |[],I,μ,cv,_,f,e,h=>⟨cv,I,μ,⟨rfl,rfl,rfl⟩,f,e,h⟩
 |(t,s)::r,I,μ,cv,m,f,e,h=>by
  simp only[Ht]at h;split at h
  .rename_i x o;obtain⟨c,d,μ',j,k,n⟩:=Nu i (LA i f o) (e.fZ (s.Uj x)) h;exact⟨c,d,μ',⟨x,j⟩,k,n⟩
  .exact h.elim
def PA{a:Act}{i:Fr}(j:ka b i a):∀{l:List (Nat×Sh)}{I:Hr l}{cv:Fr}{m:E}{k:Fr->(E->Prop)->Prop},ka b cv a->Bx b cv m->Ht l I i m->Pw l I cv k->
 ∃c g,k c g/\ka b c a/\Bx b c m/\g m
 |[],I,cv,_,_,e,d,h,f=>⟨cv,I,f,e,d,h⟩
 |(t,s)::r,I,cv,m,k,e,d,h,f=>by
  simp only[Ht]at h;split at h
  .rename_i x n;exact PA j (LA j e n) (d.fZ (s.Uj x)) h (f x)
  .exact h.elim
def Te{l:Code}{Q:Exit->Act->World->Prop}(b:Nat->Act->World->Prop)
 (r:∀N a w,b N a w->l.wp P (Exit.then (λg k=>∃d,d<N/\b d g k) Q) a w):∀N a w,b N a w->(Code.loop l).wp P Q a w:=by
 have q:∀N a w,b N a w->∃M,b M a w/\∀c,c<M->¬b c a w:=by
  intro N;induction N using Nat.strongRecOn with
  |_ N j=>
   intro a w h;by_cases e:∃c,c<N/\b c a w
   .obtain⟨c,f,i⟩:=e;exact j c f a w i
   .exact⟨N,h,λc i f=>e ⟨c,i,f⟩⟩
 intro N a w o
 classical
 let μ:Act->World->Nat:=λa w=>if h:∃M,b M a w/\∀c,c<M->¬b c a w then Classical.choose h else 0
 have hμ:∀a w N,b N a w->b (μ a w) a w/\μ a w<=N:=by
  intro a w N h;have e:=q N a w h;have i:μ a w=Classical.choose e:=Tk e;have n:=eB e;rw[i];refine⟨n.1,?_⟩;rcases aZ N (Classical.choose e)with j|p
  .exact absurd h (n.2 N j)
  .exact p
 refine wp_loop (λa w=>∃N,b N a w) μ ⟨N,o⟩ ?_
 rintro a w ⟨N,h⟩
 refine Code.wp_mono ?_ (r (μ a w) a w (hμ a w N h).1)
 intro i g k m
 cases i with
 |normal=>
  obtain⟨d,j,f⟩:=m
  exact⟨⟨d,f⟩,nP (hμ g k d f).2 j⟩
 |_=>exact m
end Go.Vc
end
section
namespace Go.Vc
variable{i w:World}{j p:List Nat}{l a:Act}{f:Exit->Fr->E->Prop}{e:Exit}{b:E}
variable{g:Program}{h:TT}{G:List Nat}{d:Nat}{o:Pg}
def kA(d:Nat)(i:World)(j:List Nat)(l:Act)(f:Exit->Fr->E->Prop):Exit->Act->World->Prop
 | .panic _,_,_=>False
 | .outgrown,_,_=>False
 |e,a,w=>∃b,ka d b a/\Bx d b w.heap/\pI i w/\mJ j l a/\f e b w.heap
def kA.mk{b:Fr}(g:(∀c,e≠.panic c)/\e≠.outgrown)
 (k:ka d b a)(h:Bx d b w.heap)(o:pI i w)(m:mJ j l a)(n:f e b w.heap):kA d i j l f e a w:=by
 cases e with
 |panic c=>exact absurd rfl (g.1 c)
 |outgrown=>exact absurd rfl g.2
 |_=>exact⟨b,k,h,o,m,n⟩
def kA.aW(h:kA d i j l f e a w):
 ((∀c,e≠.panic c)/\e≠.outgrown)/\∃b,ka d b a/\Bx d b w.heap/\pI i w/\mJ j l a/\f e b w.heap:=by
 cases e with
 |panic c=>exact h.elim
 |outgrown=>exact h.elim
 |_=>exact⟨⟨aJ,aJ⟩,h⟩
def kA.left(h:kA d i j l f e a w):kA d i (j++p) l f e a w:=by
 obtain⟨g,q,c,b,n,k,m⟩:=h.aW;exact kA.mk g c b n (k.mono (λt o=>bL _ o)) m
def kA.right(h:kA d i j l f e a w):kA d i (p++j) l f e a w:=by
 obtain⟨g,q,c,b,n,k,m⟩:=h.aW;exact kA.mk g c b n (k.mono (λt o=>fL _ o)) m
def SU{f:Fr}{e:Op}{x:SV}{k:SV->Prop}(c:Lu f e=some x)(d:k x):Lc e=false/\rd h f b k e:=by
 unfold Lu at c;split at c
 .split at c
  .simp at c
  .simp at c;subst c;exact⟨rfl,d⟩
 .split at c
  .simp at c
  .simp at c;subst c;exact⟨rfl,d⟩
 .rename_i o t y z l;split at c
  .rename_i a j g i;refine⟨rfl,?_⟩;simp only[rd,g,i];split at c<;>simp at c<;>subst c<;>exact d
  .simp at c
 .simp at c
def Eg(j:List Oper){b:E}{i:Fr->E->Prop}:∀{n:List Oper}{c e:Fr},rj d n c=some e->i e b->sN g h G d j n c b i
 |[],c,e,a,f=>by simp[rj]at a;subst a;exact f
 |o::s,c,e,a,f=>by
  simp only[rj]at a;simp only[sN];cases hd:sI d o.dst
  .rw[hd]at a;simp at a
  .rw[hd]at a;simp only[jI]at a⊢;cases l:o.guard with
   |some p=>rw[l]at a;simp at a
   |none=>
    rw[l]at a;simp only[gd]at a⊢;split at a
    .rename_i x r;obtain⟨p,q⟩:=SU (h:=h) (b:=b) (k:=λx=>sN g h G d j s (uo c o.dst x) b i) r (Eg j a f);rw[p];exact q
    .simp at a
def Un(p:Nat){b:E}{f:Exit->Fr->E->Prop}:∀(k:Code)(n:Fr)(y:Bool),Wm o d p k n=some y->(∀i,lC (gZ i p)=some y->f .normal i b)->vc g h G d o k n b f
 | .region id A e,n,y,a,m=>by
  cases e
  .simp only[Wm]at a;simp only[vc,mN];split at a
   .rename_i i q;exact Eg _ q (m i a)
   .simp at a
  .simp[Wm]at a
 | .seq (.region id A false) (.cond (.tmp u) .skip k),n,y,a,m=>by
  simp only[Wm]at a;split at a
  .simp at a
  .rename_i w;cases l:(Nat.beq u p&&vr p (oR k))
   .rw[l]at a;simp at a
   .rw[l]at a;simp only[jI]at a;simp only[bN]at l;have z:=bt l.1;subst z;split at a
    .rename_i i q;split at a
     .rename_i C B e r;simp at a;subst a;rw[vc,w];simp only;rw[vc];simp only[mN];refine Eg _ q ?_;rw[vc];have x:ev i (.tmp u)=(gZ i u).nb:=rfl;rw[x];cases j:gZ i u with
      |tt=>
       rw[j]at e;simp[lC]at e;subst e;simp only[SV.nb,vc];exact m i (by rw[j];simp[lC])
      |ff=>
       rw[j]at e;simp[lC]at e;subst e;simp only[SV.nb];exact Un u k i B r (λs v=>m s (by simpa using v))
      |c s=>
       cases s with
       |t v=>
        rw[j]at e;simp[lC]at e;subst e;simp only[SV.nb,YZ,l.2,jI,r];exact m _ (by simp[gZ,lC])
       |_=>rw[j]at e;simp[lC]at e
      |_=>rw[j]at e;simp[lC]at e
     .simp at a
    .simp at a
def UF(hT:uj g h)(hG:U1 g G)(au:g.follows .mixedOrders=true)(i:World):∀(D:Code),qG D=true->∀(l:Fr)(b:E)(f:Exit->Fr->E->Prop)(a:Act)(w:World),
 vc g h G d o D l b f->ka d l a->Bx d l b->w.heap=b->pI i w->D.wp g (kA d i (oR D) a f) a w:=by
 intro D
 induction D with
 |skip=>
  intro hd l b f a w c k s x t
  subst x
  exact wp_skip ⟨l,k,s,t,mJ.aA _ _,c⟩
 |region id p z=>
  intro hd l b f a w c k s x t
  simp only[vc]at c
  cases z
  .simp only[mN]at c
   refine wp_region_list ?_
   exact vg hT hG p p.toList l b (f .normal) a w (λ_ c=>c) c k s x t (mJ.aA _ _) λB I S j r v u q=>⟨B,r,v,u,q,j⟩
  .simp only[jI]at c
   simp only[qG,NZ,VL,bN]at hd
   refine wp_region_any au (Ms (e:=λy C=>Nat.testBit (ur (TJ [] p.toList) y) C) (L:=[]) _ _ _ _ ?_)
   have F:p.toList.length=p.size:=aJ
   rw[F]at c
   refine Pc hT hG p _ _ hd.1 hd.2 (λD a w hx=>hx) (w0:=i) (a0:=a) p.size 0 l b [] (f .normal) [] _ a _ c (λC hx=>by cases hx) ⟨aJ,λy=>by simp[VK];split<;>rfl⟩ (λy hi=>by simp[VK]at hi;split at hi<;>simp at hi) k s x ⟨t.os,t.tape,t.output⟩ (mJ.aA _ _) λB I S j r v u q=>⟨B,r,v,u,q,j⟩
 |seq C U ac X=>
  intro hd l b f a w c k s x t
  simp only[vc]at c
  simp only[qG,bN]at hd
  refine wp_seq ?_
  split at c
  .refine Code.wp_mono ?_ (ac hd.1 l b _ a w c k s x t)
   intro e I S j
   obtain⟨p,B,r,v,u,z,j⟩:=j.aW
   cases e with
   |normal=>
    refine Code.wp_mono ?_ (X hd.2 B _ f I S j r v rfl u)
    intro e R aa j
    obtain⟨p,V,J,F,O,K,j⟩:=j.aW
    exact kA.mk p J F O ((z.mono (λH q=>bL _ q)).trans (K.mono (λH q=>fL _ q))) j
   |panic D=>exact absurd rfl (p.1 D)
   |outgrown=>exact absurd rfl p.2
   |exit y=>exact kA.mk (e:=.exit y) p r v u (z.mono (λH q=>bL _ q)) j
   |goto y=>exact kA.mk (e:=.goto y) p r v u (z.mono (λH q=>bL _ q)) j
   |ret=>exact kA.mk (e:=.ret) p r v u (z.mono (λH q=>bL _ q)) j
  .rename_i N hl
   cases ab:p7 (oR C) N
   .rw[ab]at c;exact c.elim
   rw[ab]at c
   obtain⟨ad,h1,W⟩:=c
   refine Code.wp_mono ?_ (ac hd.1 l b _ a w h1 k s x t)
   intro e I S j
   obtain⟨p,B,r,v,u,z,j⟩:=j.aW
   cases e with
   |normal=>
    obtain⟨af,j⟩:=KQ j
    obtain⟨ag,K',h3,Y,Z,h5⟩:=PA r (An (k.nL _) r.size r.defers z) (Bx.lE s v af) j W
    refine Code.wp_mono ?_ (X hd.2 ag _ f I S (h3 _ h5) Y Z rfl u)
    intro e R aa j
    obtain⟨p,V,J,F,O,K,j⟩:=j.aW
    exact kA.mk p J F O ((z.mono (λH q=>bL _ q)).trans (K.mono (λH q=>fL _ q))) j
   |panic D=>exact absurd rfl (p.1 D)
   |outgrown=>exact absurd rfl p.2
   |exit y=>exact kA.mk (e:=.exit y) p r v u (z.mono (λH q=>bL _ q)) j
   |goto y=>exact kA.mk (e:=.goto y) p r v u (z.mono (λH q=>bL _ q)) j
   |ret=>exact kA.mk (e:=.ret) p r v u (z.mono (λH q=>bL _ q)) j
 |cond ad C U ac X=>
  intro hd l b f a w c k s x t
  simp only[vc]at c
  simp only[qG,bN]at hd
  have ak:∀{K:Bool},a.eval ad=.bool K->ka d (uQ l ad (if K then .tt else .ff)) a:=by
   intro K F;unfold uQ;split
   .rename_i H;refine⟨k.size,k.defers,λR=>?_⟩;simp only[gZ];cases Y:Nat.beq H R
    .exact k.aG R
    .have:=bt Y;subst this;cases K<;>exact F
   .exact k
  have al:∀{C:SV},(∀K e N,C≠.box K e N/\C≠.zJ K e N)->Bx d (uQ l ad C) b:=by
   intro C hx;unfold uQ;split
   .exact s.fZ hx
   .exact s
  split at c
  .rename_i Z
   exact wp_cond_true (k.eq Z rfl) (Code.wp_mono (λ_ _ _ c=>c.left) (ac hd.1 l b f a w c k s x t))
  .rename_i Z
   exact wp_cond_false (k.eq Z rfl) (Code.wp_mono (λ_ _ _ c=>c.right) (X hd.2 l b f a w c k s x t))
  .rename_i K Z
   have aa:a.eval ad=.bool K:=k.eq Z rfl
   split at c
   .rename_i H y' J
    unfold YZ at J
    split at J
    .rename_i O
     cases ai:vr O (oR U)
     .rw[ai]at J;simp at J
     .rw[ai]at J
      simp only[jI]at J
      split at J
      .rename_i y0 ao
       simp at J
       obtain⟨rfl,rfl⟩:=J
       have an:a.tmps.getD O undef=.bool K:=aa
       refine wp_cond_split aa (λq=>?_) (λq=>?_)
       .subst x
        subst q
        refine wp_skip (kA.mk (e:=.normal) (b:=(O,.c (.t (true||y0)))::nL (oR U) l) ⟨aJ,aJ⟩ ?_ ((s.nL _).fZ aJ) t (mJ.aA _ _) c)
        have F:=An (M:=oR U) k k.size k.defers (mJ.aA _ a)
        refine⟨F.size,F.defers,λR=>?_⟩
        simp only[gZ]
        cases Y:Nat.beq O R
        .exact F.aG R
        .have:=bt Y
         subst this
         simpa[SV.Is,SV.v,Ce.v]using an
       .subst q
        have hv:=Un (g:=g) (h:=h) (G:=G) (o:=o) (d:=d) O (b:=b) (f:=λe B V=>e=.normal/\V=b/\lC (gZ B O)=some y0) U l y0 ao (λB V=>⟨rfl,rfl,V⟩)
        refine Code.wp_mono ?_ (X hd.2 l b _ a w hv k s x t)
        intro e I S j
        obtain⟨p,B,r,v,u,z,rfl,ah,am⟩:=j.aW
        refine kA.mk (e:=.normal) (b:=(O,.c (.t (false||y0)))::nL (oR U) l) p ?_ (by rw[ah];exact(s.nL _).fZ aJ) u (z.mono (λH q=>fL _ q)) (by rw[ah];exact c)
        have F:=An (M:=oR U) k r.size r.defers z
        refine⟨F.size,F.defers,λR=>?_⟩
        simp only[gZ]
        cases Y:Nat.beq O R
        .exact F.aG R
        .have:=bt Y
         subst this
         obtain⟨V,W⟩:=xh am
         have h3:=(r.aG O).eq V
         rw[W]at h3
         simpa[SV.Is,SV.v,Ce.v]using h3
      .simp at J
    .simp at J
   .refine wp_cond_split aa (λq=>?_) (λq=>?_)
    .subst q
     exact Code.wp_mono (λ_ _ _ c=>c.left) (ac hd.1 _ b f a w (c.1 rfl) (ak aa) (al aJ) x t)
    .subst q
     exact Code.wp_mono (λ_ _ _ c=>c.right) (X hd.2 _ b f a w (c.2 rfl) (ak aa) (al aJ) x t)
  .exact c.elim
 |block id C J=>
  intro hd l b f a w c k s x t
  simp only[vc]at c
  refine wp_block (Code.wp_mono ?_ (J hd l b _ a w c k s x t))
  intro e I S j
  obtain⟨p,B,r,v,u,z,j⟩:=j.aW
  cases e with
  |exit y=>
   simp only[Exit.inBlock]
   simp only at j
   cases F:Nat.beq y id
   .rw[F]at j
    have q:y≠id:=λe=>by subst e;simp at F
    rw[ae q]
    exact kA.mk (e:=.exit y) p r v u z j
   .rw[F]at j
    rw[aj (bt F)]
    exact kA.mk (e:=.normal) ⟨aJ,aJ⟩ r v u z j
  |normal=>exact kA.mk (e:=.normal) p r v u z j
  |panic D=>exact absurd rfl (p.1 D)
  |outgrown=>exact absurd rfl p.2
  |goto y=>exact kA.mk (e:=.goto y) p r v u z j
  |ret=>exact kA.mk (e:=.ret) p r v u z j
 |loop C J=>
  intro hd l b f a w c k s x t
  subst x
  simp only[vc]at c
  split at c
  .exact c.elim
  .rename_i N hl
   cases ab:p7 (oR C) N
   .rw[ab]at c;exact c.elim
   rw[ab]at c
   obtain⟨O,μ,h0,h1⟩:=c
   let Y:Nat->Act->World->Prop:=λK I w=>∃B H μ',Tu N O μ (nL (oR C) (uH d (lE o C) l)) B H μ'/\ka d B I/\Bx d B w.heap/\H w.heap/\μ' w.heap=K/\pI i w/\mJ (oR C) a I
   obtain⟨aa,R,μ1,ap,am,ad,ak⟩:=Nu (μ:=μ) k (An (k.nL _) k.size k.defers (mJ.aA (oR C) a)) (Bx.lE s s (λ_ _=>rfl)) h0
   refine Te Y ?_ (μ1 w.heap) a w ⟨aa,R,μ1,ap,am,ad,ak,rfl,t,mJ.aA _ _⟩
   rintro K Z w ⟨B,H,μ',hi,r,v,ai,rfl,u,V⟩
   have ao:=Ns h1 hi w.heap ai
   refine Code.wp_mono ?_ (J hd B w.heap _ Z w ao r v rfl u)
   intro e I S j
   obtain⟨p,ag,q,z,F,W,j⟩:=j.aW
   cases e with
   |normal=>
    obtain⟨af,j⟩:=KQ j
    obtain⟨ac,X,μ3,aq,an,ah,al,ar⟩:=Nv q (An (k.nL _) q.size q.defers (V.trans W)) (Bx.lE s z af) j
    exact⟨_,ar,ac,X,μ3,aq,an,ah,al,rfl,F,V.trans W⟩
   |panic D=>exact absurd rfl (p.1 D)
   |outgrown=>exact absurd rfl p.2
   |exit y=>exact kA.mk (e:=.exit y) p q z F (V.trans W) j
   |goto y=>exact kA.mk (e:=.goto y) p q z F (V.trans W) j
   |ret=>exact kA.mk (e:=.ret) p q z F (V.trans W) j
 |exit id=>
  intro hd l b f a w c k s x t
  subst x
  exact wp_exit ⟨l,k,s,t,mJ.aA _ _,c⟩
 |ret=>
  intro hd l b f a w c k s x t
  subst x
  exact wp_ret ⟨l,k,s,t,mJ.aA _ _,c⟩
 |rangeFunc j k C U _ _=>intro _ l b f a w c;exact c.elim
 |scope C _=>intro _ l b f a w c;exact c.elim
 |label N=>intro _ l b f a w c;exact c.elim
 |goto N=>intro _ l b f a w c;exact c.elim
 |refuse s=>intro _ l b f a w c;exact c.elim
def uG:Nat->List SV->Fr
 |_,[]=>[]
 |i,x::r=>(i,x)::uG (i+1) r
def Gl(h:TT)(a:Fr)(b:E):List ResultVar->(List SV->Prop)->Prop
 |[],k=>k []
 | .tmp t::r,k=>bif (gZ a t).jJ then Gl h a b r λl=>k (gZ a t::l)else False
 | .cell p t::r,k=>rd h a b (λx=>bif x.jJ then Gl h a b r λl=>k (x::l)else False) (.load t (.tmp p))
def XE(h:TT)(c:List ResultVar)(a:Fr)(b:E)(R:Value->E->Prop):Prop:=
 Gl h a b c λ
  |[x]=>R x.v b
  |l=>R (.tuple (l.map SV.v).toArray) b
def Td(g:Program)(h:TT)(G:List Nat)(o:Pg)(d:Nat)(c:List ResultVar)(f:Code)(e:List SV)(b:E)(R:Value->E->Prop):Prop:=
 vc g h G d o f (uG 0 e) b λ
  | .normal,a,b=>XE h c a b R
  | .ret,a,b=>XE h c a b R
  |_,_,_=>False
def Hu:∀(a:List SV)(i t:Nat),(t<i/\gZ (uG i a) t=.fZ)\/(i<=t/\gZ (uG i a) t=a.getD (t -i) .fZ)
 |[],i,t=>by
  rcases aZ t i with h|h
  .exact Or.inl ⟨h,rfl⟩
  .exact Or.inr ⟨h,by simp[uG,gZ]⟩
 |x::r,i,t=>by
  simp only[uG,gZ];cases c:Nat.beq i t
  .have f:i≠t:=λe=>by subst e;simp at c
   rcases Hu r (i+1) t with⟨d,b⟩|⟨d,b⟩
   .exact Or.inl ⟨V,b⟩
   .refine Or.inr ⟨V,?_⟩;have e:t -i=(t -(i+1))+1:=V;rw[e,List.getD_cons_succ];exact b
  .have:=bt c;subst this;exact Or.inr ⟨ad _,aJ⟩
def LC(a:Array Value):ResultVar->Sem Value
 | .tmp t=>pure (a.getD t undef)
 | .cell p t=>do loadVar t (<-asAddr (a.getD p undef))
def Rl(b:Func)(c:Array Value):results b c=(do
 let a<-b.results.mapM (LC c)
 pure (if h:a.size=1 then a[0]else .tuple a)):=by
 unfold results
 congr 2
def HW{i:Fr}{a:Act}(v:uj g h)(f:ka d i a):∀(D:List ResultVar)(k:List SV->Prop)(w:World),Bx d i w.heap->Gl h i w.heap D k->
 ∃p,k p/\(D.mapM (LC a.tmps)).run g w=.ok (p.map SV.v) w
 |[],k,w,_,b=>⟨[],b,aJ⟩
 | .tmp t::A,k,w,j,b=>by
  simp only[Gl]at b;cases c:(gZ i t).jJ
  .rw[c]at b;exact b.elim
  .rw[c]at b;obtain⟨p,s,u⟩:=HW v f A _ w j b;refine⟨_,s,?_⟩;have z:=(f.aG t).eq c;have r:LC a.tmps (.tmp t)=pure (a.tmps.getD t undef):=rfl;simp only[UL,Sem.run_bind,Sem.run_pure,Result.andThen_ok,u,cG,z,r]
 | .cell q t::A,k,w,j,m=>by
  obtain⟨E,B,n,z,b⟩:=Lv (P:=g) v f j ⟨none,.load t (.tmp q),0,"",#[],none⟩ m;have b:=b w (λC _=>rfl);cases x:E.jJ
  .rw[x]at n;exact n.elim
  rw[x]at n;obtain⟨p,s,u⟩:=HW v f A _ w j n;refine⟨_,s,?_⟩;have G:∃c o,a.tmps.getD q undef=.pointer (some ⟨c,o,none⟩):=by
   have l:=SV.Uk (f.aG q);simp only[Gl,rd,ev]at m;split at m
   .rename_i c o y;rw[y]at l;exact⟨c,o,l⟩
   .rename_i C c o y;rw[y]at l;exact⟨c,o,l⟩
   .exact m.elim
  obtain⟨c,o,y⟩:=G;simp only[execOp,Instr.loadAt,Act.eval,y,Instr.sureAddr,Sem.run_bind,Sem.run_pure,Result.andThen_ok]at b;have F:(loadVar t ⟨c,o,none⟩).run g w=.ok B w:=by
   cases C:(loadVar t ⟨c,o,none⟩).run g w with
   |ok I H=>
    rw[C]at b;simp at b;rw[b.1,b.2]
   |halt e H=>rw[C]at b;simp at b
  have H:B=E.v:=z.eq x;have r:(LC a.tmps (.cell q t)).run g w=.ok B w:=by
   simp only[LC,y,Sem.run_bind,asAddr,Sem.run_pure,Result.andThen_ok,F]
  simp only[UL,Sem.run_bind,Sem.run_pure,Result.andThen_ok,r,u,cG,H]
def qS(z:uj g h)(K:U1 g G)(O:g.follows .mixedOrders=true){y:FuncId}{i:Func}{m:Code}{r:List ResultVar}{a:List SV}{R:Value->E->Prop}
 (N:g.funcs[y]? =some i)(M:i.body=some m)(P:i.ntmps=d)(S:i.results=r.toArray)(A:a.all SV.jJ=true)(X:a.length<=d)(hd:qG m=true)
 (j:Td g h G o d r m a b R):aM g y (a.map SV.v) b R:=by
 intro w U
 refine calls_of_wp N M ?_
 have L:ka d (uG 0 a) {tmps:=(a.map SV.v).toArray++Array.replicate (i.ntmps -(a.map SV.v).toArray.size) undef,defers:=[]}:=by
  refine⟨by simp[P];omega,rfl,λt=>?_⟩;rcases Hu a 0 t with⟨n,_⟩|⟨_,p⟩
  .omega
  .rw[p,XT];rcases aZ t a.length with k|s
   .have u:(a[t]).jJ=true:=List.all_eq_true.1 A _ (List.getElem_mem k);have c:a.getD t .fZ=a[t]:=by simp[k]
    rw[c];have f:((a.map SV.v).toArray++Array.replicate (i.ntmps -(a.map SV.v).toArray.size) undef).getD t undef=(a[t]).v:=by
     simp[Array.getElem?_append,k]
    rw[f];exact nV _
   .have c:a.getD t .fZ=.fZ:=by simp[cZ s]
    rw[c];trivial
 have v:∀{q x e l},¬lQ (uG 0 a) q x e l:=by
  intro q x e l f;rcases Hu a 0 q with⟨n,_⟩|⟨_,p⟩
  .omega
  .unfold lQ at f;rw[p,XT]at f;rcases aZ q a.length with k|s
   .have u:(a[q]).jJ=true:=List.all_eq_true.1 A _ (List.getElem_mem k);have c:a.getD q .fZ=a[q]:=by simp[k]
    rw[c]at f;rcases f with f|f<;>rw[f]at u<;>simp[SV.jJ]at u
   .have c:a.getD q .fZ=.fZ:=by simp[cZ s]
    rw[c]at f;simp at f
 have I:Bx d (uG 0 a) b:=⟨λ_ _ _ _ j=>absurd j v,λ_ _ _ _ _ _ _ _ _ j=>absurd j v,λ_ _ _ _ j=>absurd j v⟩
 refine Code.wp_mono ?_ (UF z K O w m hd _ b _ _ w j L I U (pI.aA w))
 intro e s k c
 obtain⟨B,H,u,J,T,W,c⟩:=c.aW
 have C:∀(c:XE h r H k.heap R),s.defers=[]/\∃D,(results i s.tmps).run g k=.ok D k/\∃F,Ending.returned D=.returned F/\pI w k/\R F k.heap:=by
  intro c;refine⟨u.defers,?_⟩;obtain⟨l,n,p⟩:=HW z u r _ k J c;have Q:(results i s.tmps).run g k=.ok (if j:(l.map SV.v).toArray.size=1 then(l.map SV.v).toArray[0]else .tuple (l.map SV.v).toArray) k:=by
   rw[Rl,S,UU];simp only[Sem.run_bind,Sem.run_map];rw[p];rfl
  refine⟨_,Q,_,rfl,T,?_⟩;cases l with
  |nil=>exact n
  |cons V l=>cases l with
   |nil=>exact n
   |cons Y l=>exact n
 cases e with
 |normal=>exact C c
 |ret=>exact C c
 |exit V=>exact c.elim
 |goto V=>exact c.elim
 |panic m=>exact absurd rfl (B.1 m)
 |outgrown=>exact absurd rfl B.2
end Go.Vc
end
section
namespace Go.Vc
abbrev vi(n:Int):Value:=.int .i64 n
abbrev vb(b:Bool):Value:=.bool b
abbrev vp(b o:Nat):Value:=.pointer (some ⟨b,o,none⟩)
def Hv(f:Func):Code:=
 match f.body with
 |some c=>c
 |none=>.skip
end Go.Vc
end
section
namespace Go.Vc
variable{a p:Prop}{m c d:E}{b o k f n:Nat}{v:Value}{l:List Nat}{s:O}{P:Program}{K e:Value->E->Prop}
structure J(m c:E):Prop where
 size:m.size<=c.size
 same:∀b,b<m.size->c[b]? =m[b]?
def J.aA(m:E):J m m:=⟨ad _,λ_ _=>rfl⟩
def J.trans{a b c:E}(h:J a b)(k:J b c):J a c:=
 ⟨bX h.size k.size,λi d=>(k.same i (aO d h.size)).trans (h.same i d)⟩
def J.push(m:E)(o:Obj):J m (m.push o):=
 ⟨aJ,λb a=>by rw[mR,ae V]⟩
def J.aH{a:E}(h:J a m)(o:Obj):J a (m.push o):=h.trans (J.push m o)
def J.ag{a:E}(h:J a m)(d:a.size<=b)(o:Nat)(l:List Ce):J a (ag m b o l):=
 ⟨by rw[aw];exact h.size,λj c=>by rw[bo l m b o V];exact h.same j c⟩
def J.af(h:J m c)(a:af m b o=some v):af c b o=some v:=by
 rw[aL (h.same b (mW a))];exact a
def J.iF(h:J m c){l:List Ce}(e:fX m b o l):fX c b o l:=λi a d=>h.af (e i a d)
def cx.ext(h:J m c){e:Nat}{l:List Ce}(a:cx m b e l):cx c b e l:=by
 unfold cx at*;rw[h.same b (Array.getElem?_eq_some_iff.1 a).1];exact a
structure eR{α:Type}(m:E)(sz:Nat)(R:List Ce->α->Prop)(s:O)(l:List α):Prop where
 len:s.len=l.length
 cap:s.len<=s.cap
 iB:s.len<=9223372036854775807
 iF:∀(k:Nat)(x:α),l[k]? =some x->∃cs,R cs x/\fX m s.D (s.off+k*sz) cs
def eR.mono{α:Type}{d:Nat}{R b:List Ce->α->Prop}{l:List α}(h:eR m d R s l)(j:J m c)(g:∀a x,R a x->b a x):eR c d b s l:=
 ⟨h.len,h.cap,h.iB,λk x i=>let⟨a,e,f⟩:=h.iF k x i;⟨a,g _ _ e,j.iF f⟩⟩
def U6(a:List Ce)(n:Int):Prop:=a=[.i n]
abbrev aq(m:E)(s:O)(l:List Int):Prop:=eR m 1 U6 s l
def aq.aG{l:List Int}(h:aq m s l){x:Int}(a:l[k]? =some x):af m s.D (s.off+k*1)=some (vi x):=by
 obtain⟨c,rfl,b⟩:=h.iF k x a;exact b 0 (.i x) rfl
def aq.ext(a:J m c){l:List Int}(h:aq m s l):aq c s l:=h.mono a λ_ _ h=>h
def dZ{α:Type}{l:List α}(h:k<l.length):∃x,l[k]? =some x:=⟨l[k],by simp[h]⟩
def cK{α:Type}(l:List α)(k:Nat)(h:k<l.length:=by(omega)):∃x,l[k]? =some x:=dZ h
def oh(x:a)(h:a->p:=by(omega)):p:=h x
def P7{b:Prop}(x:a)(y:b)(h:a->b->p:=by(omega)):p:=h x y
def sx(h:a=False:=by(simp))(x:a):p:=(h▸x:False).elim
def az{α:Type}{l:List α}{x:α}(h:l[k]? =some x):k<l.length:=(List.getElem?_eq_some_iff.1 h).1
def bd{α:Type}{l:List α}{x:α}(h:l[k]? =some x):l.take (k+1)=l.take k++[x]:=by
 rw[List.take_add_one,h];rfl
def cJ{α:Type}{l:List α}(h:l.length<=k):l.take k=l:=nO h
def vO(P:Program)(f:Nat)(a:List Value)(m:E)(v:Value):Prop:=aM P f a m λb c=>b=v/\J m c
def aM.post{a:List Value}(h:aM P f a m K)(b:∀v c,K v c->e v c):aM P f a m e:=h.mono b
def vO.then{a:List Value}(h:vO P f a m v)(d:∀c,J m c->K v c):aM P f a m K:=
 h.mono λ_ _⟨b,e⟩=>b▸d _ e
def O.Hg{t:O}:s.v=t.v<->s=t:=by
 refine⟨λh=>?_,λh=>h▸rfl⟩;cases s<;>cases t<;>simp_all [O.v]
def J.dv(h:J m c)(d:∀b∈l,b<m.size):dY l m c:=λb a=>h.same b (d b a)
def J.lt(h:J m c)(a:b<m.size):b<c.size:=aO a h.size
def J.cr(h:J m c)(a:Vc.af m b o=some v):Vc.af c b o=Vc.af m b o:=by rw[h.af a,a]
def kX(h:k<n)(a:n<=9223372036854775807):cR ((k:Int)+1)=((k+1:Nat):Int):=by rw[aP V V];rfl
def Gf(h:k<n):((n:Int) -((k+1:Nat):Int)).toNat<((n:Int) -(k:Int)).toNat:=V
def fm(g:n<=9223372036854775807){d:(Int->E->Prop)->(Int->E->Nat)->Int->E->Prop}(Q:Nat->E->Prop)(e:Q 0 m)
 (h:∀(k:Nat)(a:E)(I:Int->E->Prop)(μ:Int->E->Nat),k<=n->Q k a->
  (k<n->∀c,Q (k+1) c->I (cR ((k:Int)+1)) c/\μ (cR ((k:Int)+1)) c<μ k a)->d I μ k a):
 ∃(I:Int->E->Prop)(μ:Int->E->Nat),I 0 m/\∀i a,I i a->d I μ i a:=by
 refine⟨λi c=>∃k:Nat,i=k/\k<=n/\Q k c,λi _=>(n -i).toNat,⟨0,rfl,eO _,e⟩,?_⟩
 rintro i a ⟨k,rfl,f,j⟩
 refine h k a _ _ f j λb c l=>?_
 rw[kX b g]
 exact⟨⟨k+1,rfl,b,l⟩,Gf b⟩
def dV{σ:Type}(l:n<=9223372036854775807){f:σ}{e:(σ->Int->E->Prop)->(σ->Int->E->Nat)->σ->Int->E->Prop}(Q:Nat->σ->E->Prop)(g:Q 0 f m)
 (h:∀(k:Nat)(s:σ)(a:E)(I:σ->Int->E->Prop)(μ:σ->Int->E->Nat),k<=n->Q k s a->
  (k<n->∀b c,Q (k+1) b c->I b (cR ((k:Int)+1)) c/\μ b (cR ((k:Int)+1)) c<μ s k a)->e I μ s k a):
 ∃(I:σ->Int->E->Prop)(μ:σ->Int->E->Nat),I f 0 m/\∀s i a,I s i a->e I μ s i a:=by
 refine⟨λs i c=>∃k:Nat,i=k/\k<=n/\Q k s c,λ_ i _=>(n -i).toNat,⟨0,rfl,eO _,g⟩,?_⟩
 rintro s i a ⟨k,rfl,j,o⟩
 refine h k s a _ _ j o λd b c p=>?_
 rw[kX d l]
 exact⟨⟨k+1,rfl,d,p⟩,Gf d⟩
def dT(P:Program)(f:Nat)(a:List Value)(m:E)(p:Prop):Prop:=aM P f a m λv c=>∃b:Bool,v=.bool b/\(b=true<->p)/\J m c
def dT.then{a:List Value}(h:dT P f a m p)(g:∀(b:Bool) c,(b=true<->p)->J m c->K (.bool b) c):aM P f a m K:=
 h.mono λ_ _⟨b,e,d,i⟩=>e▸g b _ d i
def dT.aK{e:List Value}(i:dT P f e m p)(g:J d m)(q:∀b∈l,b<d.size)
 (o:∀(b:Bool) c,(b=true<->p)->J m c->J d c->K (.bool b) c):aM P f e m λv c=>dY l m c/\K v c:=
 i.mono λ_ _⟨b,n,j,a⟩=>⟨a.dv λh k=>g.lt (q h k),n▸o b _ j a (g.trans a)⟩
def vO.aK{e:List Value}(i:vO P f e m v)(g:J d m)(o:∀b∈l,b<d.size)
 (n:∀c,J m c->J d c->K v c):aM P f e m λv c=>dY l m c/\K v c:=
 i.mono λ_ _⟨k,a⟩=>⟨a.dv λh j=>g.lt (o h j),k▸n _ a (g.trans a)⟩
def aM.aK{a:List Value}(j:aM P f a m K)(o:J d m)(n:∀b∈l,b<d.size)
 (g:∀v c,K v c->J m c/\e v c):aM P f a m λv c=>dY l m c/\e v c:=
 j.mono λv c h=>⟨(g v c h).1.dv λi k=>o.lt (n i k),(g v c h).2⟩
def fJ{b:Bool}(h:b=true<->p)(d:J m c):∃a:Bool,Value.bool b=.bool a/\(a=true<->p)/\J m c:=⟨b,rfl,h,d⟩
def cT(h:¬p)(b:J m c):∃a:Bool,Value.bool false=.bool a/\(a=true<->p)/\J m c:=⟨false,rfl,by simp[h],b⟩
def jV(h:p)(b:J m c):∃a:Bool,Value.bool true=.bool a/\(a=true<->p)/\J m c:=⟨true,rfl,by simp[h],b⟩
def nb{b:Bool}(a:b=true<->p)(h:(!b)=true):¬p:=λc=>by simp[a.2 c]at h
def yb{b:Bool}(a:b=true<->p)(h:(!b)=false):p:=a.1 (by simpa using h)
def fb{b:Bool}(a:b=true<->p)(h:b=false):¬p:=λc=>by simp[a.2 c]at h
def bY{α:Type}{l:List α}{x:α}{p:α->Prop}(c:l[k]? =some x)(h:∀y∈l.take k,p y)(b:p x):∀y∈l.take (k+1),p y:=by
 rw[bd c];intro y a;rcases List.mem_append.1 a with a|a
 .exact h y a
 .simp at a;subst a;exact b
def dy{α:Type}{l:List α}{p:α->Prop}(a:l.length<=k)(h:∀y∈l.take k,p y):∀y∈l,p y:=by rw[<-cJ a];exact h
def ar{α:Type}{l:List α}{x:α}(h:l[k]? =some x):x∈l:=ij h
end Go.Vc
end
section
namespace Go.Vc
variable{m:E}{s:O}{k:Nat}
structure bz where
 uK:Int
 to:Int
 cons:List (List Int)
structure Instr where
 op:Int
 dst:Int
 bQ:Int
 bM:Int
 args:List Int
 eG:List Int
structure dA where
 params:List Int
 cO:List Int
 aT:Int
 an:Int
 da:List Instr
structure cp where
 bn:List bz
 cB:List dA
def mT(m:E)(a:List Ce)(c:List Int):Prop:=∃f,a=[.s f]/\aq m f c
def iI(m:E)(a:List Ce)(d:bz):Prop:=∃f,a=[.i d.uK,.i d.to,.s f]/\eR m 1 (mT m) f d.cons
def dS(m:E)(b:List Ce)(x:Instr):Prop:=∃a j,b=[.i x.op,.i x.dst,.i x.bQ,.i x.bM,.s a,.s j]/\aq m a x.args/\aq m j x.eG
def lB(m:E)(b:List Ce)(p:dA):Prop:=
 ∃a l c,b=[.s a,.s l,.i p.aT,.i p.an,.s c]/\aq m a p.params/\aq m l p.cO/\eR m 6 (dS m) c p.da
abbrev pE(m:E)(s:O)(l:List (List Int)):Prop:=eR m 1 (mT m) s l
abbrev cy(m:E)(s:O)(l:List bz):Prop:=eR m 3 (iI m) s l
abbrev ft(m:E)(s:O)(l:List Instr):Prop:=eR m 6 (dS m) s l
abbrev jA(m:E)(s:O)(l:List dA):Prop:=eR m 5 (lB m) s l
structure eW(m:E)(d p:O)(im:cp):Prop where
 bn:cy m d im.bn
 cB:jA m p im.cB
def mT.ext{m b:E}(g:J m b)(a:List Ce)(c:List Int):mT m a c->mT b a c:=λ⟨f,d,e⟩=>⟨f,d,e.ext g⟩
def pE.ext{m b:E}(a:J m b){s:O}{l:List (List Int)}(h:pE m s l):pE b s l:=h.mono a (mT.ext a)
def iI.ext{m b:E}(g:J m b)(a:List Ce)(c:bz):iI m a c->iI b a c:=λ⟨f,d,e⟩=>⟨f,d,pE.ext g e⟩
def cy.ext{m b:E}(a:J m b){s:O}{l:List bz}(h:cy m s l):cy b s l:=h.mono a (iI.ext a)
def dS.ext{m d:E}(b:J m d)(a:List Ce)(c:Instr):dS m a c->dS d a c:=λ⟨e,j,f,g,h⟩=>⟨e,j,f,g.ext b,h.ext b⟩
def ft.ext{m b:E}(a:J m b){s:O}{l:List Instr}(h:ft m s l):ft b s l:=h.mono a (dS.ext a)
def lB.ext{m d:E}(a:J m d)(b:List Ce)(c:dA):lB m b c->lB d b c:=λ⟨e,l,c,f,g,h,i⟩=>⟨e,l,c,f,g.ext a,h.ext a,ft.ext a i⟩
def jA.ext{m b:E}(a:J m b){s:O}{l:List dA}(h:jA m s l):jA b s l:=h.mono a (lB.ext a)
def eW.ext{m c:E}(a:J m c){d p:O}{b:cp}(h:eW m d p b):eW c d p b:=⟨cy.ext a h.bn,jA.ext a h.cB⟩
def pE.aG{l:List (List Int)}(h:pE m s l){x:List Int}(b:l[k]? =some x):
 ∃f,aq m f x/\af m s.D (s.off+k*1)=some (O.v f):=by
 obtain⟨d,⟨f,rfl,a⟩,c⟩:=h.iF k x b
 exact⟨f,a,c 0 (.s f) rfl⟩
def cy.aG{l:List bz}(h:cy m s l){x:bz}(c:l[k]? =some x):
 ∃f,pE m f x.cons/\af m s.D (s.off+k*3)=some (vi x.uK)/\af m s.D (s.off+k*3+1)=some (vi x.to)/\af m s.D (s.off+k*3+2)=some (O.v f):=by
 obtain⟨d,⟨f,rfl,b⟩,a⟩:=h.iF k x c
 exact⟨f,b,a 0 (.i x.uK) rfl,a 1 (.i x.to) rfl,a 2 (.s f) rfl⟩
def ft.aG{l:List Instr}(h:ft m s l){x:Instr}(e:l[k]? =some x):
 ∃b j,aq m b x.args/\aq m j x.eG/\af m s.D (s.off+k*6)=some (vi x.op)/\af m s.D (s.off+k*6+1)=some (vi x.dst)/\af m s.D (s.off+k*6+2)=some (vi x.bQ)/\
  af m s.D (s.off+k*6+3)=some (vi x.bM)/\af m s.D (s.off+k*6+4)=some (O.v b)/\af m s.D (s.off+k*6+5)=some (O.v j):=by
 obtain⟨f,⟨b,j,rfl,c,d⟩,a⟩:=h.iF k x e
 exact⟨b,j,c,d,a 0 (.i x.op) rfl,a 1 (.i x.dst) rfl,a 2 (.i x.bQ) rfl,a 3 (.i x.bM) rfl,a 4 (.s b) rfl,a 5 (.s j) rfl⟩
def jA.aG{l:List dA}(h:jA m s l){x:dA}(i:l[k]? =some x):
 ∃a b c,aq m a x.params/\aq m b x.cO/\ft m c x.da/\af m s.D (s.off+k*5)=some (O.v a)/\af m s.D (s.off+k*5+1)=some (O.v b)/\af m s.D (s.off+k*5+2)=some (vi x.aT)/\
  af m s.D (s.off+k*5+3)=some (vi x.an)/\af m s.D (s.off+k*5+4)=some (O.v c):=by
 obtain⟨j,⟨a,b,c,rfl,e,f,g⟩,d⟩:=h.iF k x i
 exact⟨a,b,c,e,f,g,d 0 (.s a) rfl,d 1 (.s b) rfl,d 2 (.i x.aT) rfl,d 3 (.i x.an) rfl,d 4 (.s c) rfl⟩
end Go.Vc
end
section
namespace Go.Vc
variable{g a:E}{f:Nat}{s:O}{l:List Ce}{d:List (List Ce)}
structure gY(g a:E)(f sz:Nat)(s:O)(l:List Ce):Prop where
 len:l.length=s.len*sz
 aG:s=.nil\/∃b c tail,s=.mk b 0 s.len c/\g.size<=b/\cx a b f (l++tail)/\(l++tail).length=c*sz/\s.len<=c
def gY.nil(g a:E)(f b:Nat):gY g a f b .nil []:=⟨aJ,Or.inl rfl⟩
def gY.new(h:J g a)(f c:Nat)(l:List Ce)(k:Nat)(b:l.length=k*c):gY g (a.push (.cells (bA l) f)) f c (.mk a.size 0 k k) l:=
 ⟨b,Or.inr ⟨a.size,k,[],rfl,h.size,by rw[dN];exact cx.push _ _ _,by simpa using b,ad _⟩⟩
def gY.congr{g a d:E}{f e:Nat}{s:O}{l:List Ce}(h:gY g a f e s l)(c:d[s.D]? =a[s.D]?):gY g d f e s l:=by
 refine⟨h.len,?_⟩;rcases h.aG with b|⟨i,j,tail,b,h2,h3,h4,h5⟩
 .exact Or.inl b
 .refine Or.inr ⟨i,j,tail,b,h2,h3.congr ?_,h4,h5⟩;rw[b]at c;exact c
def gY.lt{g a:E}{f c:Nat}{s:O}{l:List Ce}(h:gY g a f c s l):s=.nil\/s.D<a.size:=by
 rcases h.aG with b|⟨d,e,tail,b,h2,h3,h4,h5⟩
 .exact Or.inl b
 .rw[b];exact Or.inr h3.lt
def gY.ext{c:E}{d:Nat}(h:gY g a f d s l)(e:J a c):gY g c f d s l:=by
 rcases h.lt with b|b
 .subst b;exact⟨h.len,Or.inl rfl⟩
 .exact h.congr (e.same _ b)
def gY.cv{c:E}{d:Nat}(h:gY c a f d s l)(j:g.size<=c.size):gY g a f d s l:=by
 refine⟨h.len,?_⟩;rcases h.aG with b|⟨e,i,tail,b,h2,h3,h4,h5⟩
 .exact Or.inl b
 .exact Or.inr ⟨e,i,tail,b,bX j h2,h3,h4,h5⟩
def gY.D{c:Nat}(h:gY g a f c s l):s=.nil\/g.size<=s.D:=by
 rcases h.aG with b|⟨d,e,tail,b,h2,h3,h4,h5⟩
 .exact Or.inl b
 .rw[b];exact Or.inr h2
def fX.MA{b o:Nat}{r:List Ce}(h:fX a b o (l++r)):fX a b o l:=λi d c=>h i d (by rw[ax (az c)];exact c)
def gY.iF{g a:E}{f e:Nat}{s:O}{l:List Ce}(h:gY g a f e s l):fX a s.D s.off l:=by
 rcases h.aG with b|⟨i,c,tail,b,h2,h3,h4,h5⟩
 .have:l=[]:=List.length_eq_zero_iff.1 (by rw[h.len,b];simp);subst this;intro j c d;simp at d
 .rw[b];exact h3.iF.MA
def BY(l a tail:List Ce)(h:a.length<=tail.length):js (l++tail) l.length a=l++a++tail.drop a.length:=by
 apply iL;intro i;rw[wA];simp only[ba];by_cases b:l.length<=i/\i<l.length+a.length/\i<l.length+tail.length
 .rw[aj b,fD,aF b.1,ax V]
 .rw[ae b];by_cases c:i<l.length
  .rw[ax c,fD,ax c]
  .rw[aF V,fD,aF V,aF V,sH];congr 1;omega
def gY.append{c:List Ce}{w:Nat}{x:O}{h:List Ce}{K:O->E->Prop}(k:gY g a f c.length s l)(q:J g a)
 (t:h.length=x.len*c.length)(G:fX a x.D x.off h)(u:(s.len+x.len)*w<=140737488355328)
 (v:∀n p,gY g p f c.length n (l++h)->J g p->n.len=s.len+x.len->a.size<=p.size->(∀d,d<a.size->(s≠.nil->d≠s.D)->p[d]? =a[d]?)->((s=.nil/\n=.nil)\/(s≠.nil/\n.D=s.D/\n≠.nil)\/n.D=a.size)->K n p):
 jN a f c w s x K:=by
 refine⟨h,t,G,λD=>?_,λL=>⟨u,l,k.len,k.iF,λj z=>?_⟩⟩
 .rcases k.aG with i|⟨d,j,tail,i,h2,h3,h4,h5⟩
  .subst i
   have y:x.len=0:=by simpa using D
   have B:h=[]:=List.length_eq_zero_iff.1 (by rw[t,y];simp)
   subst B
   refine⟨λC A=>by simp at A,?_⟩
   exact v .nil _ ⟨by rw[dN];exact k.len,Or.inl rfl⟩ (by simpa[ag]using q) (by simp[y]) (uh (aw _ _ _ _).symm) (λd u _=>by simp[ag]) (Or.inl ⟨rfl,rfl⟩)
  .have A:=k.len
   have I:s.cap=j:=by rw[i];rfl
   rw[i]
   simp only[O.jC,O.tH,O.iS,cD]
   simp only[ba]at h4
   have C:h.length<=tail.length:=by
    have B:(s.len+x.len)*c.length<=j*c.length:=dh _ V;rw[gL]at B;omega
   refine⟨h3.eC (by simp only[ba];omega),?_⟩
   have y:=cx.ag (m:=a) (b:=d) (e:=f) (r:=h) (o:=s.len*c.length) h3
   rw[<-A,BY l h tail C]at y
   refine v _ _ ⟨?_,Or.inr ⟨d,j,tail.drop h.length,rfl,h2,?_,?_,?_⟩⟩ (q.ag h2 _ _) aJ (uh (aw _ _ _ _).symm) (λH _ F=>bo _ _ _ _ ?_) (Or.inr (Or.inl ⟨by rw[i];simp,by rw[i];rfl,aJ⟩))
   .simp only[ba,O.iS,gL];omega
   .rw[<-A];exact y
   .simp only[ba,List.length_drop];omega
   .simp only[O.iS];omega
   .have:=F (by rw[i];simp)
    rw[i]at this;exact this
 .refine v _ _ ⟨?_,Or.inr ⟨a.size,j,nF c (j -(s.len+x.len)),rfl,q.size,cx.push _ _ _,?_,by simpa using z⟩⟩ (q.aH _) aJ aJ (λd u _=>by rw[mR,ae V]) (Or.inr (Or.inr rfl))
  .simp only[ba,O.iS,gL,k.len,t]
  .simp only[ba,rW,k.len,t]
   rw[Nat.sub_mul,<-gL]
   have:(s.len+x.len)*c.length<=j*c.length:=dh _ z
   omega
def aq.gK{l:List Int}(h:gY g a f 1 s (l.map Ce.i))(n:l.length<=9223372036854775807):aq a s l:=by
 have i:s.len=l.length:=by have:=h.len;simp at this;omega
 refine⟨i,?_,V,λk x e=>⟨[.i x],rfl,λj d c=>?_⟩⟩
 .rcases h.aG with b|⟨m,d,tail,b,h2,h3,h4,h5⟩
  .rw[b];exact ad _
  .rw[b];exact h5
 .have b:j=0:=by have:=az c;simp at this;omega
  subst b;simp at c;subst c;have:=h.iF k (.i x) (by simp[e]);simpa using this
def fV{g:Nat}:∀{d:List (List Ce)}(_:∀a∈d,a.length=g){b:Nat}{a:List Ce}(_:d[b]? =some a){i:Nat}{c:Ce}(_:a[i]? =some c),d.flatten[b*g+i]? =some c
 |[],_,b,a,h,_,_,_=>by simp at h
 |x::d,f,0,a,h,i,c,e=>by
  simp at h;subst h;rw[jE,QI,cD,ax (az e)];exact e
 |x::d,f,b+1,a,h,i,c,e=>by
  have k:x.length=g:=f x aX;rw[jE,aF (by rw[k,gL];omega)];have:=fV (d:=d) (λy l=>f y (ai _ l)) (b:=b) (by simpa using h) e;rw[<-this];congr 1;rw[k,gL];omega
def cg{b:Nat}:∀{d:List (List Ce)},(∀a∈d,a.length=b)->d.flatten.length=d.length*b
 |[],_=>aJ
 |x::d,a=>by
  rw[jE,ba,cg (λy c=>a y (ai _ c)),a x aX,aV,gL];omega
structure gE{α:Type}(sz:Nat)(R:List Ce->α->Prop)(d:List (List Ce))(l:List α):Prop where
 len:d.length=l.length
 size:∀cs∈d,cs.length=sz
 dx:∀(j:Nat)(cs:List Ce)(x:α),d[j]? =some cs->l[j]? =some x->R cs x
def gE.nil{α:Type}(a:Nat)(R:List Ce->α->Prop):gE a R [] []:=⟨rfl,aJ,aJ⟩
def gE.yT{α:Type}{f:Nat}{R:List Ce->α->Prop}{l:List α}(h:gE f R d l){cs:List Ce}{x:α}(i:cs.length=f)(k:R cs x):gE f R (d++[cs]) (l++[x]):=by
 refine⟨by simp[h.len],λe a=>?_,λj e y a b=>?_⟩
 .rcases List.mem_append.1 a with a|a
  .exact h.size e a
  .simp at a;subst a;exact i
 .rcases aZ j d.length with c|c
  .rw[ax c]at a;rw[ax (h.len▸c)]at b;exact h.dx j e y a b
  .rw[aF c]at a;rw[aF (by rw[<-h.len];exact c),<-h.len]at b;have g:j -d.length=0:=by have:=az a;simp at this;omega
   rw[g]at a b;simp at a b;subst a;subst b;exact k
def gE.mono{α:Type}{c:Nat}{R b:List Ce->α->Prop}{l:List α}(h:gE c R d l)(g:∀a x,R a x->b a x):gE c b d l:=
 ⟨h.len,h.size,λj a x e f=>g _ _ (h.dx j a x e f)⟩
def eR.gK{α:Type}{e:Nat}{R:List Ce->α->Prop}{l:List α}(h:gY g a f e s d.flatten)(c:gE e R d l)(q:0<e)(t:l.length<=9223372036854775807):eR a e R s l:=by
 have p:s.len=l.length:=by
  have b:=h.len;rw[cg c.size]at b;have:=UM q b;rw[<-this,c.len]
 refine⟨p,?_,V,λk x n=>?_⟩
 .rcases h.aG with b|⟨j,i,tail,b,h2,h3,h4,h5⟩
  .rw[b];exact ad _
  .rw[b];exact h5
 .let⟨j,m⟩:=cK d k (by rw[c.len];exact az n);refine⟨j,c.dx k j x m n,λr i o=>?_⟩;have:=h.iF (k*e+r) i (fV c.size m o);rwa[<-dk]at this
end Go.Vc
end
section
namespace Go.Vc
variable{S c:List Nat}{m a d:E}{b o e:Nat}{l:List Ce}{s:O}
def bO(S:List Nat)(m:E):E:=m.mapIdx λb o=>if b∈S then .cells #[] 0 else o
def Le(M a:E):Prop:=∀b o v,af M b o=some v->af a b o=some v
def eF{v:Value}:af (bO S m) b o=some v<->b∉S/\af m b o=some v:=by
 unfold af bO;rw[Array.getElem?_mapIdx];cases h:m[b]? with
 |none=>simp
 |some x=>by_cases a:b∈S<;>simp[a]
def Le.aA(m:E):Le m m:=λ_ _ _ h=>h
def Le.trans{a b c:E}(h:Le a b)(k:Le b c):Le a c:=λx o v d=>k x o v (h x o v d)
def J.le(h:J m a):Le m a:=λ_ _ _ b=>h.af b
def bF(S:List Nat)(m:E):Le (bO S m) m:=λ_ _ _ h=>(eF.1 h).2
def pQ(h:∀b,b<m.size->b∉S->b∉c/\a[b]? =m[b]?):Le (bO S m) (bO c a):=λb o v i=>by
 let⟨e,d⟩:=eF.1 i;let⟨f,g⟩:=h b (mW d) e;exact eF.2 ⟨f,by rw[aL g];exact d⟩
def J.bO(h:J m a)(d:∀b∈c,b∈S\/m.size<=b):Le (bO S m) (bO c a):=
 pQ λb e g=>⟨λf=>(d b f).elim g λh=>V,h.same b e⟩
def J.dg(h:J m a)(S:List Nat):Le (Vc.bO S m) (Vc.bO S a):=h.bO λ_ b=>Or.inl b
def jT(m:E)(a:∀b∈c,b∈S):Le (bO S m) (bO c m):=(J.aA m).bO λb d=>Or.inl (a b d)
def Le.iF{M a:E}(h:Le M a)(e:fX M b o l):fX a b o l:=λi c d=>h _ _ _ (e i c d)
def eR.le{α:Type}{d:Nat}{R c:List Ce->α->Prop}{l:List α}(h:eR m d R s l)(j:Le m a)(g:∀b x,R b x->c b x):eR a d c s l:=
 ⟨h.len,h.cap,h.iB,λk x i=>let⟨b,e,f⟩:=h.iF k x i;⟨b,g _ _ e,j.iF f⟩⟩
def aq.le{m a:E}(b:Le m a){s:O}{l:List Int}(h:aq m s l):aq a s l:=eR.le h b λ_ _ h=>h
def mT.le{m a:E}(g:Le m a)(b:List Ce)(c:List Int):mT m b c->mT a b c:=λ⟨f,d,e⟩=>⟨f,d,e.le g⟩
def iI.le{m a:E}(d:Le m a)(b:List Ce)(c:bz):iI m b c->iI a b c:=λ⟨f,e,g⟩=>⟨f,e,eR.le g d (mT.le d)⟩
def cy.le{m a:E}(b:Le m a){s:O}{l:List bz}(h:cy m s l):cy a s l:=eR.le h b (iI.le b)
def OD(a:b∉S)(h:fX m b o l):fX (bO S m) b o l:=λi c d=>eF.2 ⟨a,h i c d⟩
def eR.Rg{α:Type}{a:Nat}{R:List Ce->α->Prop}{c:List (List Ce)}{l:List α}(o:∀b∈S,b<d.size)(h:gY d m e a s c.flatten)(q:gE a R c l)(r:0<a)(p:l.length<=9223372036854775807):eR (bO S m) a R s l:=by
 have H:=eR.gK h q r p;refine⟨H.len,H.cap,H.iB,λt x i=>?_⟩;let⟨j,k,n⟩:=H.iF t x i;rcases h.D with f|f
 .have g:=H.len;have:=az i;rw[f]at g;simp at g;omega
 .exact⟨j,k,OD (λg=>oh (o _ g)) n⟩
def aq.Rg{l:List Int}(k:∀b∈S,b<d.size)(h:gY d m e 1 s (l.map Ce.i))(n:l.length<=9223372036854775807):aq (bO S m) s l:=by
 have H:=aq.gK h n;refine⟨H.len,H.cap,H.iB,λo x f=>?_⟩;let⟨g,i,j⟩:=H.iF o x f;rcases h.D with a|a
 .have c:=H.len;have:=az f;rw[a]at c;simp at c;omega
 .exact⟨g,i,OD (λc=>oh (k _ c)) j⟩
end Go.Vc
end
section
namespace Go.Vc
variable{X Y S:List Nat}{a b c m d:E}{f:List Ce}{s:O}{k:Nat}
structure Fz(X:List Nat)(m d:E):Prop where
 size:m.size<=d.size
 same:∀b,b<m.size->b∉X->d[b]? =m[b]?
def Fz.aA(X:List Nat)(m:E):Fz X m m:=⟨ad _,λ_ _ _=>rfl⟩
def Fz.sG(h:Fz X a b)(k:Fz Y b c)(g:∀y∈Y,y∈X\/a.size<=y):Fz X a c:=
 ⟨bX h.size k.size,λi d e=>(k.same i (aO d h.size) λf=>(g i f).elim e λh=>V).trans (h.same i d e)⟩
def Fz.trans(h:Fz X a b)(k:Fz X b c):Fz X a c:=h.sG k λ_ d=>Or.inl d
def J.fz(h:J m d)(X:List Nat):Fz X m d:=⟨h.size,λb a _=>h.same b a⟩
def Fz.then(h:Fz X a b)(k:J b c):Fz X a c:=h.trans (k.fz X)
def Fz.push{X:List Nat}{a m:E}(h:Fz X a m)(o:Obj):Fz X a (m.push o):=h.then (J.push m o)
def Fz.ext(h:Fz [] m d):J m d:=⟨h.size,λb a=>h.same b a aJ⟩
def Fz.DC(h:Fz X m d)(f:∀b∈X,b∈Y\/m.size<=b):Fz Y m d:=⟨h.size,λb a e=>h.same b a λc=>(f b c).elim e λh=>V⟩
def Fz.ag(h:Fz X a m){b:Nat}(c:b∈X\/a.size<=b)(o:Nat)(l:List Ce):Fz X a (ag m b o l):=
 ⟨by rw[aw];exact h.size,λj f d=>by
  have e:j≠b:=λe=>by subst e;exact c.elim d λc=>V
  rw[bo l m b o e];exact h.same j f d⟩
def Fz.bO(h:Fz X m d){a:List Nat}(f:∀b∈X,b∈S)(e:∀b∈a,b∈S\/m.size<=b):Le (bO S m) (bO a d):=
 pQ λb g c=>⟨λi=>(e b i).elim c λh=>V,h.same b g λj=>c (f b j)⟩
def Fz.dg(h:Fz X m d)(a:∀b∈X,b∈S):Le (Vc.bO S m) (Vc.bO S d):=h.bO a λ_ h=>Or.inl h
def Fz.dv(h:Fz X m d){l:List Nat}(c:∀b∈l,b<m.size/\b∉X):dY l m d:=λb a=>h.same b (c b a).1 (c b a).2
inductive Ex where
 |mk (op bQ:Int) (bD:List Ex)
def Ex.op:Ex->Int| .mk o _ _=>o
def Ex.bQ:Ex->Int| .mk _ n _=>n
def Ex.bD:Ex->List Ex| .mk _ _ k=>k
structure ME(β:Type)where
 op:Int
 bQ:Int
 bM:Int
 args:List Int
 bD:List β
inductive Bk where
 |mk (ap:List (ME Bk)) (aT:Int)
abbrev cV:=ME Bk
def Bk.ap:Bk->List cV| .mk s _=>s
def Bk.aT:Bk->Int| .mk _ r=>r
@[simp] theorem Ex.Wl (o n:Int) (k:List Ex):(Ex.mk o n k).op=o:=rfl
@[simp] theorem Ex.Ul (o n:Int) (k:List Ex):(Ex.mk o n k).bQ=n:=rfl
@[simp] theorem Ex.R9 (o n:Int) (k:List Ex):(Ex.mk o n k).bD=k:=rfl
@[simp] theorem Bk.jX (s:List cV) (r:Int):(Bk.mk s r).ap=s:=rfl
@[simp] theorem Bk.jv (s:List cV) (r:Int):(Bk.mk s r).aT=r:=rfl
inductive BK(m:E):List Ce->Ex->Prop
 |mk (op bQ:Int) (bD:List Ex) (s:O) (css:Nat->List Ce) (hl:s.len=bD.length) (hc:s.len<=s.cap) (hm:s.len<=9223372036854775807)
  (hr:∀(k:Nat)(x:Ex),bD[k]? =some x->fX m s.D (s.off+k*3) (css k)) (hk:∀(k:Nat)(x:Ex),bD[k]? =some x->BK m (css k) x):BK m [.i op,.i bQ,.s s] (.mk op bQ bD)
inductive rY(m:E):List Ce->Bk->Prop
 |mk (ap:List (ME Bk)) (r:Int) (s:O) (hl:s.len=ap.length) (hc:s.len<=s.cap) (hm:s.len<=9223372036854775807) (aa ks:Nat->O) (kcs:Nat->Nat->List Ce)
  (hr:∀(k:Nat)(x:ME Bk),ap[k]? =some x->fX m s.D (s.off+k*5) [.i x.op,.i x.bQ,.i x.bM,.s (aa k),.s (ks k)]/\aq m (aa k) x.args/\(ks k).len=x.bD.length/\(ks k).len<=(ks k).cap/\(ks k).len<=9223372036854775807)
  (hb:∀(k:Nat)(x:ME Bk)(j:Nat)(b:Bk),ap[k]? =some x->x.bD[j]? =some b->fX m (ks k).D ((ks k).off+j*2) (kcs k j))
  (hk:∀(k:Nat)(x:ME Bk)(j:Nat)(b:Bk),ap[k]? =some x->x.bD[j]? =some b->rY m (kcs k j) b):rY m [.s s,.i r] (.mk ap r)
def gR(m:E)(f:List Ce)(x:cV):Prop:=∃a k,f=[.i x.op,.i x.bQ,.i x.bM,.s a,.s k]/\aq m a x.args/\eR m 2 (rY m) k x.bD
abbrev fG(m:E)(s:O)(l:List Ex):Prop:=eR m 3 (BK m) s l
abbrev eN(m:E)(s:O)(l:List cV):Prop:=eR m 5 (gR m) s l
abbrev nQ(m:E)(s:O)(l:List Bk):Prop:=eR m 2 (rY m) s l
def BK.le(h:Le m d){e:Ex}(a:BK m f e):BK d f e:=by
 induction a with
 |mk n bQ bD s b g c i a o l=>exact .mk n bQ bD s b g c i (λk x j=>h.iF (a k x j)) l
def rY.le{m d:E}(h:Le m d){f:List Ce}{b:Bk}(a:rY m f b):rY d f b:=by
 induction a with
 |mk ap t s o n p e ks r a l u q=>
  exact .mk ap t s o n p e ks r (λk x c=>let⟨g,i,j⟩:=a k x c;⟨h.iF g,i.le h,j⟩) (λk x j b c g=>h.iF (l k x j b c g)) q
def eR.choose{α:Type}{m:E}{a:Nat}{R:List Ce->α->Prop}{s:O}{l:List α}(h:eR m a R s l):
 ∃b:Nat->List Ce,∀(k:Nat)(x:α),l[k]? =some x->R (b k) x/\fX m s.D (s.off+k*a) (b k):=by
 have:∀k:Nat,∃f:List Ce,∀x:α,l[k]? =some x->R f x/\fX m s.D (s.off+k*a) f:=λk=>by
  cases e:l[k]? with
  |none=>exact⟨[],λx c=>by simp at c⟩
  |some x=>obtain⟨f,d⟩:=h.iF k x e;exact⟨f,λy c=>by simp at c;exact c▸d⟩
 exact⟨λk=>Classical.choose (this k),λk=>eB (this k)⟩
def BK.aW{e:Ex}(h:BK m f e):∃s,f=[.i e.op,.i e.bQ,.s s]/\fG m s e.bD:=by
 cases h with
 |mk l bQ bD s b g c i j d=>exact⟨s,rfl,g,c,i,λk x a=>⟨b k,d k x a,j k x a⟩⟩
def BK.of{b bQ:Int}{bD:List Ex}(h:fG m s bD):BK m [.i b,.i bQ,.s s] (.mk b bQ bD):=by
 let⟨d,c⟩:=h.choose;exact .mk b bQ bD s d h.len h.cap h.iB (λk x a=>(c k x a).2) λk x a=>(c k x a).1
def rY.aW{b:Bk}(h:rY m f b):∃s,f=[.s s,.i b.aT]/\eN m s b.ap:=by
 cases h with
 |mk ap w s r p t d ks v u o q=>
  exact⟨s,rfl,r,p,t,λk x a=>let⟨e,g,i,l,n⟩:=u k x a;⟨_,⟨d k,ks k,rfl,g,i,l,n,λj b c=>⟨v k j,q k x j b a c,o k x j b a c⟩⟩,e⟩⟩
def rY.of{r:Int}{ap:List cV}(h:eN m s ap):rY m [.s s,.i r] (.mk ap r):=by
 let⟨n,l⟩:=h.choose;have:∀k:Nat,∃(a c:O)(kc:Nat->List Ce),∀x:cV,ap[k]? =some x->n k=[.i x.op,.i x.bQ,.i x.bM,.s a,.s c]/\aq m a x.args/\(c.len=x.bD.length/\c.len<=c.cap/\c.len<=9223372036854775807)/\
  ∀(j:Nat)(b:Bk),x.bD[j]? =some b->rY m (kc j) b/\fX m c.D (c.off+j*2) (kc j):=λk=>by
  cases o:ap[k]? with
  |none=>exact⟨.nil,.nil,λ_=>[],λx d=>by simp at d⟩
  |some x=>
   obtain⟨⟨a,c,f,g,e⟩,_⟩:=l k x o
   let⟨kc,p⟩:=e.choose
   exact⟨a,c,kc,λy i=>by simp at i;subst i;exact⟨f,g,⟨e.len,e.cap,e.iB⟩,p⟩⟩
 have H:=λk=>eB (eB (eB (this k)));refine .mk ap r s h.len h.cap h.iB (λk=>Classical.choose (this k)) (λk=>Classical.choose (eB (this k))) (λk=>Classical.choose (eB (eB (this k)))) (λk x d=>?_) (λk x j b d i=>((H k x d).2.2.2 j b i).2) λk x j b d i=>((H k x d).2.2.2 j b i).1;obtain⟨f,g,e,_⟩:=H k x d;exact⟨by rw[<-f];exact(l k x d).2,g,e⟩
def gR.le{m d:E}(h:Le m d){f:List Ce}{x:cV}:gR m f x->gR d f x:=λ⟨a,k,b,c,e⟩=>⟨a,k,b,c.le h,eR.le e h λ_ _=>rY.le h⟩
def fG.le{m d:E}(a:Le m d){s:O}{l:List Ex}(h:fG m s l):fG d s l:=eR.le h a λ_ _=>BK.le a
def eN.le{m d:E}(a:Le m d){s:O}{l:List cV}(h:eN m s l):eN d s l:=eR.le h a λ_ _=>gR.le a
def nQ.le{m d:E}(a:Le m d){s:O}{l:List Bk}(h:nQ m s l):nQ d s l:=eR.le h a λ_ _=>rY.le a
def fG.aG{l:List Ex}(h:fG m s l){x:Ex}(b:l[k]? =some x):
 ∃t,fG m t x.bD/\af m s.D (s.off+k*3)=some (vi x.op)/\af m s.D (s.off+k*3+1)=some (vi x.bQ)/\af m s.D (s.off+k*3+2)=some (O.v t):=by
 let⟨f,d,a⟩:=h.iF k x b
 obtain⟨t,rfl,c⟩:=d.aW
 exact⟨t,c,a 0 _ rfl,a 1 _ rfl,a 2 _ rfl⟩
def eN.aG{l:List cV}(h:eN m s l){x:cV}(e:l[k]? =some x):
 ∃a t,aq m a x.args/\nQ m t x.bD/\af m s.D (s.off+k*5)=some (vi x.op)/\af m s.D (s.off+k*5+1)=some (vi x.bQ)/\af m s.D (s.off+k*5+2)=some (vi x.bM)/\af m s.D (s.off+k*5+3)=some (O.v a)/\af m s.D (s.off+k*5+4)=some (O.v t):=by
 obtain⟨f,⟨a,t,rfl,c,d⟩,b⟩:=h.iF k x e
 exact⟨a,t,c,d,b 0 _ rfl,b 1 _ rfl,b 2 _ rfl,b 3 _ rfl,b 4 _ rfl⟩
def nQ.aG{l:List Bk}(h:nQ m s l){x:Bk}(b:l[k]? =some x):
 ∃t,eN m t x.ap/\af m s.D (s.off+k*2)=some (O.v t)/\af m s.D (s.off+k*2+1)=some (vi x.aT):=by
 let⟨f,d,a⟩:=h.iF k x b
 obtain⟨t,rfl,c⟩:=d.aW
 exact⟨t,c,a 0 _ rfl,a 1 _ rfl⟩
def Bk.w:Bk->Nat
 | .mk ap _=>1+(ap.map λs=>1+s.args.length+(s.bD.map Bk.w).sum).sum
decreasing_by
 rename_i s a _ _
 have b:=oX a
 have c:=oX (by assumption:_∈s.bD)
 have d:SizeOf.sizeOf s.bD<SizeOf.sizeOf s:=by cases s;simp;omega
 simp;omega
def ME.w(s:ME Bk):Nat:=1+s.args.length+(s.bD.map Bk.w).sum
def Bk.Zy(b:Bk):b.w=1+(b.ap.map ME.w).sum:=by
 cases b;rw[Bk.w];rfl
def Ex.n:Ex->Nat
 | .mk _ _ bD=>1+(bD.map Ex.n).sum
end Go.Vc
end
section
namespace Go.Vc
variable{S Y S' X:List Nat}{d a c:E}{b k n h tb:Nat}{s x:O}{g cs i:List Ce}{f:List (List Ce)}{K:O->E->Prop}
structure oJ{α:Type}(sz:Nat)(R:E->List Ce->α->Prop):Prop where
 le:∀{M M':E}{cs:List Ce}{x:α},Le M M'->R M cs x->R M' cs x
 len:∀{M:E}{cs:List Ce}{x:α},R M cs x->cs.length=sz
def um(_:E)(cs:List Ce)(n:Int):Prop:=U6 cs n
def um.mono:oJ 1 um:=⟨λ_ h=>h,λh=>by rw[h];rfl⟩
def BK.mono:oJ 3 BK:=⟨λh=>BK.le h,λh=>by obtain⟨s,rfl,_⟩:=h.aW;rfl⟩
def rY.mono:oJ 2 rY:=⟨λh=>rY.le h,λh=>by obtain⟨s,rfl,_⟩:=h.aW;rfl⟩
def gR.mono:oJ 5 gR:=⟨λh=>gR.le h,λh=>by obtain⟨_,_,rfl,_⟩:=h;rfl⟩
structure Gr{α:Type}(S:List Nat)(d a:E)(b sz:Nat)(R:E->List Ce->α->Prop)(s:O)(l:List α):Prop where
 iY:s≠.nil
 aR:∃f,gY d a b sz s f.flatten/\gE sz (R (bO (s.D::S) a)) f l
def Gr.len{α:Type}{S:List Nat}{d a:E}{b e:Nat}{R:E->List Ce->α->Prop}{s:O}{l:List α}(h:Gr S d a b e R s l)(i:0<e):s.len=l.length:=by
 obtain⟨_,f,g,c⟩:=h;have:=g.len;rw[cg c.size]at this;rw[<-c.len,UM i this]
def Gr.bh{α:Type}{g:Nat}{R:E->List Ce->α->Prop}{l:List α}(h:Gr S d a b g R s l):d.size<=s.D/\s.D<a.size:=by
 let⟨c,f,e,i⟩:=h;exact⟨e.D.resolve_left c,e.lt.resolve_left c⟩
def Gr.new{α:Type}(S:List Nat){d a:E}(h:d.size<=a.size)(b c:Nat)(R:E->List Ce->α->Prop):Gr S d (a.push (.cells (bA []) b)) b c R (.mk a.size 0 0 0) []:=
 ⟨aJ,[],(gY.new (J.aA a) b c [] 0 aJ).cv h,gE.nil _ _⟩
def Gr.dP{α:Type}{g:Nat}{R:E->List Ce->α->Prop}{l:List α}(o:oJ g R)(h:Gr S d a b g R s l)(j:Fz Y a c)(i:∀e∈Y,e∈S/\e<d.size):Gr S d c b g R s l:=by
 have q:=h.bh;let⟨k,f,m,n⟩:=h;refine⟨k,f,m.congr (j.same _ q.2 λp=>oh ((i _ p).2)),n.mono λcs x=>o.le ?_⟩;exact j.dg λe p=>ai _ (i e p).1
def Gr.NE{α:Type}{g:Nat}{R:E->List Ce->α->Prop}{l:List α}(n:oJ g R)(h:Gr S d a b g R s l)(i:Fz Y a c)(o:∀e∈Y,e∈S)(q:s.D∉Y):Gr S d c b g R s l:=by
 have r:=h.bh;let⟨j,f,k,m⟩:=h;exact⟨j,f,k.congr (i.same _ r.2 q),m.mono λcs x=>n.le (i.dg λe p=>ai _ (o e p))⟩
def Gr.re{α:Type}{h:Nat}{R:E->List Ce->α->Prop}{l:List α}(o:oJ h R)(i:Gr S d a b h R s l)(j:Fz Y a c)(q:∀e∈Y,e∈S)(r:s.D∉Y)(p:∀e∈S',e∈S\/a.size<=e):Gr S' d c b h R s l:=by
 have t:=i.bh;let⟨k,f,m,n⟩:=i;refine⟨k,f,m.congr (j.same _ t.2 r),n.mono λcs x=>o.le (j.bO (λe g=>ai _ (q e g)) λe g=>?_)⟩;rcases List.mem_cons.1 g with g|g
 .exact Or.inl (by rw[g];exact aX)
 .exact(p e g).imp (ai _) id
def Gr.ext{α:Type}{e:Nat}{R:E->List Ce->α->Prop}{l:List α}(f:oJ e R)(h:Gr S d a b e R s l)(g:J a c):Gr S d c b e R s l:=
 h.dP f (g.fz []) aJ
def Gr.done{α:Type}{c:Nat}{R:E->List Ce->α->Prop}{l:List α}(j:oJ c R)(h:Gr S d a b c R s l)(k:∀e∈S,e<d.size)(o:0<c)(n:l.length<=9223372036854775807):eR (bO S a) c (R (bO S a)) s l:=by
 obtain⟨_,f,g,i⟩:=h;exact eR.Rg k g (i.mono λcs x=>j.le (jT a λe m=>ai _ m)) o n
def J.MA(h:k<=a.size):J (a.extract 0 k) a:=by
 refine⟨bI,λb c=>?_⟩;have d:b<k:=by simp at c;omega
 rw[Array.getElem?_extract];simp;omega
def nZ(h:k<=a.size):(a.extract 0 k).size=k:=bI
def Gr.next{α:Type}{F:Nat}{R:E->List Ce->α->Prop}{C D:List α}(G:oJ g.length R)(W:0<g.length)
 (y:Gr S d a b g.length R s C)(H:Fz X d a)(u:x.len=f.length)(T:fX a x.D x.off f.flatten)(n:gE g.length (R (bO (s.D::S) a)) f D)(i:(C.length+D.length)*F<=140737488355328)
 (P:∀r c,Gr S d c b g.length R r (C++D)->Fz X d c->(a.size<=c.size/\(r.D=s.D\/a.size<=r.D))->(∀e,e<a.size->e≠s.D->c[e]? =a[e]?)->K r c):jN a b g F s x K:=by
 have Q:=y.len W
 have hy:=y.bh
 let⟨z,w,O,j⟩:=y
 have q:d.size<=a.size:=H.size
 refine gY.append (g:=a.extract 0 d.size) (c:=g) (h:=f.flatten) (l:=w.flatten) (O.cv (by rw[nZ q];exact ad _)) (J.MA q) ?_ T (by rw[Q,u,n.len];exact i) λr c Y k2 k3 Z k5 B=>?_
 .rw[cg n.size,u]
 have A:∀e,e<a.size->e≠s.D->c[e]? =a[e]? :=λe i k=>k5 e i λ_=>k
 have U:r≠.nil:=by
  rcases B with⟨h,_⟩|⟨_,_,h⟩|h
  .exact absurd h z
  .exact h
  .intro b;rw[b]at h;simp at h;omega
 have L:a.size<=c.size:=Z
 have I:Le (bO (s.D::S) a) (bO (r.D::S) c):=pQ λe i k=>by
  simp only[aS,ui]at k;refine⟨?_,A e i k.1⟩;simp only[aS,ui];refine⟨?_,k.2⟩;rcases B with⟨h,_⟩|⟨_,h,_⟩|h
  .exact absurd h z
  .rw[h];exact k.1
  .omega
 refine P r c ⟨U,w++f,?_,?_⟩ ⟨bX q L,λe i u=>?_⟩ ⟨L,?_⟩ A
 .rw[qU]
  exact Y.cv (by rw[nZ q];exact ad _)
 .refine⟨by simp[j.len,n.len],λm o=>?_,λM m N t v=>?_⟩
  .rcases List.mem_append.1 o with o|o
   .exact j.size m o
   .exact n.size m o
  .rcases aZ M w.length with p|p
   .rw[ax p]at t
    rw[ax (j.len▸p)]at v
    exact G.le I (j.dx M m N t v)
   .rw[aF p]at t
    rw[aF (by rw[<-j.len];exact p),<-j.len]at v
    exact G.le I (n.dx _ m N t v)
 .rw[A e (aO i q) V];exact H.same e i u
 .rcases B with⟨h,_⟩|⟨_,h,_⟩|h
  .exact absurd h z
  .exact Or.inl h
  .exact Or.inr V
def Gr.kM{α:Type}{n:Nat}{R:E->List Ce->α->Prop}{m:List α}{k:α}(i:oJ g.length R)(z:0<g.length)
 (q:Gr S d a b g.length R s m)(w:Fz X d a)(p:R (bO (s.D::S) a) cs k)(j:(m.length+1)*n<=140737488355328)
 (x:∀r c,Gr S d c b g.length R r (m++[k])->Fz X d c->(a.size<=c.size/\(r.D=s.D\/a.size<=r.D))->(∀f,f<a.size->f≠s.D->c[f]? =a[f]?)->K r c):jN (a.push (.cells (bA cs) b)) b g n s (.mk a.size 0 1 1) K:=by
 have h:=J.push a (.cells (bA cs) b)
 refine Gr.next (f:=[cs]) (D:=[k]) i z (q.ext i h) (w.then h) rfl ?_ ?_ j λr c t u o v=>x r c t u ⟨bX h.size o.1,o.2.imp id (bX h.size)⟩ λf j y=>(v f (aO j h.size) y).trans (h.same f j)
 .have:=(cx.push a (e:=b) (l:=cs)).iF
  simpa using this
 .have:=gE.yT (gE.nil g.length (R (bO (s.D::S) (a.push (.cells (bA cs) b))))) (i.len p) (i.le (h.dg _) p)
  simpa using this
def eR.Wn{α:Type}{b:Nat}{R:List Ce->α->Prop}{l:List α}(z:∀cs x,R cs x->cs.length=b)(r:eR a b R s l):
 ∃f,s.len=f.length/\fX a s.D s.off f.flatten/\gE b R f l:=by
 let⟨e,k⟩:=r.choose
 have w:∀(c:Nat)(cs:List Ce),((List.range l.length).map e)[c]? =some cs->c<l.length/\cs=e c:=λc cs d=>by
  simp only[cU,jH]at d;let⟨E,o,B⟩:=d;let⟨t,u⟩:=List.getElem?_eq_some_iff.1 o;simp at t u;subst u;exact⟨t,B.symm⟩
 have m:∀cs∈(List.range l.length).map e,cs.length=b:=λcs D=>by
  let⟨c,d⟩:=List.mem_iff_getElem?.1 D;obtain⟨o,rfl⟩:=w c cs d;let⟨x,h⟩:=dZ o;exact z _ _ (k c x h).1
 refine⟨(List.range l.length).map e,by simp[r.len],λi A q=>?_,aJ,m,λc cs x d h=>?_⟩
 .rcases j9 b with n|n
  .have g:=az q
   rw[cg m,n]at g;simp at g
  have g:=az q
  rw[cg m]at g
  simp at g
  have d:i/b<l.length:=Nat.div_lt_of_lt_mul (by rw[Nat.mul_comm];exact g)
  let⟨x,h⟩:=dZ d
  have y:i=i/b*b+i%b:=by rw[Nat.mul_comm];exact(Nat.div_add_mod i b).symm
  have H:=Nat.mod_lt i n
  have G:(e (i/b)).length=b:=z _ _ (k _ x h).1
  let⟨F,v⟩:=cK (e (i/b)) (i%b)
  have p:=fV (d:=(List.range l.length).map e) m (b:=i/b) (a:=e (i/b)) (by simp[d]) v
  rw[<-y,q]at p
  simp at p;subst p
  have C:=(k _ x h).2 _ A v
  rw[y,<-dk];exact C
 .obtain⟨_,rfl⟩:=w c cs d
  exact(k c x h).1
def Gr.all{α:Type}{j:Nat}{R:E->List Ce->α->Prop}{l i:List α}(k:oJ g.length R)(v:0<g.length)
 (h:Gr S d a b g.length R s l)(t:Fz X d a)(p:eR (bO (s.D::S) a) g.length (R (bO (s.D::S) a)) x i)(q:(l.length+i.length)*j<=140737488355328)
 (u:∀r c,Gr S d c b g.length R r (l++i)->Fz X d c->(a.size<=c.size/\(r.D=s.D\/a.size<=r.D))->(∀e,e<a.size->e≠s.D->c[e]? =a[e]?)->K r c):jN a b g j s x K:=by
 let⟨f,m,n,o⟩:=p.Wn λ_ _ h=>k.len h
 exact Gr.next k v h t m ((bF _ _).iF n) o q u
def Gr.lit{α:Type}{e:Nat}{R:E->List Ce->α->Prop}{l:List α}(j:oJ e R)(i:d.size<=a.size)(p:∀g∈S,g<d.size)(k:cs=f.flatten)(m:n=f.length)(h:gE e (R (bO S a)) f l):
 Gr S d (a.push (.cells (bA cs) b)) b e R (.mk a.size 0 n n) l:=by
 subst k m
 refine⟨aJ,f,(gY.new (J.aA a) b e f.flatten f.length (cg h.size)).cv i,h.mono λo x=>j.le ?_⟩
 exact(J.push a _).bO λg c=>by
  rcases List.mem_cons.1 c with c|c
  .exact Or.inr (by simp[c])
  .exact Or.inl c
def Gr.nR{α:Type}{c:Nat}{R:E->List Ce->α->Prop}{l:List α}(m:oJ c R)(h:Gr S d a b c R s l)(n:s.D∉S)(q:0<c)(p:l.length<=9223372036854775807):eR (bO S a) c (R (bO S a)) s l:=by
 obtain⟨_,f,e,g⟩:=h;have H:=eR.gK e (g.mono λcs x=>m.le (jT a λj i=>ai s.D i)) q p;exact⟨H.len,H.cap,H.iB,λk x o=>let⟨cs,i,j⟩:=H.iF k x o;⟨cs,i,OD n j⟩⟩
def Gr.ne{α:Type}{p:Nat}{R:E->List Ce->α->Prop}{o:List α}(k:Gr S d a b p R s o)(g:cx a h tb i)(n:tb≠b):s.D≠h:=by
 let⟨l,f,m,w⟩:=k;let⟨q,r,tail,j,t,c,u,v⟩:=m.aG.resolve_left l;intro e;rw[j]at e;simp only[O.jC]at e;subst e;unfold cx at g c;rw[g]at c;simp at c;exact n c.2
def Gr.Lm{α β:Type}{q:E}{r c t:Nat}{R:E->List Ce->α->Prop}{g:E->List Ce->β->Prop}{e:O}{o:List α}{p:List β}(j:Gr S d a b r R s o)(k:Gr S' q a c t g e p)(n:c≠b):s.D≠e.D:=by
 let⟨l,f,m,z⟩:=k;let⟨u,v,tail,h,w,i,x,y⟩:=m.aG.resolve_left l;have:=j.ne i n;rw[h];exact this
def Gr.box{α:Type}{L:List Nat}{j y:Nat}{R:E->List Ce->α->Prop}{u:List α}{w:α}{K:E->Prop}(B:oJ g.length R)(U:0<g.length)
 (o:Gr S d a b g.length R s u)(C:Fz X d a)(P:R (bO (s.D::S) a) cs w)(k:(u.length+1)*y<=140737488355328)
 (p:cx a h tb i)(hi:j<i.length)(G:tb≠b)(t:d.size<=h/\h∈S)(A:∀e∈L,e<a.size/\e≠h/\e≠s.D)
 (Q:∀r c,Gr S d c b g.length R r (u++[w])->cx c h tb (js i j [.s r])->Fz X d c->a.size<=c.size->(∀e,e<a.size->e≠s.D->e≠h->c[e]? =a[e]?)->K c):
 af (a.push (.cells (bA cs) b)) h j=af a h j/\
 jN (a.push (.cells (bA cs) b)) b g y s (.mk a.size 0 1 1) λr c=>dY L (a.push (.cells (bA cs) b)) c/\eC c h j 1/\(dY L c (ag c h j [.s r])/\K (ag c h j [.s r])):=by
 have D:=p.lt
 have H:=J.push a (.cells (bA cs) b)
 have hy:=o.bh
 refine⟨aL (H.same h D) j,Gr.kM B U o C P k λr c z I W v=>?_⟩
 have q:cx c h tb i:=p.congr (v h D (kJ (o.ne p G)))
 have T:=z.ne q G
 have n:∀e,e≠h->(ag c h j [.s r])[e]? =c[e]? :=λe k=>bo _ _ _ _ k
 have Z:=C.size
 have Y:=t.1
 refine⟨λe k=>?_,q.eC V,λe k=>n e (A e k).2.1,Q r _ ?_ (cx.ag (m:=c) q) (I.ag (Or.inr t.1) _ _) (by rw[aw];exact W.1) λe l N O=>(n e O).trans (v e l N)⟩
 .have l:=A e k
  rw[v e l.1 l.2.2,H.same e l.1]
 .let⟨M,f,g1,g2⟩:=z
  refine⟨M,f,g1.congr (n _ T),g2.mono λcs x=>B.le ?_⟩
  exact pQ λe k F=>⟨F,n e λb=>F (by rw[b];exact ai _ t.2)⟩
def aq.lit(b:Nat)(l:List Int)(d:∀c∈S,c<a.size)(c:cs=l.map Ce.i)(f:n=l.length)(e:l.length<=9223372036854775807):aq (bO S (a.push (.cells (bA cs) b))) (.mk a.size 0 n n) l:=by
 subst c f;have h:=gY.new (J.aA a) b 1 (l.map Ce.i) l.length aJ;exact aq.Rg d h e
end Go.Vc
end
section
namespace Go.Vc
variable{x y:Operand}{k:SV->Prop}{l h:List Ce}{f:Int->Prop}{r:List Sh}{a:Int}{g:Array (Nat×Operand)}{e:List Oper}{Q:Exit->Fr->E->Prop}{c:Code}
section
variable{P:Program}{T:TT}{G:List Nat}{n:Nat}{A:Pg}{m q:E}{p u:Fr}{b o j i t:Nat}{s:Sh}{d:Option Nat}{v:Value}
def nc(n:Nat):Int:=n
def nce{n:Nat}:nc n=n:=rfl
def V0:TH T p .len [t] [x] k=match fK T t,ev p x with
 |some ⟨.slice _,_,_⟩,.c (.s s)=>k (.c (.i (nc s.len)))
 |_,_=>False:=rfl
def V1{l:List Nat}:TH T p .max l [x,y] k=match ev p x,ev p y with
 | .c (.i a),.c (.i b)=>k (.c (.i (if b>a then b else a)))
 |_,_=>False:=rfl
def V2{l:List Nat}:TH T p .min l [x,y] k=match ev p x,ev p y with
 | .c (.i a),.c (.i b)=>k (.c (.i (if b<a then b else a)))
 |_,_=>False:=rfl
def Sc(m:E)(k:E->Prop):OJ m k=(let q:=m;k q):=rfl
def pa{α:Type}(x:α)(f:α->Prop):Prop:=f x
def Th(s:Sh)(f:s.ty->Prop):Prop:=∃x,f x
def U8(s:Sh)(f:s.ty->Prop):Prop:=∀x,f x
def exI:Th .I f=∃x,pa x f:=rfl
def exU{k:IntKind}:Th (.U k) f=∃x,pa x f:=rfl
def exB{f:Bool->Prop}:Th .T f=∃x,pa x f:=rfl
def YN{f:O->Prop}:Th .S f=∃x,pa x f:=rfl
def exP{f:Nat×Nat->Prop}:Th .P f=∃x,pa x f:=rfl
def exF{f:Fn×Array Value×Array Value->Prop}:Th .F f=∃x,pa x f:=rfl
def exM{f:Nat->Prop}:Th .M f=∃x,pa x f:=rfl
def alI:U8 .I f=∀x,f x:=rfl
def alU{k:IntKind}:U8 (.U k) f=∀x,f x:=rfl
def alB{f:Bool->Prop}:U8 .T f=∀x,f x:=rfl
def Yx{f:O->Prop}:U8 .S f=∀x,f x:=rfl
def alP{f:Nat×Nat->Prop}:U8 .P f=∀x,f x:=rfl
def alF{f:Fn×Array Value×Array Value->Prop}:U8 .F f=∀x,f x:=rfl
def alM{f:Nat->Prop}:U8 .M f=∀x,f x:=rfl
def cU8{x:Int}:kN (.int .u8 x)=some (.u .u8 x):=rfl
def z0:nF h 0=[]:=rfl
def z1:nF h (n+1)=h++nF h n:=rfl
def tb{a b:Nat}:Nat.testBit a b=(1&&&(a>>>b)!=0):=rfl
def VV{e:Edge}{a:List Edge}:lF (e::a)=bif Region.binds .any e then 2^e.on|||lF a else lF a:=rfl
def b1:Region.binds .any ⟨i,.data⟩=true:=rfl
def b2:Region.binds .any ⟨i,.chain⟩=true:=rfl
def b3:Region.binds .any ⟨i,.guard⟩=true:=rfl
def b4:Region.binds .any ⟨i,.phase⟩=true:=rfl
def b5{x:Departure}:Region.binds .any ⟨i,.gcOnly x⟩=false:=rfl
def b6{x:Departure}:Region.binds .any ⟨i,.textOnly x⟩=false:=rfl
def R8(c:Ce)(k:List Ce->Prop)(l:List Ce):Prop:=k (c::l)
def Vo(k:SV->Prop)(l:List Ce):Prop:=k (.agg l)
def kld(m:E)(b o j:Nat)(s:Sh)(r:List Sh)(k:List Ce->Prop)(x:s.ty):Prop:=
 af m b (bif j==0 then o else o+j)=some (s.mk x).v/\Wg m b o (j+1) r (R8 (s.mk x) k)
def YI{k:List Ce->Prop}:Wg m b o j (s::r) k=Th s (kld m b o j s r k):=by
 cases j<;>rfl
def klc(m:E)(b o:Nat)(s:Sh)(k:SV->Prop)(x:s.ty):Prop:=af m b o=some (s.mk x).v/\k (.c (s.mk x))
def TY{t:Nat}:P4 T m t b o k=match fK T t with
 |some ⟨.struct _,a,_⟩=>Wg m b o 0 a (Vo k)
 |some ⟨.cell,[s],_⟩=>Th s (klc m b o s k)
 |some ⟨.slice _,[_],_⟩=>∃x:O,af m b o=some x.v/\k (.c (.s x))
 |_=>False:=rfl
def ile{b:Int}:Int.le a b=(a<=b):=rfl
def khi(s:O)(z:Nat)(l:Int)(k:SV->Prop)(h:Int):Prop:=Int.le 0 l/\Int.le l h/\Int.le h (nc s.cap)/\k (.c (.s (s.cut l.toNat h.toNat z)))
def klo(p:Fr)(a:Option Operand)(s:O)(z:Nat)(k:SV->Prop)(l:Int):Prop:=MS p a (nc s.len) (khi s z l k)
def YG{f:Nat}{mk:Nat->SV}:FH T t f o mk k=match fK T t with
 |some ⟨.struct c,_,_⟩=>match HO c f with
  |some (a,u)=>match fK T u with
   |some b=>bif b.uN||Nat.beq b.sh.length 0 then False else bif a==0 then k (mk o)else k (mk (o+a))
   |none=>False
  |none=>False
 |_=>False:=by
 have h:∀a,(bif a==0 then k (mk o)else k (mk (o+a)))=k (mk (o+a)):=λa=>by cases a<;>rfl
 simp only[h];rfl
def VZ{s:O}{n:Int}:Xz T t s n k=match fK T t with
 |some ⟨.slice e,_,_⟩=>match fK T e with
  |some a=>bif a.uN then False else Int.le 0 n/\n<nc s.len/\k (.c (.p s.D (s.off+n.toNat*a.sh.length)))
  |none=>False
 |_=>False:=rfl
def RU{s:O}{b a:Option Operand}:Rq T p t s b a k=match fK T t with
 |some ⟨.slice e,_,_⟩=>match fK T e with
  |some c=>bif c.uN then False else MS p b 0 (klo p a s c.sh.length k)
  |none=>False
 |_=>False:=rfl
def RQ:rd T p m k (.build t g)=match fK T t with
 |some ⟨.struct a,b,_⟩=>bif vu T a then FA T p a (b.map Sh.zero) g.toList (Vo k)else False
 |_=>False:=rfl
def kxc(s:Sh)(r:List Sh)(k:List Ce->Prop)(x:s.ty):Prop:=US r (R8 (s.mk x) k)
def VX{k:List Ce->Prop}:US (s::r) k=Th s (kxc s r k):=rfl
def YU(a:AV)(k:List AV->Prop)(l:List AV):Prop:=k (a::l)
def kxt(T:TT)(r:List Nat)(k:List AV->Prop)(l:List Ce):Prop:=SF T r (YU (.agg l) k)
def kxs(T:TT)(s:Sh)(r:List Nat)(k:List AV->Prop)(x:s.ty):Prop:=SF T r (YU (.c (s.mk x)) k)
def VY{r:List Nat}{k:List AV->Prop}:SF T (t::r) k=match fK T t with
 |some ⟨.struct _,a,_⟩=>US a (kxt T r k)
 |some ⟨.cell,[s],_⟩=>Th s (kxs T s r k)
 |some ⟨.slice _,[_],_⟩=>∃x:O,SF T r (YU (.c (.s x)) k)
 |_=>False:=rfl
def krt(v:Value)(k:SV->Prop)(l:List AV):Prop:=v=.tuple (l.map AV.v).toArray/\k (.XN l)
def krs(v:Value)(k:SV->Prop)(l:List Ce):Prop:=v=.agg (l.map Ce.v).toArray/\k (.agg l)
def krc(v:Value)(s:Sh)(k:SV->Prop)(x:s.ty):Prop:=v=(s.mk x).v/\k (.c (s.mk x))
def V8:Qf T t v k=match fK T t with
 |some ⟨.tuple [],_,_⟩=>k .fZ
 |some ⟨.tuple a,_,_⟩=>SF T a (krt v k)
 |some ⟨.struct _,a,_⟩=>US a (krs v k)
 |some ⟨.cell,[s],_⟩=>Th s (krc v s k)
 |some ⟨.slice _,[_],_⟩=>∃x:O,v=x.v/\k (.c (.s x))
 |_=>False:=rfl
def Vp(k:Fr->SV->E->Prop)(p:Fr)(m:E)(x:SV):Prop:=k p x m
def inG(G:List Nat)(g:Nat):Prop:=G.elem g=true
def YS{G:List Nat}{g:Nat}:inG G g=(G.elem g=true):=rfl
def nz(b:Int):Prop:=b≠0
def nze{b:Int}:nz b=(b≠0):=rfl
def V5{b:Int}:sg .quo a b k=(nz b/\k (.c (.i (cR (a.tdiv b))))):=rfl
def V7{b:Int}:sg .rem a b k=(nz b/\k (.c (.i (a.tmod b)))):=rfl
def TV{c:Nat}{f:Operand}{a:List Operand}{k:Fr->SV->E->Prop}:TM P T G n p m c f a k=match T9 p (a.map (ev p))with
 |none=>False
 |some u=>match ev p f with
  | .c (.fn (.func g) first b)=>bif G.elem g&&a.all (λx=>(ev p x).jJ)then
   aM P g (first.toList++(a.map λx=>(ev p x).v)++b.toList) m λv q=>Ao (MB n u []) m q (Qf T c v (Vp k u q))
   else False
  | .c (.fv b)=>bif a.all (λx=>(ev p x).jJ)then
   ∃g,b.1=.func g/\inG G g/\aM P g (b.2.1.toList++(a.map λx=>(ev p x).v)++b.2.2.toList) m λv q=>Ao (MB n u []) m q (Qf T c v (Vp k u q))
   else False
  |_=>False:=rfl
def p3(m:E)(k:Fr->SV->E->Prop)(p:Fr)(x:SV):Prop:=k p x m
def p2(m:E)(k:SV->E->Prop)(x:SV):Prop:=k x m
def T0{k:Fr->SV->E->Prop}:SK n p none m t l k=OJ (m.push (.cells (bA l) t)) λq=>p3 q k p (.c (.p m.size 0)):=rfl
def T4{j:Nat}{k:Fr->SV->E->Prop}:SK n p (some j) m t l k=match gZ p (n+j)with
 | .zJ _ _ _=>False
 |_=>OJ (m.push (.cells (bA l) t)) λq=>p3 q k ((n+j,.box m.size t l)::p) (.c (.bp (n+j) m.size 0)):=rfl
def YL{x:SV}{k:Fr->SV->E->Prop}:O8 n p m x l k=match x with
 | .c (.p b o)=>eC m b o l.length/\OJ (ag m b o l) λq=>Ao (MB n p []) m q (k p .un q)
 | .c (.bp d b o)=>match gZ p d with
  | .box a e c=>bif Nat.ble (o+l.length) c.length then rZ a b (OJ (ag m b o l) λq=>p3 q k ((d,.box a e (js c o l))::p) .un)else False
  | .zJ _ _ _=>False
  |_=>eC m b o l.length/\OJ (ag m b o l) λq=>Ao (MB n p []) m q (k p .un q)
 |_=>False:=rfl
def YK{b:Nat}{k:Fr->SV->E->Prop}:wr P T G n p m d b k (.makeSlice t x y)=match fK T t,ev p x,ev p y with
 |some ⟨.slice e,_,_⟩,.c (.i l),.c (.i c)=>match fK T e with
  |some a=>bif a.uN then False else Int.le 0 l/\Int.le l c/\Int.le (nc a.bytes*c) 281474976710656/\Int.le c 9223372036854775807/\
   OJ (m.push (.cells (bA (nF (a.sh.map Sh.zero) c.toNat)) e)) λq=>p3 q k p (.c (.s (.mk m.size 0 l.toNat c.toNat)))
  |none=>False
 |_,_,_=>False:=rfl
def YJ{a:Nat}{k:Fr->SV->E->Prop}:wr P T G n p m d a k (.makeMap t none)=OJ (m.push (.map #[] 0)) λq=>p3 q k p (.c (.mp m.size)):=rfl
def VW{z:Nat}{s x:O}{k:SV->E->Prop}:Xu m z s x k=∃a:List Ce,a.length=Nat.min x.len s.len*z/\fX m x.D x.off a/\eC m s.D s.off a.length/\
 OJ (ag m s.D s.off a) λq=>p2 q k (.c (.i (nc (Nat.min x.len s.len)))):=rfl
def kbs(p:Fr)(m:E)(e a:Nat)(k:Fr->SV->E->Prop)(l:List Ce):Prop:=match FF p l with
 |some u=>OJ (m.push (.cells (bA l) e)) λq=>p3 q k u (.c (.s (.mk m.size 0 a a)))
 |none=>False
def YF{c a:Nat}{k:Fr->SV->E->Prop}:wr P T G n p m d c k (.buildSlice t a g)=match fK T t with
 |some ⟨.slice e,_,_⟩=>match fK T e with
  |some b=>bif b.uN||!(Nat.ble (a*b.sh.length) 16777216)then False else
   xC T p b.sh.length (nF (b.sh.map Sh.zero) a) g.toList (kbs p m e a k)
  |none=>False
 |_=>False:=rfl
def kcp(n:Nat)(p:Fr)(m:E)(k:Fr->SV->E->Prop)(x:SV)(q:E):Prop:=Ao (MB n p []) m q (k p x q)
def TW{b:Nat}{u:Nat}{c:List Nat}{k:Fr->SV->E->Prop}:wr P T G n p m d b k (.call ⟨.builtin .copy,⟨[x,y]⟩,⟨u::c⟩⟩)=match fK T u,ev p x,ev p y with
 |some ⟨.slice e,_,_⟩,.c (.s s),.c (.s z)=>match fK T e with
  |some a=>bif a.uN then False else Xu m a.sh.length s z (kcp n p m k)
  |none=>False
 |_,_,_=>False:=rfl
def kw(P:Program)(T:TT)(G:List Nat)(n:Nat)(e:List Oper)(d:Option Nat)(kj:List Oper)(k:Fr->E->Prop)(p:Fr)(x:SV)(m:E):Prop:=sN P T G n e kj (uo p d x) m k
def kr(P:Program)(T:TT)(G:List Nat)(n:Nat)(e:List Oper)(d:Option Nat)(kj:List Oper)(k:Fr->E->Prop)(p:Fr)(m:E)(x:SV):Prop:=sN P T G n e kj (uo p d x) m k
def ky(P:Program)(T:TT)(G:List Nat)(n:Nat)(e:List Oper)(o:Oper)(kj:List Oper)(k:Fr->E->Prop)(m:E)(p:Fr):Prop:=
 bif Lc o.op then wr P T G n p m o.dst o.type (kw P T G n e o.dst kj k) o.op else rd T p m (kr P T G n e o.dst kj k p m) o.op
def kn(P:Program)(T:TT)(G:List Nat)(n:Nat)(e:List Oper)(d:Option Nat)(kj:List Oper)(k:Fr->E->Prop)(m:E)(p:Fr):Prop:=sN P T G n e kj (uo p d .un) m k
def V3{o:Oper}{kj:List Oper}{k:Fr->E->Prop}:sN P T G n e (o::kj) p m k=
 bif sI n o.dst then gd e p o.guard (ky P T G n e o kj k m) (kn P T G n e o.dst kj k m)else False:=rfl
abbrev LL:=List (Nat×List (Nat×Nat))
def dr1(P:Program)(T:TT)(G:List Nat)(n:Nat)(e:List Oper)(c a:List Nat)(b done:Nat)(o:Oper)(i:Nat)(m:E)(L:LL)(k:Fr->E->Prop)(p:Fr)(x:SV):Prop:=
 oW P T G n e c a b (done|||2^i) (uo p o.dst x) m ((i,Ti T p o.op)::L) k
def dry(P:Program)(T:TT)(G:List Nat)(n:Nat)(e:List Oper)(c a:List Nat)(b done:Nat)(o:Oper)(i:Nat)(m:E)(L:LL)(k:Fr->E->Prop)(p:Fr):Prop:=
 rd T p m (dr1 P T G n e c a b done o i m L k p) o.op
def ZH(P:Program)(T:TT)(G:List Nat)(n:Nat)(e:List Oper)(c a:List Nat)(b done:Nat)(o:Oper)(i:Nat)(m:E)(L:LL)(k:Fr->E->Prop)(p:Fr):Prop:=
 oW P T G n e c a b (done|||2^i) (uo p o.dst .un) m L k
def dr2(P:Program)(T:TT)(G:List Nat)(n:Nat)(e:List Oper)(c a:List Nat)(b done:Nat)(o:Oper)(i:Nat)(m:E)(L:LL)(k:Fr->E->Prop)(p:Fr)(x:SV)(q:E):Prop:=
 DA (ur a i) m q L (oW P T G n e c a b (done|||2^i) (uo p o.dst x) q L k)
def dwy(P:Program)(T:TT)(G:List Nat)(n:Nat)(e:List Oper)(c a:List Nat)(b done:Nat)(o:Oper)(i:Nat)(m:E)(L:LL)(k:Fr->E->Prop)(p:Fr):Prop:=
 wr P T G n p m o.dst o.type (dr2 P T G n e c a b done o i m L k) o.op
def dra(P:Program)(T:TT)(G:List Nat)(n:Nat)(e:List Oper)(c a:List Nat)(b done:Nat)(m:E)(L:LL)(k:Fr->E->Prop)(p:Fr)(i:Nat):Prop:=match HO e i with
 |some o=>bif sI n o.dst then gd e p o.guard (dwy P T G n e c a b done o i m L k) (ZH P T G n e c a b done o i m L k)else False
 |none=>False
def TX{a b:List Nat}{c done:Nat}{L:LL}{k:Fr->E->Prop}:oW P T G n e a b (c+1) done p m L k=match xp done 0 e a with
 |some i=>match HO e i with
  |some o=>bif sI n o.dst then gd e p o.guard (dry P T G n e a b c done o i m L k) (ZH P T G n e a b c done o i m L k)else False
  |none=>False
 |none=>match pW done 0 e a with
  |[]=>k p m
  |d=>Ol d (dra P T G n e a b c done m L k p):=rfl
def TS{f:Nat->Prop}:Ol [i] f=f i:=rfl
def TU{r:List Nat}{f:Nat->Prop}:Ol (i::j::r) f=(f i/\Ol (j::r) f):=rfl
def kq(Q:Exit->Fr->E->Prop)(p:Fr)(m:E):Prop:=Q .normal p m
def V6{e:Array Oper}{a:Bool}:vc P T G n A (.region i e a) p m Q=
 bif a then oW P T G n e.toList (Vw e.toList) (TJ [] e.toList) e.toList.length 0 p m [] (kq Q)
 else sN P T G n e.toList e.toList p m (kq Q):=rfl
def kal(t:Nat)(s:Sh)(r:List (Nat×Sh))(I:s.ty->Hr r)(p:Fr)(k:Fr->(E->Prop)->Prop)(x:s.ty):Prop:=Pw r (I x) ((t,.c (s.mk x))::p) k
def VT{r:List (Nat×Sh)}{I:s.ty->Hr r}{k:Fr->(E->Prop)->Prop}:Pw ((t,s)::r) I p k=U8 s (kal t s r I p k):=rfl
def kam(t:Nat)(s:Sh)(r:List (Nat×Sh))(I:s.ty->Hr r)(μ:s.ty->Og r)(p:Fr)(k:Fr->(E->Prop)->(E->Nat)->Prop)(x:s.ty):Prop:=Px r (I x) (μ x) ((t,.c (s.mk x))::p) k
def VU{r:List (Nat×Sh)}{I:s.ty->Hr r}{μ:s.ty->Og r}{k:Fr->(E->Prop)->(E->Nat)->Prop}:Px ((t,s)::r) I μ p k=U8 s (kam t s r I μ p k):=rfl
def ks(P:Program)(T:TT)(G:List Nat)(n:Nat)(A:Pg)(b:Code)(Q:Exit->Fr->E->Prop):Exit->Fr->E->Prop
 | .normal,u,q=>vc P T G n A b u q Q
 |e,u,q=>Q e u q
def kc(A:Pg)(b:Code)(p:Fr)(l:List (Nat×Sh))(K:Hr l)(Q:Exit->Fr->E->Prop):Exit->Fr->E->Prop
 | .normal,u,q=>UR p u (lE A b) (Ht l K u q)
 |e,u,q=>Q e u q
def ki(P:Program)(T:TT)(G:List Nat)(n:Nat)(A:Pg)(b:Code)(Q:Exit->Fr->E->Prop)(u:Fr)(a:E->Prop):Prop:=∀q,a q->vc P T G n A b u q Q
def V9{a b:Code}:vc P T G n A (.seq a b) p m Q=match Wh A.Vl b with
 |none=>vc P T G n A a p m (ks P T G n A b Q)
 |some l=>bif p7 (oR a) l then∃K:Hr l,vc P T G n A a p m (kc A b p l K Q)/\
  Pw l K (nL (oR a) (uH n (lE A b) p)) (ki P T G n A b Q)else False:=by
 unfold ks kc ki;rfl
def kb(i:Nat)(Q:Exit->Fr->E->Prop):Exit->Fr->E->Prop
 | .exit j,u,q=>bif Nat.beq j i then Q .normal u q else Q (.exit j) u q
 |e,u,q=>Q e u q
def RP:vc P T G n A (.block i c) p m Q=vc P T G n A c p m (kb i Q):=by
 unfold kb;rfl
def ke(A:Pg)(c:Code)(p:Fr)(l:List (Nat×Sh))(I:Hr l)(μ:Og l)(N:Nat)(Q:Exit->Fr->E->Prop):Exit->Fr->E->Prop
 | .normal,a,b=>UR p a (lE A c) (On l I μ a b N)
 |e,a,b=>Q e a b
def kl(P:Program)(T:TT)(G:List Nat)(n:Nat)(A:Pg)(c:Code)(p:Fr)(l:List (Nat×Sh))(I:Hr l)(μ:Og l)(Q:Exit->Fr->E->Prop)(u:Fr)(a:E->Prop)(μ':E->Nat):Prop:=
 ∀q,a q->vc P T G n A c u q (ke A c p l I μ (μ' q) Q)
def TZ:vc P T G n A (.loop c) p m Q=match Wh A.Ug c with
 |none=>False
 |some l=>bif p7 (oR c) l then∃(I:Hr l)(μ:Og l),Ht l I p m/\
  Px l I μ (nL (oR c) (uH n (lE A c) p)) (kl P T G n A c p l I μ Q)else False:=by
 unfold kl ke;rfl
def kR(m:E)(R:Value->E->Prop)(l:List SV):Prop:=match l with
 |[x]=>R x.v m
 |l=>R (.tuple (l.map SV.v).toArray) m
def kx(x:SV)(k:List SV->Prop)(l:List SV):Prop:=k (x::l)
def kz(T:TT)(p:Fr)(m:E)(r:List ResultVar)(k:List SV->Prop)(x:SV):Prop:=bif x.jJ then Gl T p m r (kx x k)else False
def RS{r:List ResultVar}{k:List SV->Prop}:Gl T p m (.tmp t::r) k=bif (gZ p t).jJ then Gl T p m r (kx (gZ p t) k)else False:=rfl
def RT{a:Nat}{r:List ResultVar}{k:List SV->Prop}:Gl T p m (.cell a t::r) k=rd T p m (kz T p m r k) (.load t (.tmp a)):=rfl
def kf(T:TT)(a:List ResultVar)(R:Value->E->Prop):Exit->Fr->E->Prop
 | .normal,p,m=>Gl T p m a (kR m R)
 | .ret,p,m=>Gl T p m a (kR m R)
 |_,_,_=>False
def YH{b:List ResultVar}{a:List SV}{R:Value->E->Prop}:Td P T G A n b c a m R=vc P T G n A c (uG 0 a) m (kf T b R):=by
 unfold kf kR;rfl
end
def Tg(_:Prop):Type:=Prop
def Tg.p{q:Prop}(t:Tg q):Prop:=t
def Tg.lf(q:Prop):Tg q:=q
def Tg.pm{a b:Prop}{h:Tg a=Tg b}:Tg.p (Eq.mpr h (Tg.lf b))=b:=rfl
def rg1:List.range 1=[0]:=rfl
def rg2:List.range 2=[0,1]:=rfl
def rg3:List.range 3=[0,1,2]:=rfl
def rg4:List.range 4=[0,1,2,3]:=rfl
def rg5:List.range 5=[0,1,2,3,4]:=rfl
def rg6:List.range 6=[0,1,2,3,4,5]:=rfl
def rg7:List.range 7=[0,1,2,3,4,5,6]:=rfl
def Tg.pm2{a b c:Prop}{h:Tg a=Tg b}{d:Tg b=Tg c}:Tg.p (Eq.mpr h (Eq.mpr d (Tg.lf c)))=c:=rfl
def Wi(_ _:Prop):Type:=Unit
def mkT{a X:Prop}(_:Wi a X)(t:Tg a)(_:t.p=X):True:=trivial
end Go.Vc
end
namespace Go.Proofs.YtkoifinbblcbiaaGreat
open Go.Vc
section
noncomputable abbrev cq:=Tryz.prog
def VQ:TT:=[(0,⟨.tuple [],[],0⟩),
 (3,⟨.cell,[.I],8⟩),
 (4,⟨.cell,[.T],1⟩),
 (5,⟨.cell,[(.U .u8)],1⟩),
 (22,⟨.slice 5,[.S],24⟩),
 (23,⟨.slice 90,[.S],24⟩),
 (24,⟨.slice 43,[.S],24⟩),
 (26,⟨.struct [(0,23),(1,24)],[.S,.S],48⟩),
 (27,⟨.slice 3,[.S],24⟩),
 (28,⟨.slice 46,[.S],24⟩),
 (29,⟨.slice 38,[.S],24⟩),
 (31,⟨.struct [(0,3),(1,3),(2,3),(3,3),(4,27),(5,28),(6,29)],[.I,.I,.I,.I,.S,.S,.S],104⟩),
 (32,⟨.tuple [26,31],[],0⟩),
 (34,⟨.tuple [31,4],[],0⟩),
 (38,⟨.struct [(0,3),(1,3),(2,3),(3,27),(4,27),(5,27)],[.I,.I,.I,.S,.S,.S],96⟩),
 (40,⟨.struct [(0,3),(1,3),(2,3),(3,3),(4,27),(5,27)],[.I,.I,.I,.I,.S,.S],80⟩),
 (41,⟨.slice 40,[.S],24⟩),
 (43,⟨.struct [(0,27),(1,27),(2,3),(3,3),(4,41)],[.S,.S,.I,.I,.S],88⟩),
 (46,⟨.struct [(0,3),(1,3),(2,27)],[.I,.I,.S],40⟩),
 (49,⟨.tuple [26,31,3],[],0⟩),
 (54,⟨.tuple [26,3],[],0⟩),
 (57,⟨.struct [(0,3),(1,3),(2,3),(3,3),(4,3),(5,3),(6,3),(7,3)],[.I,.I,.I,.I,.I,.I,.I,.I],64⟩),
 (58,⟨.tuple [57,4],[],0⟩),
 (63,⟨.cell,[.P],8⟩),
 (68,⟨.struct [(0,26),(2,3),(3,31)],[.S,.S,.I,.I,.I,.I,.I,.S,.S,.S],160⟩),
 (69,⟨.cell,[.P],8⟩),
 (71,⟨.struct [(0,26),(2,31)],[.S,.S,.I,.I,.I,.I,.S,.S,.S],152⟩),
 (87,⟨.struct [(0,22),(1,3)],[.S,.I],32⟩),
 (88,⟨.slice 218,[.S],24⟩),
 (90,⟨.struct [(0,3),(1,3),(2,88)],[.I,.I,.S],40⟩),
 (94,⟨.cell,[.P],8⟩),
 (95,⟨.cell,[.P],8⟩),
 (101,⟨.cell,[.F],8⟩),
 (107,⟨.slice 163,[.S],24⟩),
 (109,⟨.struct [(0,23),(1,107)],[.S,.S],48⟩),
 (110,⟨.tuple [109,4],[],0⟩),
 (113,⟨.tuple [27,4],[],0⟩),
 (120,⟨.cell,[.P],8⟩),
 (122,⟨.slice 175,[.S],24⟩),
 (124,⟨.struct [(0,23),(1,122)],[.S,.S],48⟩),
 (127,⟨.cell,[.P],8⟩),
 (129,⟨.struct [(0,3),(1,3),(2,3),(3,3),(4,3),(5,3),(6,3),(7,3)],[.I,.I,.I,.I,.I,.I,.I,.I],64⟩),
 (130,⟨.tuple [3,3],[],0⟩),
 (135,⟨.tuple [27,27],[],0⟩),
 (140,⟨.slice 46,[.S],24⟩),
 (163,⟨.struct [(0,27),(1,27),(2,3)],[.S,.S,.I],56⟩),
 (167,⟨.tuple [3,4],[],0⟩),
 (171,⟨.slice 173,[.S],24⟩),
 (173,⟨.struct [(0,3),(1,3),(2,171)],[.I,.I,.S],40⟩),
 (175,⟨.struct [(0,27),(1,3),(2,173)],[.S,.I,.I,.I,.S],72⟩),
 (181,⟨.slice 205,[.S],24⟩),
 (183,⟨.struct [(0,23),(1,181)],[.S,.S],48⟩),
 (188,⟨.cell,[.F],8⟩),
 (189,⟨.cell,[.P],8⟩),
 (191,⟨.slice 4,[.S],24⟩),
 (201,⟨.slice 226,[.S],24⟩),
 (203,⟨.struct [(0,201),(1,3)],[.S,.I],32⟩),
 (205,⟨.struct [(0,27),(1,27),(2,3),(3,203)],[.S,.S,.I,.S,.I],88⟩),
 (206,⟨.cell,[.P],8⟩),
 (208,⟨.struct [(0,41)],[.S],24⟩),
 (218,⟨.struct [(0,27)],[.S],24⟩),
 (220,⟨.map 3 3,[.M],8⟩),
 (222,⟨.tuple [3,218],[],0⟩),
 (224,⟨.slice 203,[.S],24⟩),
 (226,⟨.struct [(0,3),(1,3),(2,3),(3,27),(4,224)],[.I,.I,.I,.S,.S],72⟩),
 (229,⟨.cell,[.P],8⟩),
 (230,⟨.tuple [229,4],[],0⟩),
 (233,⟨.struct [(0,27),(1,27),(2,27),(3,27),(4,27),(5,27),(6,27)],[.S,.S,.S,.S,.S,.S,.S],168⟩),
 (259,⟨.slice 27,[.S],24⟩),
 (275,⟨.cell,[.P],8⟩),
 (277,⟨.struct [(0,201),(1,3)],[.S,.I],32⟩)]
abbrev Qx:Nat:=22
abbrev di:Nat:=203
abbrev nE:Nat:=46
abbrev pv:Nat:=218
abbrev j7:Nat:=90
abbrev bK:Nat:=173
abbrev cL:Nat:=38
abbrev fw:Nat:=175
abbrev eA:Nat:=26
abbrev db:Nat:=40
abbrev nu:Nat:=183
abbrev jy:Nat:=43
abbrev kL:Nat:=124
abbrev jR:Nat:=205
abbrev jz:Nat:=31
abbrev dj:Nat:=57
abbrev gA:Nat:=226
abbrev eu:Nat:=140
abbrev bg:Nat:=68
abbrev qj:Nat:=163
abbrev mj:Nat:=109
abbrev aD:Nat:=3
abbrev yg:Nat:=27
abbrev wY:Nat:=129
abbrev oH:Nat:=208
abbrev BE:Nat:=233
abbrev lJ:Nat:=277
abbrev bS:Nat:=71
abbrev ql:Nat:=87
abbrev UB:Nat:=5
def Mp:uj cq VQ:=by
 unfold uj;kernel_rfl
def GL:List Nat:=List.range' 3 337
def Ya:U1 cq GL:=by
 unfold U1;kernel_rfl
def Yf:cq.follows .mixedOrders=true:=by kernel_rfl
def nbq(a b:Nat):Nat.beq a b=(a==b):=by rw[Ju];simp
def nbl(a b:Nat):Nat.ble a b=(a -b==0):=by rw[Ju];simp;omega
def nbt(a b:Nat):Nat.blt a b=(a+1 -b==0):=by rw[Ju];simp[Nat.blt];omega
def gel(g:Nat):List.elem g GL=(3 -g==0&&(g -339==0)):=by rw[Ju];simp[GL];omega
section
variable{α β:Type}{a:α}{b:β}
def atl(l:List α):(Array.mk l).toList=l:=rfl
end
section
variable(a b c d e f)
def o1:(Oper.mk a b c d e f).dst=a:=rfl
def o2:(Oper.mk a b c d e f).op=b:=rfl
def o3:(Oper.mk a b c d e f).type=c:=rfl
def o5:(Oper.mk a b c d e f).after=e:=rfl
def o6:(Oper.mk a b c d e f).guard=f:=rfl
end
section
variable(a b c)
def a2:(Pg.mk a b c).Ug=a:=rfl
def a3:(Pg.mk a b c).Vl=b:=rfl
def a4:(Pg.mk a b c).dP=c:=rfl
def t1:(TI.mk a b c).HI=a:=rfl
def t2:(TI.mk a b c).sh=b:=rfl
def t3:(TI.mk a b c).bytes=c:=rfl
def g1:(Edge.mk a b).on=a:=rfl
def g2:(Edge.mk a b).ground=b:=rfl
end
def A0:Pg:=⟨[],[],[]⟩
def cI(x:Int):SV:=.c (.i x)
def cS(x:O):SV:=.c (.s x)
def cP(x:Nat×Nat):SV:=.c (.p x.1 x.2)
instance:Coe Int SV:=⟨cI⟩
instance:Coe O SV:=⟨cS⟩
instance:Coe (Nat×Nat) SV:=⟨cP⟩
instance:Coe Int Ce:=⟨.i⟩
instance:Coe O Ce:=⟨.s⟩
def np(n:Nat){x:TI}(h:fK VQ n=some x:=by cbv):fK VQ n=some x:=h
def tg0:=np 0
def tg3:=np 3
def tg4:=np 4
def tg5:=np 5
def Y5:=np 22
def Y6:=np 23
def Y7:=np 24
def Y8:=np 26
def Y9:=np 27
def Za:=np 28
def Zb:=np 29
def Zc:=np 31
def Zd:=np 32
def Ze:=np 34
def Zf:=np 38
def Zg:=np 40
def Zh:=np 41
def Zi:=np 43
def Zj:=np 46
def Zk:=np 49
def Zl:=np 54
def Zm:=np 57
def Zn:=np 58
def Zo:=np 63
def Zp:=np 68
def Zq:=np 69
def Zr:=np 71
def Zs:=np 87
def Zt:=np 88
def Zu:=np 90
def Zv:=np 94
def Zw:=np 95
def Wp:=np 101
def Wq:=np 107
def Wr:=np 109
def Ws:=np 110
def Wt:=np 113
def Wu:=np 120
def Wv:=np 122
def Ww:=np 124
def Wx:=np 127
def Wy:=np 129
def Wz:=np 130
def WA:=np 135
def WC:=np 140
def WD:=np 163
def WE:=np 167
def WG:=np 171
def WH:=np 173
def WI:=np 175
def WJ:=np 181
def WK:=np 183
def WM:=np 188
def WN:=np 189
def WO:=np 191
def WQ:=np 201
def WR:=np 203
def WT:=np 205
def WU:=np 206
def WV:=np 208
def WW:=np 218
def WY:=np 220
def WZ:=np 222
def W0:=np 224
def W3:=np 226
def W7:=np 229
def Xa:=np 230
def Xb:=np 233
def Xc:=np 259
def Xd:=np 275
def Xe:=np 277
def cY(m:E)(R:Value->E->Prop)(A:Pg)(a:List SV){f:FuncId}{b:Go.Func}{X:Prop}{c:Code}{n:Nat}{e:List ResultVar}{g:List Value}(k:cq.funcs[f]? =some b)
 (d:(b.body,b.ntmps,b.results)=(some c,n,Array.mk e):=by cbv)
 (i:a.all SV.jJ=true:=by kernel_rfl)(l:Nat.ble a.length n=true:=by kernel_rfl)(hd:qG c=true:=by kernel_rfl)
 (o:a.map SV.v=g:=by dsimp only[List.map,cI,cS,cP,SV.v,Ce.v])
 (w:Wi (Td cq VQ GL A n e c a m R) X->True:=by intro w;obtain - :=mkT w (by sym -abstractProof=>simp[gel,A0.eq_1,cI.eq_1,cS.eq_1,cP.eq_1,tg0,tg3,tg4,tg5,Y5,Y6,Y7,Y8,Y9,Za,Zb,Zc,Zd,Ze,Zf,Zg,Zh,Zi,Zj,Zk,Zl,Zm,Zn,Zo,Zp,Zq,Zr,Zs,Zt,Zu,Zv,Zw,Wp,Wq,Wr,Ws,Wt,Wu,Wv,Ww,Wx,Wy,Wz,WA,WC,WD,WE,WG,WH,WI,WJ,WK,WM,WN,WO,WQ,WR,WT,WU,WV,WW,WY,WZ,W0,W3,W7,Xa,Xb,Xc,Xd,Xe,nbq,nbl,nbt,atl,o1,o2,o3,o5,o6,a2,a3,a4,t1,t2,t3,g1,g2,cG,fE,cH,dX,Oa,List.all_nil,aV,eU,List.elem_cons,N3,Bool.false_and,VM,VL,Bool.true_or,NZ,Mw,Bool.and_true,oD,Option.map_none,il,jq,mG,List.flatMap_nil,List.isEmpty_cons,List.isEmpty_nil,List.any_cons,QE,qW,Nl,uG.eq_1,uG.eq_2,vc.eq_1,vc.eq_4,vc.eq_6,vc.eq_7,vc.eq_8,uQ.eq_def,YZ.eq_def,Wm.eq_def,rj.eq_1,rj.eq_2,Lu.eq_def,UR.eq_1,UR.eq_2,uH.eq_1,Di.eq_1,Di.eq_2,lE.eq_1,p7.eq_1,p7.eq_2,oR.eq_def,nL.eq_1,nL.eq_2,Px.eq_1,Pw.eq_1,On.eq_1,On.eq_2,Ht.eq_1,Ht.eq_2,Q4.eq_def,Wh.eq_1,Dn.eq_def,lk.eq_1,lk.eq_2,oW.eq_1,DA.eq_1,DA.eq_2,LH.eq_1,LH.eq_2,pW.eq_def,xp.eq_def,kQ.eq_1,oE.eq_1,oE.eq_2,lF.eq_1,ur.eq_1,ur.eq_2,ur.eq_3,sN.eq_1,zN.eq_1,zN.eq_2,gd.eq_1,gd.eq_2,KZ.eq_1,sI.eq_1,sI.eq_2,Lc.eq_def,wr.eq_1,wr.eq_2,wr.eq_4,wr.eq_6,wr.eq_8,wr.eq_9,wr.eq_10,wr.eq_11,xC.eq_1,xC.eq_2,SF.eq_1,US.eq_1,MB.eq_def,Ao.eq_def,rd.eq_1,rd.eq_2,rd.eq_3,rd.eq_4,rd.eq_5,rd.eq_6,rd.eq_7,rd.eq_8,rd.eq_9,rd.eq_10,rd.eq_11,rd.eq_12,rd.eq_13,rd.eq_15,Ti.eq_def,V0,V1,V2,Nx.eq_1,Hb.eq_1,Hb.eq_2,Oy.eq_1,MS.eq_1,MS.eq_2,vu.eq_1,vu.eq_2,FA.eq_1,FA.eq_2,mr.eq_1,mr.eq_2,mr.eq_3,mr.eq_4,mr.eq_5,SV.cells.eq_def,ZM.eq_def,Vr.eq_def,Vb.eq_def,sg.eq_1,sg.eq_2,sg.eq_3,sg.eq_6,sg.eq_7,sg.eq_8,sg.eq_9,sg.eq_10,sg.eq_11,sg.eq_12,V5,V7,Wg.eq_1,HO.eq_1,HO.eq_2,HO.eq_3,lC.eq_def,SV.jJ.eq_def,TI.uN.eq_1,TI.agg.eq_1,Sh.zero.eq_1,Sh.zero.eq_2,Sh.zero.eq_3,Sh.zero.eq_4,Sh.zero.eq_5,Sh.zero.eq_6,Sh.zero.eq_7,ev.eq_1,ev.eq_2,ev.eq_3,ev.eq_4,FE.eq_def,pP.eq_1,pP.eq_2,kN.eq_1,kN.eq_3,kN.eq_4,kN.eq_5,kN.eq_6,kN.eq_7,uo.eq_1,uo.eq_2,SV.nb.eq_def,gZ.eq_1,gZ.eq_2,AV.sv.eq_1,AV.sv.eq_2,SV.v.eq_1,SV.v.eq_2,SV.v.eq_3,SV.v.eq_4,SV.v.eq_5,SV.v.eq_6,SV.v.eq_7,SV.v.eq_8,SV.v.eq_9,AV.v.eq_1,AV.v.eq_2,Ce.v.eq_1,Ce.v.eq_2,Ce.v.eq_3,Ce.v.eq_4,Ce.v.eq_5,Ce.v.eq_6,Ce.v.eq_7,Ce.v.eq_8,Ce.v.eq_9,Ce.v.eq_10,Ce.v.eq_11,Ce.v.eq_12,Ce.v.eq_13,vr.eq_1,vr.eq_2,T9.eq_1,FF.eq_def,js.eq_1,js.eq_2,Hr.eq_1,Hr.eq_2,Og.eq_1,Og.eq_2,Sh.ty.eq_1,Sh.ty.eq_2,Sh.ty.eq_3,Sh.ty.eq_4,Sh.ty.eq_5,Sh.ty.eq_6,Sh.ty.eq_7,Sh.mk.eq_1,Sh.mk.eq_2,Sh.mk.eq_3,Sh.mk.eq_4,Sh.mk.eq_5,Sh.mk.eq_6,Sh.mk.eq_7,Hv.eq_1,SV.Vg.eq_def,AV.Vg.eq_1,AV.Vg.eq_2,Gl.eq_1,Vw.eq_1,Vw.eq_2,TJ.eq_1,TJ.eq_2,kld.eq_1,klc.eq_1,kxc.eq_1,kxs.eq_1,krc.eq_1,kal.eq_1,kam.eq_1,pa.eq_1,p3.eq_1,p2.eq_1,R8.eq_1,Vo.eq_1,khi.eq_1,klo.eq_1,YU.eq_1,kxt.eq_1,krt.eq_1,krs.eq_1,Vp.eq_1,kbs.eq_1,kcp.eq_1,kw.eq_1,kr.eq_1,ky.eq_1,kn.eq_1,dr1.eq_1,dry.eq_1,ZH.eq_1,dr2.eq_1,dwy.eq_1,dra.eq_1,kq.eq_1,ks.eq_def,kc.eq_def,ki.eq_1,kb.eq_def,ke.eq_def,kl.eq_1,kR.eq_def,kx.eq_1,kz.eq_1,kf.eq_def,Ol.eq_1,YI,TY,RU,RQ,VX,VY,V8,TV,YF,TW,V3,TX,TS,TU,V6,V9,RP,TZ,RS,RT,YH,YG,VT,VU,exI,exU,exB,YN,exP,exF,exM,alI,alU,alB,Yx,alP,alF,alM,cU8,z0,z1,tb,VV,b1,b2,b3,b4,b5,b6,T0,T4,YL,YK,YJ,VW,VZ,rg1,rg2,rg3,rg4,rg5,rg6,rg7,jG];exact Tg.lf _) (by refine Tg.pm.trans ?_;dsimp -zeta+instances only[↓Sc,ile,↓YS,nze,nce,Hr,Og,Sh.ty,Int.cast_ofNat_Int]);trivial)
 (j:X=Td cq VQ GL A n e c a m R:=by kernel_rfl)
 :X->aM cq f g m R:=λh=>by
 subst o
 exact qS Mp Ya Yf k (qu Prod.fst d) (qu (λx=>x.2.1) d) (qu (λx=>x.2.2) d) i (lO l) hd (j▸h)
def aah(m:E)(R:Value->E->Prop)(A:Pg)(a:List SV){f:FuncId}{b:Go.Func}{X:Prop}{c:Code}{n:Nat}{e:List ResultVar}{g:List Value}(k:cq.funcs[f]? =some b)
 (d:(b.body,b.ntmps,b.results)=(some c,n,Array.mk e):=by cbv)
 (i:a.all SV.jJ=true:=by kernel_rfl)(l:Nat.ble a.length n=true:=by kernel_rfl)(hd:qG c=true:=by kernel_rfl)
 (o:a.map SV.v=g:=by dsimp only[List.map,cI,cS,cP,SV.v,Ce.v])
 (w:Wi (Td cq VQ GL A n e c a m R) X->True:=by intro w;obtain - :=mkT w (by sym -abstractProof=>simp[gel,A0.eq_1,cI.eq_1,cS.eq_1,cP.eq_1,tg0,tg3,tg4,tg5,Y5,Y6,Y7,Y8,Y9,Za,Zb,Zc,Zd,Ze,Zf,Zg,Zh,Zi,Zj,Zk,Zl,Zm,Zn,Zo,Zp,Zq,Zr,Zs,Zt,Zu,Zv,Zw,Wp,Wq,Wr,Ws,Wt,Wu,Wv,Ww,Wx,Wy,Wz,WA,WC,WD,WE,WG,WH,WI,WJ,WK,WM,WN,WO,WQ,WR,WT,WU,WV,WW,WY,WZ,W0,W3,W7,Xa,Xb,Xc,Xd,Xe,nbq,nbl,nbt,atl,o1,o2,o3,o5,o6,a2,a3,a4,t1,t2,t3,g1,g2,cG,fE,cH,dX,Oa,List.all_nil,aV,eU,List.elem_cons,N3,Bool.false_and,VM,VL,Bool.true_or,NZ,Mw,Bool.and_true,oD,Option.map_none,il,jq,mG,List.flatMap_nil,List.isEmpty_cons,List.isEmpty_nil,List.any_cons,QE,qW,Nl,uG.eq_1,uG.eq_2,vc.eq_1,vc.eq_4,vc.eq_6,vc.eq_7,vc.eq_8,uQ.eq_def,YZ.eq_def,Wm.eq_def,rj.eq_1,rj.eq_2,Lu.eq_def,UR.eq_1,UR.eq_2,uH.eq_1,Di.eq_1,Di.eq_2,lE.eq_1,p7.eq_1,p7.eq_2,oR.eq_def,nL.eq_1,nL.eq_2,Px.eq_1,Pw.eq_1,On.eq_1,On.eq_2,Ht.eq_1,Ht.eq_2,Q4.eq_def,Wh.eq_1,Dn.eq_def,lk.eq_1,lk.eq_2,oW.eq_1,DA.eq_1,DA.eq_2,pW.eq_def,xp.eq_def,kQ.eq_1,oE.eq_1,oE.eq_2,lF.eq_1,ur.eq_1,ur.eq_2,ur.eq_3,sN.eq_1,zN.eq_1,zN.eq_2,gd.eq_1,gd.eq_2,KZ.eq_1,sI.eq_1,sI.eq_2,Lc.eq_def,wr.eq_1,wr.eq_2,wr.eq_4,wr.eq_6,wr.eq_8,wr.eq_9,wr.eq_10,wr.eq_11,xC.eq_1,xC.eq_2,SF.eq_1,US.eq_1,MB.eq_def,Ao.eq_def,rd.eq_1,rd.eq_2,rd.eq_3,rd.eq_4,rd.eq_5,rd.eq_6,rd.eq_7,rd.eq_8,rd.eq_9,rd.eq_10,rd.eq_11,rd.eq_12,rd.eq_13,rd.eq_15,Ti.eq_def,V0,V1,V2,Nx.eq_1,Hb.eq_1,Hb.eq_2,Oy.eq_1,MS.eq_1,MS.eq_2,vu.eq_1,vu.eq_2,FA.eq_1,FA.eq_2,mr.eq_1,mr.eq_2,mr.eq_3,mr.eq_4,mr.eq_5,SV.cells.eq_def,ZM.eq_def,Vr.eq_def,Vb.eq_def,sg.eq_1,sg.eq_2,sg.eq_3,sg.eq_6,sg.eq_7,sg.eq_8,sg.eq_9,sg.eq_10,sg.eq_11,sg.eq_12,V5,V7,Wg.eq_1,HO.eq_1,HO.eq_2,HO.eq_3,lC.eq_def,SV.jJ.eq_def,TI.uN.eq_1,TI.agg.eq_1,Sh.zero.eq_1,Sh.zero.eq_2,Sh.zero.eq_3,Sh.zero.eq_4,Sh.zero.eq_5,Sh.zero.eq_6,Sh.zero.eq_7,ev.eq_1,ev.eq_2,ev.eq_3,ev.eq_4,FE.eq_def,pP.eq_1,pP.eq_2,kN.eq_1,kN.eq_3,kN.eq_4,kN.eq_5,kN.eq_6,kN.eq_7,uo.eq_1,uo.eq_2,SV.nb.eq_def,gZ.eq_1,gZ.eq_2,AV.sv.eq_1,AV.sv.eq_2,SV.v.eq_1,SV.v.eq_2,SV.v.eq_3,SV.v.eq_4,SV.v.eq_5,SV.v.eq_6,SV.v.eq_7,SV.v.eq_8,SV.v.eq_9,AV.v.eq_1,AV.v.eq_2,Ce.v.eq_1,Ce.v.eq_2,Ce.v.eq_3,Ce.v.eq_4,Ce.v.eq_5,Ce.v.eq_6,Ce.v.eq_7,Ce.v.eq_8,Ce.v.eq_9,Ce.v.eq_10,Ce.v.eq_11,Ce.v.eq_12,Ce.v.eq_13,vr.eq_1,vr.eq_2,T9.eq_1,FF.eq_def,js.eq_1,js.eq_2,Hr.eq_1,Hr.eq_2,Og.eq_1,Og.eq_2,Sh.ty.eq_1,Sh.ty.eq_2,Sh.ty.eq_3,Sh.ty.eq_4,Sh.ty.eq_5,Sh.ty.eq_6,Sh.ty.eq_7,Sh.mk.eq_1,Sh.mk.eq_2,Sh.mk.eq_3,Sh.mk.eq_4,Sh.mk.eq_5,Sh.mk.eq_6,Sh.mk.eq_7,Hv.eq_1,SV.Vg.eq_def,AV.Vg.eq_1,AV.Vg.eq_2,Gl.eq_1,Vw.eq_1,Vw.eq_2,TJ.eq_1,TJ.eq_2,kld.eq_1,klc.eq_1,kxc.eq_1,kxs.eq_1,krc.eq_1,kal.eq_1,kam.eq_1,pa.eq_1,p3.eq_1,p2.eq_1,R8.eq_1,Vo.eq_1,khi.eq_1,klo.eq_1,YU.eq_1,kxt.eq_1,krt.eq_1,krs.eq_1,Vp.eq_1,kbs.eq_1,kcp.eq_1,kw.eq_1,kr.eq_1,ky.eq_1,kn.eq_1,dr1.eq_1,dry.eq_1,ZH.eq_1,dr2.eq_1,dwy.eq_1,dra.eq_1,kq.eq_1,ks.eq_def,kc.eq_def,ki.eq_1,kb.eq_def,ke.eq_def,kl.eq_1,kR.eq_def,kx.eq_1,kz.eq_1,kf.eq_def,Ol.eq_1,YI,TY,RU,RQ,VX,VY,V8,TV,YF,TW,V3,TX,TS,TU,V6,V9,RP,TZ,RS,RT,YH,YG,VT,VU,exI,exU,exB,YN,exP,exF,exM,alI,alU,alB,Yx,alP,alF,alM,cU8,z0,z1,tb,VV,b1,b2,b3,b4,b5,b6,T0,T4,YL,YK,YJ,VW,VZ];simp[cG,fE,jG,LH.eq_1,LH.eq_2,rg1,rg2,rg3,rg4,rg5,rg6,rg7];exact Tg.lf _) (by refine Tg.pm2.trans ?_;dsimp -zeta+instances only[↓Sc,ile,↓YS,nze,nce,Hr,Og,Sh.ty,Int.cast_ofNat_Int]);trivial)
 (j:X=Td cq VQ GL A n e c a m R:=by kernel_rfl)
 :X->aM cq f g m R:=λh=>by
 subst o
 exact qS Mp Ya Yf k (qu Prod.fst d) (qu (λx=>x.2.1) d) (qu (λx=>x.2.2) d) i (lO l) hd (j▸h)
end
section
open Tryz
variable{m:E}{R:Value->E->Prop}
variable{a b c d e f g h p q r u v w x y:O}{i j k l n o s t z A B C D F G H:Int}
def Ci(a:O):=cY m R ⟨[(5,[(9,.I)])],[(4,[(8,.P)])],[(4,[50,48,47]),(5,[50,48,47])]⟩ [.agg [a,b],.agg [i,j,k,l,c,d,e],n] func19
end
section
open Tryz
variable{m:E}{R:Value->E->Prop}
variable{a b c d e f g h p q r u v w x y:O}{i j k l n o s t z A B C D F G H:Int}
def yI(a:O):=cY m R A0 [.agg [a,b],.agg [i,j,k,l,c,d,e]] func21
def xF(a:O):=cY m R A0 [a] func24
def En(a:O):=cY m R A0 [.agg [a,b],i] func26
def yG(a:O):=cY m R A0 [.agg [a,b],i] func28
def A2(a:O):=cY m R A0 [a] func30
def Cm(a:O):=cY m R ⟨[(3,[(3,.I),(8,.I)])],[],[]⟩ [a] func31
def yK(i:Int):=cY m R ⟨[(3,[(20,.I)])],[],[(3,[52,53])]⟩ [.agg [i,j,k,l,a,b,c]] func32
def wh(p:Nat×Nat):=cY m R ⟨[],[(5,[(4,.T)])],[(5,[91])]⟩ [p] func33
def wO(p:Nat×Nat):=cY m R A0 [p] func36
def zi(p:Nat×Nat):=cY m R A0 [p,a] func39
def xT(p:Nat×Nat):=cY m R A0 [p,i] func40
end
section
open Tryz
variable{m:E}{R:Value->E->Prop}
variable{a b c d e f g h p q r u v w x y:O}{i j k l n o s t z A B C D F G H:Int}
def EG(i:Int):=cY m R A0 [i,j,k] func41
def yH(a:O):=cY m R ⟨[(5,[(20,.I)]),(13,[(66,.I)])],[(12,[])],[(5,[82,80]),(12,[85,82,80]),(13,[85,82,80])]⟩ [.agg [a,b]] func43
def yQ(a:O):=cY m R ⟨[(10,[(95,.I)]),(20,[(158,.I)])],[(3,[]),(16,[]),(24,[])],[(3,[191,190]),(10,[191,190]),(16,[197,191,190]),(20,[191,190]),(24,[191,190])]⟩ [.agg [a,b],.agg [i,j,k,l,c,d,e]] func44
def Ac(a:O):=cY m R ⟨[(3,[(3,.I),(8,.I)])],[],[]⟩ [a] func46
def uv(a:O):=cY m R A0 [a] func47
def yP(a:O):=cY m R A0 [.agg [a,b],i] func48
def zV(p:Nat×Nat):=cY m R ⟨[(4,[(31,.I)])],[],[(4,[49])]⟩ [p,.agg [i,j,k,l,a,b,c]] func49
def xw(s:Nat×Nat)(a:Int)(jP:Bool):=cY m R A0 [s,a,.c (.t jP)] func50
def zn(a:O):=cY m R ⟨[(4,[(3,.I)])],[],[(4,[30])]⟩ [.agg [a,b]] func51
def EX(a:O):=cY m R ⟨[(3,[])],[],[(3,[73,71])]⟩ [.agg [a,b],i] func52
def Cs(p:Nat×Nat):=cY m R A0 [p] func53
def tQ(a:O):=cY m R A0 [a] func56
def zY(a:O):=cY m R ⟨[(3,[(10,.I)])],[],[]⟩ [a] func57
def mM(a:O):=cY m R A0 [a] func58
end
section
open Tryz
variable{m:E}{R:Value->E->Prop}
variable{a b c d e f g h p q r u v w x y:O}{i j k l n o s t z A B C D F G H:Int}
def xz(p q:Nat×Nat):=cY m R ⟨[(4,[(28,.I)]),(14,[(65,.I)])],[(13,[])],[(4,[212,211]),(13,[212,211]),(14,[212,211])]⟩ [p,q,.agg [i,j,k,l,a,b]] func59
def yN(p q:Nat×Nat):=cY m R ⟨[(3,[(24,.I)])],[],[(3,[353])]⟩ [p,q,.agg [i,j,k,l,a,b]] func60
def nK(a:O):=cY m R A0 [a] func66
def GD(i:Int):=cY m R A0 [i] func68
def CT(i:Int):=cY m R ⟨[(3,[(6,.I)])],[],[(3,[42])]⟩ [.agg [i,j,k,a,b,c],d] func69
def EZ(a:O):=cY m R ⟨[(4,[(5,.S),(6,.I)])],[(3,[(30,.T)])],[(3,[70,69]),(4,[70,69])]⟩ [.agg [a,b],.agg [i,j,k,l,c,d]] func70
def uA(p:Nat×Nat):=cY m R ⟨[],[(3,[])],[(3,[226,225])]⟩ [p,.agg [i,j,k,a,b,c],.agg [l,n,o,s,d,e],f] func71
def tW(p:Nat×Nat):=cY m R A0 [p,.agg [i,j,k,a,b,c],.agg [l,n,o,s,d,e]] func72
def Ab(a:O):=cY m R ⟨[(5,[(18,.I)])],[],[(5,[43,42])]⟩ [.agg [a,b]] func74
def pS(a:O):=cY m R ⟨[(6,[(88,.I)])],[(5,[])],[(5,[147,146,145,144]),(6,[147,146,145,144])]⟩ [.agg [a,b],.agg [c,d,i,j,e],k,.agg [l,n,o,s,f,g]] func75
def HF(i:Int):=cY m R A0 [i] func76
end
section
open Tryz
variable{m:E}{R:Value->E->Prop}
variable{a b c d e f g h p q r u v w x y:O}{i j k l n o s t z A B C D F G H:Int}
def xy(a:O):=cY m R ⟨[(3,[(26,.I)]),(8,[(37,.I)]),(21,[(12,.S),(73,.I)]),(28,[(12,.S),(13,.I)]),(33,[(12,.S),(127,.I)])],[(17,[])],[(8,[165]),(33,[175])]⟩ [a] func77
def pB(s:O)(f:Fn×Array Value×Array Value):=cY m R A0 [s,.c (.fv f)] func78
def wq(i:Int):=cY m R A0 [i] func79
def yL(a:O):=cY m R ⟨[(7,[(63,.I)])],[],[(7,[97,95,94])]⟩ [.agg [a,b],.agg [i,j,k,c,d,e]] func80
def xt(i:Int):=cY m R ⟨[(2,[(17,.I)])],[(9,[])],[(2,[82]),(9,[82])]⟩ [.agg [i,j,k,a,b,c],d,e,f] func81
def Da(p:Nat×Nat):=cY m R A0 [p] func82
def Co(a:O):=cY m R A0 [.agg [a,b],i,j] func83
def Bv(a:O):=cY m R ⟨[(4,[(3,.I)])],[],[(4,[65])]⟩ [.agg [a,b]] func84
def xW(a:O):=cY m R ⟨[(3,[(4,.I)])],[],[(3,[37,36])]⟩ [.agg [a,b]] func85
def Bu(a:O):=cY m R ⟨[(5,[(6,.I)])],[],[(5,[62,61])]⟩ [.agg [a,b],.agg [c,d,i,j,e]] func86
def zm(a:O):=cY m R A0 [.agg [a,b],i] func87
def vw(p q:Nat×Nat):=cY m R A0 [p,q] func88
def vx(p q:Nat×Nat):=cY m R A0 [p,q,i,j] func89
def AN(p:Nat×Nat):=cY m R A0 [p] func90
def Ay(p:Nat×Nat):=cY m R ⟨[(3,[(6,.I)])],[],[(3,[57,56,55])]⟩ [p,.agg [a,b]] func91
def zk(p:Nat×Nat):=cY m R A0 [p,.agg [a,b],i] func92
def tf(p:Nat×Nat):=cY m R A0 [p,a] func93
def nk(a:O):=cY m R A0 [a] func94
end
section
open Tryz
variable{m:E}{R:Value->E->Prop}
variable{a b c d e f g h p q r u v w x y:O}{i j k l n o s t z A B C D F G H:Int}
def sT(p:Nat×Nat):=cY m R ⟨[(15,[(4,.S),(5,.S),(31,.I)])],[],[(15,[62])]⟩ [p,.agg [i,j,k,l,a,b]] func95
def wo(i:Int):=cY m R A0 [i] func96
def uq(p:Nat×Nat):=cY m R A0 [p,i] func97
def vn(p:Nat×Nat):=cY m R A0 [i,p] func98
def DV(a:O):=cY m R A0 [a] func99
def sV(p q:Nat×Nat):=cY m R A0 [p,q,.agg [i,j,k,l,a,b]] func100
def rH(p q:Nat×Nat):=cY m R ⟨[(14,[(10,.S),(74,.I)])],[],[(14,[125,121])]⟩ [p,q,.agg [i,j,k,l,a,b]] func101
def tC(p q:Nat×Nat):=cY m R A0 [p,q,.agg [i,j,k,l,a,b]] func102
def zU(p:Nat×Nat):=cY m R A0 [p,i,j,k] func103
def sq(p q:Nat×Nat):=cY m R A0 [p,q,.agg [i,j,k,l,a,b]] func104
def vk(p:Nat×Nat):=cY m R A0 [p,i,a] func105
def xu(p:Nat×Nat):=cY m R ⟨[(3,[(13,.I)])],[],[]⟩ [p,a] func106
def zZ(p:Nat×Nat):=cY m R ⟨[(1,[(4,.S)])],[],[]⟩ [p,i] func107
def wg(p q:Nat×Nat):=cY m R ⟨[(5,[(39,.I)])],[],[(5,[58])]⟩ [p,q,.agg [i,j,k,l,a,b]] func108
def wm(i:Int):=cY m R A0 [i] func109
def tS(a:O):=cY m R ⟨[(2,[(8,.I)])],[],[]⟩ [a,i] func110
def FR(a:O):=cY m R ⟨[(6,[(6,.S),(28,.I)])],[],[]⟩ [a,i] func111
def we(p:Nat×Nat):=cY m R ⟨[(9,[(63,.I)])],[(7,[(9,.I)])],[(7,[111]),(9,[114,111])]⟩ [p,i,a,.agg [j,k,l,n,b,c]] func112
end
section
open Tryz
variable{m:E}{R:Value->E->Prop}
variable{a b c d e f g h p q r u v w x y:O}{i j k l n o s t z A B C D F G H:Int}
def vm(a:Nat×Nat)(w:Int)(dP:Bool):=cY m R ⟨[(13,[(69,.I)])],[(5,[])],[]⟩ [a,w,.c (.t dP)] func113
def sU(p:Nat×Nat):=cY m R A0 [p,i] func114
def AR(i:Int):=cY m R A0 [i] func119
def sK(i:Int):=cY m R A0 [i] func121
def EL(a:O):=cY m R A0 [.agg [a,b],.agg [i,j,k,l,c,d],n] func122
def wQ(a:O):=cY m R ⟨[(2,[(3,.I)])],[],[]⟩ [a] func123
def Ka(i:Int):=cY m R A0 [i] func124
def yV(i:Int):=cY m R ⟨[(2,[(5,.I)])],[],[(2,[26,25])]⟩ [.agg [i,j,k,a,b,c],.agg [l,n,o,s,d,e]] func125
def tc(p:Nat×Nat):=cY m R A0 [p,.agg [i,j,k,a,b,c],.agg [l,n,o,s,d,e]] func126
def sZ(p:Nat×Nat):=cY m R ⟨[(2,[(7,.I)])],[],[(2,[51,50])]⟩ [p,.agg [i,j,k,a,b,c],.agg [l,n,o,s,d,e]] func127
def Es(a:O):=cY m R ⟨[(2,[(3,.I)])],[],[]⟩ [a] func128
def ta(p:Nat×Nat):=cY m R A0 [p,i] func129
def GF(a:O):=cY m R A0 [a,i] func130
end
section
open Tryz
variable{m:E}{R:Value->E->Prop}
variable{a b c d e f g h p q r u v w x y:O}{i j k l n o s t z A B C D F G H:Int}
def uz(p:Nat×Nat):=cY m R A0 [p,i] func131
def tV(p:Nat×Nat):=cY m R A0 [p,.agg [i,j,k,a,b,c],.agg [l,n,o,s,d,e]] func132
def JU(a:O):=cY m R ⟨[(2,[(5,.I)])],[],[]⟩ [a,i] func133
def uT(a:O):=cY m R ⟨[(5,[(5,.S),(6,.I)])],[],[]⟩ [a,i] func134
def uD(p:Nat×Nat):=cY m R A0 [p,i,j] func135
def J7(i:Int):=cY m R A0 [i,j,k] func136
def sD(p:Nat×Nat):=cY m R ⟨[],[(5,[(8,.I)])],[(5,[75,74])]⟩ [p,.agg [i,j,k,a,b,c],.agg [l,n,o,s,d,e],t] func137
def Cy(a:O):=cY m R ⟨[(3,[(3,.I),(4,.I)])],[],[]⟩ [a] func138
def vC(p:Nat×Nat):=cY m R ⟨[],[(10,[(6,.I),(7,.S)])],[(10,[128,127])]⟩ [p,.agg [i,j,k,a,b,c],.agg [l,n,o,s,d,e]] func139
def vD(p:Nat×Nat):=cY m R A0 [p,.agg [i,j,k,a,b,c],l] func140
def vE(p:Nat×Nat):=cY m R ⟨[(1,[(4,.I)])],[],[]⟩ [p,a] func141
def pu(p:Nat×Nat):=cY m R A0 [p,i] func142
def AK(a:O):=cY m R ⟨[(2,[(5,.S)])],[],[]⟩ [a,b] func143
def td(p:Nat×Nat):=cY m R ⟨[(4,[(8,.I)])],[],[(4,[111,110])]⟩ [p,.agg [i,j,k,a,b,c],.agg [l,n,o,s,d,e]] func144
def uC(p:Nat×Nat):=cY m R A0 [p,i,j] func145
def CF(a:O):=cY m R ⟨[(3,[(5,.I),(6,.I)])],[],[]⟩ [a,i] func146
def Ad(a:O):=cY m R ⟨[(4,[(39,.I)]),(9,[(64,.I)])],[],[(9,[108])]⟩ [a,b] func147
def oP(p q:Nat×Nat):=cY m R A0 [i,p,q] func148
end
section
open Tryz
variable{m:E}{R:Value->E->Prop}
variable{a b c d e f g h p q r u v w x y:O}{i j k l n o s t z A B C D F G H:Int}
def oQ(p:Nat×Nat):=cY m R A0 [i,p] func149
def qM(b c:O)(d e f g:Int)(h i:O)(a:Fn×Array Value×Array Value):=cY m R A0 [.agg [b,c],.agg [d,e,f,g,h,i],.c (.fv a)] func150
def sA(a:O):=cY m R A0 [.agg [a,b],.agg [i,j,k,l,c,d]] func151
def zX(a:O):=cY m R ⟨[(6,[(48,.I)])],[(5,[])],[(5,[69]),(6,[69])]⟩ [a,.agg [i,j,b]] func152
def FX(a:O):=cY m R A0 [a,i] func153
def qO(s:O)(f:Fn×Array Value×Array Value):=cY m R ⟨[(2,[(8,.I)])],[],[]⟩ [s,.c (.fv f)] func154
def zq(a:O):=cY m R ⟨[(4,[(3,.I)])],[],[]⟩ [a] func155
def Cq(a:O):=cY m R ⟨[(2,[(5,.I)])],[],[]⟩ [a,b] func156
def Bt(a:O):=cY m R ⟨[(2,[(5,.I)])],[],[]⟩ [a,b] func157
def zo(a:O):=cY m R ⟨[(4,[(9,.I)])],[(10,[])],[(4,[241,238,237]),(10,[241,238,237])]⟩ [.agg [a,b],.agg [c,d,i,j,e],k] func158
def EE(a:O):=cY m R A0 [.agg [a,b],i,j,c,d] func159
def AY(a:O):=cY m R ⟨[(3,[(3,.I),(4,.I)])],[],[]⟩ [a] func160
def vz(a:O):=cY m R ⟨[(3,[(5,.I),(6,.I)])],[],[]⟩ [a,i] func161
def ED(a:O):=cY m R ⟨[(3,[(4,.I)])],[],[(3,[75,74])]⟩ [.agg [a,b]] func162
def wD(p:Nat×Nat):=cY m R ⟨[],[(4,[]),(6,[]),(9,[]),(11,[])],[(4,[37]),(6,[37]),(9,[37]),(11,[37])]⟩ [p] func163
def Bo(a:O):=cY m R ⟨[(3,[(4,.I)])],[],[(3,[45,44])]⟩ [.agg [a,b]] func164
def AG(a:O):=cY m R ⟨[(3,[(4,.I)]),(8,[(6,.S),(7,.I)])],[],[(3,[62,61]),(8,[65,62,61])]⟩ [.agg [a,b]] func165
def Ax(p:Nat×Nat):=cY m R A0 [p,.agg [i,j,k,l,a,b]] func166
end
end Go.Proofs.YtkoifinbblcbiaaGreat
