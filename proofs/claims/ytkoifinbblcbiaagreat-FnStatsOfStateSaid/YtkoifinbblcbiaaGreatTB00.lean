/- Part of a proof. -/
import Derived.KernelRfl
import Derived.Laws.Append
import Derived.Laws.Cells
import Derived.Laws.Entries
import Derived.Laws.IdiomCopy
import Derived.Orders
import Derived.OrdersHeld
import Derived.Still
import Derived.Tactics
import Derived.Test.YtkoifinbblcbiaaGreatProg
set_option linter.all false
set_option maxHeartbeats 8000000
set_option maxRecDepth 100000
namespace Go.Vc
def ad:=@Nat.le_refl
def ae:=@if_neg
def ai:=@List.mem_cons_of_mem
def aj:=@if_pos
def ak:=@beq_eq_false_iff_ne
def aq:=@decide_eq_true_eq
def ax:=@List.getElem?_append_left
def aE:=@beq_iff_eq
def aF:=@List.getElem?_append_right
def aO:=@Nat.lt_of_lt_of_le
def aS:=@List.mem_cons
def aV:=@List.length_cons
def aX:=@List.mem_cons_self
def aZ:=@Nat.lt_or_ge
def ba:=@List.length_append
def bt:=@Nat.eq_of_beq_eq_true
def bu:=@Bool.or_eq_false_iff
def bD:=@decide_eq_false_iff_not
def bL:=@List.mem_append_left
def bN:=@Bool.and_eq_true
def bV:=@Bool.or_eq_true
def bX:=@Nat.le_trans
def cz:=@List.getElem?_set_ne
def cE:=@Nat.zero_add
def cG:=@List.map_cons
def cH:=@List.cons_append
def cU:=@List.getElem?_map
def cY:=@Int.le_refl
def da:=@List.getElem?_eq_none
def dh:=@Nat.mul_le_mul_right
def dk:=@Nat.add_assoc
def dm:=@List.take_append_drop
def dp:=@List.mem_or_eq_of_mem_set
def dB:=@Classical.byContradiction
def dH:=@List.getElem?_take_of_lt
def dJ:=@Classical.em
def dK:=@List.getElem?_set_self
def dO:=@List.append_nil
def dW:=@List.length_map
def dX:=@List.nil_append
def eB:=@Classical.choose_spec
def eD:=@List.dropLast_concat_getLast
def eE:=@List.length_set
def eO:=@Nat.zero_le
def eU:=@List.length_nil
def fg:=@List.getLast?_eq_some_getLast
def fy:=@List.take_length
def fC:=@List.append_assoc
def fD:=@List.map_nil
def fK:=@List.mem_append_right
def fN:=@List.map_append
def fR:=@List.getD_eq_getElem?_getD
def gB:=@List.mem_of_mem_take
def gG:=@List.length_take
def gL:=@Nat.add_mul
def gX:=@List.getElem?_cons_succ
def ig:=@Bool.false_eq_true
def ij:=@List.mem_of_getElem?
def il:=@List.set_cons_zero
def iu:=@Nat.mul_one
def iv:=@Nat.not_lt_zero
def iH:=@bne_eq_false_iff_eq
def iK:=@Bool.not_eq_true'
def iL:=@List.ext_getElem?
def jd:=@Nat.min_eq_left
def jq:=@List.set_cons_succ
def jD:=@List.flatten_cons
def jE:=@List.getElem?_set
def jF:=@Nat.add_zero
def jG:=@Option.map_eq_some_iff
def jH:=@cond_true
def jR:=@Array.getElem?_setIfInBounds_ne
def j7:=@List.not_mem_nil
def j8:=@Nat.eq_zero_or_pos
def kH:=@Ne.symm
def lx:=@gt_iff_lt
def lJ:=@List.getElem?_take
def lK:=@Array.getElem?_modify
def lL:=@List.getElem?_toArray
def lM:=@Nat.le_of_ble_eq_true
def mq:=@Option.some.inj
def mE:=@List.findIdx_lt_length_of_exists
def mF:=@List.flatMap_cons
def mM:=@cond_false
def mR:=@Array.getElem?_push
def mS:=@List.length_reverse
def nu:=@List.map_toArray
def nF:=@List.take_append_of_le_length
def nM:=@List.mem_singleton
def nN:=@List.take_of_length_le
def nO:=@Nat.lt_of_le_of_lt
def oA:=@Option.map_some
def oV:=@List.sizeOf_lt_of_mem
def pv:=@Nat.le_succ_of_le
def ql:=@Int.tdiv_eq_ediv_of_nonneg
def qt:=@if_false
def qu:=@Nat.succ_mul
def qy:=@List.drop_eq_getElem_cons
def qR:=@List.flatten_append
def qS:=@List.length_take_le
def qT:=@List.replicate_succ
def rU:=@List.set_eq_of_length_le
def rV:=@congrArg
def sG:=@List.getElem?_drop
def sO:=@List.getElem?_cons_zero
def ue:=@Int.le_trans
def uf:=@Int.toNat_natCast
def ug:=@List.map_set
def uh:=@Nat.le_of_eq
def ui:=@not_or
def vO:=@Option.getD_some
def vP:=@bne_iff_ne
def xg:=@List.mem_of_mem_drop
def zD:=@Array.getD_eq_getD_getElem?
def BO:=@Array.ext_getElem?
def BP:=@or_false
def DJ:=@List.size_toArray
def DK:=@Option.some.injEq
def Hp:=@Nat.add_sub_cancel_left
def Hq:=@Nat.le_of_not_lt
def Hr:=@ge_iff_le
def I7:=@Array.getElem?_eq_none
def I8:=@Int.lt_or_le
def I9:=@List.drop_of_length_le
def JA:=@Bool.eq_iff_iff
def JB:=@decide_eq_false
def MC:=@Bool.not_false
def MD:=@List.set_append_left
def ME:=@List.take_take
def MF:=@Nat.mul_le_mul
def MI:=@if_true
def Nr:=@List.replicate_zero
def Ns:=@List.take_succ_cons
def Nt:=@Nat.testBit_two_pow
def Oc:=@Bool.not_true
def Od:=@Bool.true_and
def Oe:=@List.all_cons
def Of:=@List.map_take
def Og:=@Prod.mk.injEq
def Pq:=@List.set_eq_take_append_cons_drop
def QI:=@List.any_nil
def QJ:=@List.reverse_cons
def QK:=@Nat.le_of_lt
def QL:=@Nat.sub_self
def QM:=@Nat.zero_mul
def Tj:=@List.range_succ
def Tm:=@Iff.rfl
def Tn:=@dif_pos
def UO:=@List.mapM_cons
def UP:=@Nat.eq_of_mul_eq_mul_right
def UQ:=@Nat.testBit_or
def UX:=@Array.mapM_eq_mapM_toList
def UY:=@List.exists_mem_of_ne_nil
def VN:=@Array.getElem?_replicate
def VO:=@Bool.false_or
def VP:=@Bool.or_false
def VQ:=@List.eq_of_mem_replicate
def XT:=@List.map_map
def XU:=@List.mem_map
def XV:=@List.set_set
def XW:=@Nat.sub_zero
def Yk:=@Array.getElem?_toList
def Yl:=@List.set_append_right
def Ym:=@Nat.ble_eq_true_of_le
def ZD:=@Int.add_mul
def ZQ:=@Array.length_toList
def ZR:=@Array.toList_zipIdx
def aak:=@Array.foldl_toList
def aal:=@Bool.not_eq_false'
theorem dit{p A B:Prop}{i:Decidable p}(f:p->A)(g:¬p->B):(decide p=true->A)/\(decide p=false->B):=⟨λh=>f (of_decide_eq_true h),λh=>g (of_decide_eq_false h)⟩
theorem V{p:Prop}(h:p:=by omega):p:=h
theorem aL{p:Prop}(h:p:=by simp):p:=h
theorem be{p:Prop}(h:p:=by decide):p:=h
theorem bJ{p:Prop}(h:p:=by simp;omega):p:=h
end Go.Vc
section
namespace Go.Vc
variable{n:Nat}{a:Act}
abbrev E:=Array Obj
def af(m:E)(b o:Nat):Option Value:=
 match m[b]? with
 |some (.cells c _ _)=>c[o]?
 |_=>none
def vY(m:E)(b o:Nat):Bool:=
 match m[b]? with
 |some (.cells _ _ (c,a))=>c<=o&&o<a
 |_=>false
def rH(m:E)(b o:Nat)(v:Value):E:=
 m.modify b λ
  | .cells c e f=>.cells (c.setIfInBounds o v) e f
  |x=>x
def zQ(w:World)(b o:Nat):w.cell? ⟨b,o,none⟩=af w.heap b o:=by
 simp only[World.cell?,af];cases h:w.heap[b]? with
 |none=>rfl
 |some x=>cases x<;>simp
def Q6(w:World)(b o:Nat):w.frozen? ⟨b,o,none⟩=vY w.heap b o:=by
 simp only[World.frozen?,vY];cases h:w.heap[b]? with
 |none=>rfl
 |some x=>cases x<;>simp
def OT(w:World)(b o:Nat)(v:Value):(w.setCell ⟨b,o,none⟩ v).heap=rH w.heap b o v:=by
 simp only[World.setCell,rH];congr 1
structure pH(w w':World):Prop where
 os:w'.os=w.os
 tape:w'.tape=w.tape
 output:w'.output=w.output
def pH.aA(w:World):pH w w:=⟨rfl,rfl,rfl⟩
def pH.trans{a b c:World}(h:pH a b)(k:pH b c):pH a c:=⟨k.os.trans h.os,k.tape.trans h.tape,k.output.trans h.output⟩
def aM(P:Program)(f:FuncId)(b:List Value)(m:E)(K:Value->E->Prop):Prop:=
 ∀w:World,w.heap=m->Calls P f b.toArray w λe a=>∃v,e=.returned v/\pH w a/\K v a.heap
def aM.mono{P:Program}{f:FuncId}{b:List Value}{m:E}{K a:Value->E->Prop}(h:aM P f b m K)
 (e:∀v c,K v c->a v c):aM P f b m a:=
 λw i=>(h w i).mono λ_ _⟨v,d,g,c⟩=>⟨v,d,g,e _ _ c⟩
inductive O where
 |nil
 |mk (b o len cap:Nat)
 |zT (b o sp:Nat)
def O.v:O->Value
 | .nil=>.slice none 0 0
 | .mk b o l c=>.slice (some ⟨b,o,none⟩) l c
 | .zT b o a=>.slice (some ⟨b,o,some a⟩) 0 0
def O.len:O->Nat
 | .nil=>0
 | .mk _ _ l _=>l
 | .zT _ _ _=>0
def O.cap:O->Nat
 | .nil=>0
 | .mk _ _ _ c=>c
 | .zT _ _ _=>0
def O.D:O->Nat
 | .nil=>0
 | .mk b _ _ _=>b
 | .zT b _ _=>b
def O.off:O->Nat
 | .nil=>0
 | .mk _ o _ _=>o
 | .zT _ o _=>o
@[simp] theorem O.Se (b o sp:Nat):(O.zT b o sp).len=0:=rfl
@[simp] theorem O.Vh (b o sp:Nat):(O.zT b o sp).cap=0:=rfl
@[simp] theorem O.OL:O.nil.len=0:=rfl
@[simp] theorem O.Vi:O.nil.cap=0:=rfl
@[simp] theorem O.ZI:O.nil.D=0:=rfl
@[simp] theorem O.ZM:O.nil.off=0:=rfl
@[simp] theorem O.iS (b o l c:Nat):(O.mk b o l c).len=l:=rfl
@[simp] theorem O.Ov (b o l c:Nat):(O.mk b o l c).cap=c:=rfl
@[simp] theorem O.jB (b o l c:Nat):(O.mk b o l c).D=b:=rfl
@[simp] theorem O.tH (b o l c:Nat):(O.mk b o l c).off=o:=rfl
def O.Gh:O->Bool
 | .nil=>true
 | .mk _ _ _ _=>false
 | .zT _ _ _=>false
@[simp] theorem O.Yf:O.nil.Gh=true:=rfl
@[simp] theorem O.Ye (b o sp:Nat):(O.zT b o sp).Gh=false:=rfl
@[simp] theorem O.YW (b o l c:Nat):(O.mk b o l c).Gh=false:=rfl
def O.cv:O->Option Addr
 | .nil=>none
 | .mk b o _ _=>some ⟨b,o,none⟩
 | .zT b o a=>some ⟨b,o,some a⟩
def O.XS(s:O):s.v=.slice s.cv s.len s.cap:=by cases s<;>rfl
inductive Ce where
 |i (n:Int)
 |u (k:IntKind) (n:Int)
 |t (x:Bool)
 |s (x:O)
 |p (b o:Nat)
 |pn
 |fn (f:Fn) (first captured:Array Value)
 |fv (q:Fn×Array Value×Array Value)
 |nf
 |str (x:ByteArray)
 |mp (b:Nat)
 |mn
 |bp (k b o:Nat)
def Ce.v:Ce->Value
 | .i n=>.int .i64 n
 | .u k n=>.int k n
 | .t x=>.bool x
 | .s x=>x.v
 | .p b o=>.pointer (some ⟨b,o,none⟩)
 | .pn=>.pointer none
 | .fn f a c=>.func f a c
 | .fv q=>.func q.1 q.2.1 q.2.2
 | .nf=>.nilFunc
 | .str x=>.string x
 | .mp b=>.map (some b)
 | .mn=>.map none
 | .bp _ b o=>.pointer (some ⟨b,o,none⟩)
inductive AV where
 |c (x:Ce)
 |agg (l:List Ce)
def AV.v:AV->Value
 | .c x=>x.v
 | .agg l=>.agg (l.map Ce.v).toArray
inductive SV where
 |c (x:Ce)
 |tt
 |ff
 |agg (l:List Ce)
 |XR (l:List AV)
 |un
 |fZ
 |box (b e:Nat) (l:List Ce)
 |zO (b e:Nat) (l:List Ce)
def SV.v:SV->Value
 | .c x=>x.v
 | .tt=>.bool true
 | .ff=>.bool false
 | .agg l=>.agg (l.map Ce.v).toArray
 | .XR l=>.tuple (l.map AV.v).toArray
 | .un=>undef
 | .fZ=>undef
 | .box _ _ _=>undef
 | .zO _ _ _=>undef
def SV.Is:SV->Value->Prop
 | .fZ,_=>True
 | .box _ _ _,_=>True
 | .zO _ _ _,_=>True
 |s,v=>v=s.v
def AV.sv:AV->SV
 | .c x=>.c x
 | .agg l=>.agg l
def AV.aai(x:AV):x.sv.v=x.v:=by cases x<;>rfl
abbrev Fr:=List (Nat×SV)
def gZ:Fr->Nat->SV
 |[],_=>.fZ
 |(u,x)::r,t=>bif Nat.beq u t then x else gZ r t
def SV.nb:SV->SV
 | .box _ _ _=>.fZ
 | .zO _ _ _=>.fZ
 |x=>x
def uo(a:Fr)(d:Option Nat)(x:SV):Fr:=
 match d with
 |some d=>(d,x.nb)::a
 |none=>a
def SV.Um{x:SV}{v:Value}(h:x.Is v):x.nb.Is v:=by
 cases x<;>first|exact h|trivial
def Ce.kX(x:Ce):x.v.cells=#[x.v]:=by
 cases x with
 |s y=>cases y<;>rfl
 |_=>rfl
def kM:Value->Option Ce
 | .int .i64 n=>some (.i n)
 | .int k n=>some (.u k n)
 | .bool x=>some (.t x)
 | .slice none 0 0=>some (.s .nil)
 | .pointer none=>some .pn
 | .nilFunc=>some .nf
 | .string x=>some (.str x)
 |_=>none
def NG{x:Value}{c:Ce}(h:kM x=some c):c.v=x:=by
 unfold kM at h;split at h<;>simp at h<;>subst h<;>rfl
def pO:List Value->Option (List Ce)
 |[]=>some []
 |v::b=>match kM v,pO b with
  |some c,some a=>some (c::a)
  |_,_=>none
def KQ:∀{b:List Value}{a:List Ce},pO b=some a->a.map Ce.v=b
 |[],_,h=>by simp[pO]at h;subst h;rfl
 |v::b,a,h=>by
  simp only[pO]at h;split at h
  .rename_i e f c d;simp at h;subst h;simp[NG c,KQ d]
  .simp at h
def FI:Value->SV
 | .bool true=>.tt
 | .bool false=>.ff
 | .agg a=>match pO a.toList with
  |some l=>.agg l
  |none=>.fZ
 | .tuple a=>bif a.toList.isEmpty then .un else .fZ
 |v=>match kM v with
  |some c=>.c c
  |none=>.fZ
def QX(x:Value):(FI x).Is x:=by
 unfold FI;split
 .rfl
 .rfl
 .rename_i a;split
  .rename_i l b;show Value.agg a=.agg (l.map Ce.v).toArray;rw[KQ b]
  .trivial
 .rename_i a;cases h:a.toList.isEmpty
  .trivial
  .show Value.tuple a=undef;have:a=#[]:=by simpa using h
   rw[this];rfl
 .split
  .rename_i c a;exact(NG a).symm
  .trivial
def ev(a:Fr):Operand->SV
 | .tmp t=>(gZ a t).nb
 | .const v=>FI v
 | .global g=>.c (.p g 0)
 | .func f=>.c (.fn (.func f) #[] #[])
structure j9(n:Nat)(fr:Fr)(a:Act):Prop where
 size:a.tmps.size=n
 defers:a.defers=[]
 aG:∀t,(gZ fr t).Is (a.tmps.getD t undef)
def j9.ev{b:Fr}(h:j9 n b a)(x:Operand):(ev b x).Is (a.eval x):=by
 cases x with
 |tmp t=>exact SV.Um (h.aG t)
 |const v=>exact QX v
 |global g=>rfl
 |func f=>rfl
def j9.put{n:Nat}{b:Fr}{a:Act}(h:j9 n b a){d:Option Nat}{x:SV}{v:Value}(g:x.Is v)(hd:∀t,d=some t->t<n):
 j9 n (uo b d x) (a.put d v):=by
 cases d with
 |none=>exact h
 |some d=>
  refine⟨by simpa[Act.put]using h.size,h.defers,λt=>?_⟩
  have f:d<a.tmps.size:=by rw[h.size];exact hd d rfl
  simp only[uo,gZ,Act.put]
  by_cases e:d=t
  .subst e
   simp only[Nat.beq_refl,jH]
   simpa[f]using SV.Um g
  .have:Nat.beq d t=false:=by
    cases c:Nat.beq d t
    .rfl
    .exact absurd (bt c) e
   simp only[this,mM]
   have:=h.aG t
   simpa[jR e]using this
def j9.cons{b:Fr}(h:j9 n b a)(t:Nat){x:SV}(c:∀v,x.Is v):j9 n ((t,x)::b) a:=by
 refine⟨h.size,h.defers,λu=>?_⟩;simp only[gZ];cases d:Nat.beq t u
 .exact h.aG u
 .exact c _
def j9.fZ{b:Fr}(h:j9 n b a)(t:Nat):j9 n ((t,.fZ)::b) a:=by
 refine⟨h.size,h.defers,λu=>?_⟩;simp only[gZ];cases c:Nat.beq t u
 .exact h.aG u
 .trivial
end Go.Vc
end
section
namespace Go.Vc
variable{P:Program}{t b e:Nat}
inductive Sh where
 |I
 |U (k:IntKind)
 |T
 |S
 |P
 |F
 |M
 deriving DecidableEq
abbrev Sh.ty:Sh->Type
 | .I=>Int
 | .U _=>Int
 | .T=>Bool
 | .S=>O
 | .P=>Nat×Nat
 | .F=>Fn×Array Value×Array Value
 | .M=>Nat
abbrev Sh.mk:(s:Sh)->s.ty->Ce
 | .I,n=>.i n
 | .U k,n=>.u k n
 | .T,x=>.t x
 | .S,x=>.s x
 | .P,q=>.p q.1 q.2
 | .F,v=>.fv v
 | .M,b=>.mp b
def Sh.zero:Sh->Ce
 | .I=>.i 0
 | .U k=>.u k 0
 | .T=>.t false
 | .S=>.s .nil
 | .P=>.pn
 | .F=>.nf
 | .M=>.mn
inductive TK where
 |cell
 |slice (elem:Nat)
 |struct (offs:List (Nat×Nat))
 |tuple (ts:List Nat)
 |map (key elem:Nat)
structure TI where
 HN:TK
 sh:List Sh
 bytes:Nat
abbrev TT:=List (Nat×TI)
def fJ:TT->Nat->Option TI
 |[],_=>none
 |(u,x)::r,t=>bif Nat.beq u t then some x else fJ r t
def OV:Sh->Value->Bool
 | .I,.int .i64 0=>true
 | .U k,.int a 0=>decide (k=a)
 | .T,.bool false=>true
 | .S,.slice none 0 0=>true
 | .P,.pointer none=>true
 | .F,.nilFunc=>true
 | .M,.map none=>true
 |_,_=>false
def OW{s:Sh}{v:Value}(h:OV s v=true):v=s.zero.v:=by
 unfold OV at h;split at h<;>first|rfl|(simp at h;subst h;rfl)|simp at h
def Fq:List Value->List Sh->Bool
 |[],[]=>true
 |v::b,s::a=>OV s v&&Fq b a
 |_,_=>false
def BN:∀{b:List Value}{a:List Sh},Fq b a=true->b=a.map λs=>s.zero.v
 |[],[],_=>rfl
 |v::b,s::a,h=>by
  simp only[Fq,bN]at h;simp[OW h.1,BN h.2]
 |[],_::_,h=>by simp[Fq]at h
 |_::_,[],h=>by simp[Fq]at h
def NM:List Field->List (Nat×Nat)->Bool
 |[],[]=>true
 |f::a,(o,t)::r=>Nat.beq f.offset o&&Nat.beq f.type t&&NM a r
 |_,_=>false
def Lz:∀{a:List Field}{b:List (Nat×Nat)},NM a b=true->a.map (λf=>(f.offset,f.type))=b
 |[],[],_=>rfl
 |f::a,(o,t)::r,h=>by
  simp only[NM,bN]at h;simp[bt h.1.1,bt h.1.2,Lz h.2]
 |[],_::_,h=>by simp[NM]at h
 |_::_,[],h=>by simp[NM]at h
def An:TypeDesc->List Sh->Bool
 | .bool,[.T]=>true
 | .int .i64,[.I]=>true
 | .int k,[.U k']=>decide (k=k')
 | .pointer _,[.P]=>true
 | .func ..,[.F]=>true
 |_,_=>false
def BV(i:TypeInfo)(a:TI)(b:Bool):Bool:=
 Nat.beq i.size a.sh.length&&Nat.beq i.bytes a.bytes&&
 (match i.zero with
  |some (.agg c)=>b&&Fq c.toList a.sh
  |some z=>!b&&Fq [z] a.sh
  |none=>false)
def Y7(t:Nat):Nat:=t+1000000
def Vk(P:Program)(t:Nat):Bool:=
 match P.underlying t with
 |some (.struct a)=>a.toList.all (λf=>f.name != "_")&&!P.stoodInHeld t&&!P.eqGuardType P.depth t
 |_=>false
def yH(P:Program)(t:Nat)(a:TI):Bool:=
 match a.HN with
 | .tuple _=>if t<1000000 then true else Vk P (t -1000000)
 | .slice e=>match P.info? t,P.underlying t with
  |some i,some (.slice b)=>Nat.beq e b&&BV i a false
  |_,_=>false
 | .struct d=>match P.info? t,P.underlying t with
  |some i,some (.struct c)=>NM c.toList d&&BV i a true
  |_,_=>false
 | .map k e=>match P.info? t,P.underlying t with
  |some i,some (.map c b)=>Nat.beq k c&&Nat.beq e b&&BV i a false
  |_,_=>false
 | .cell=>match P.info? t,P.underlying t with
  |some i,some d=>An d a.sh&&BV i a false
  |_,_=>false
def uj(P:Program)(T:TT):Prop:=T.all (λx=>yH P x.1 x.2)=true
def Qx:∀{T:TT}{t:Nat}{b:TI},fJ T t=some b->(t,b)∈T
 |[],_,_,h=>by simp[fJ]at h
 |(u,x)::r,t,b,h=>by
  simp only[fJ]at h;cases a:Nat.beq u t
  .rw[a]at h;exact ai _ (Qx h)
  .rw[a]at h;have:=bt a;simp at h;subst h;subst this;exact aX
def uj.yH{T:TT}(h:uj P T){a:TI}(b:fJ T t=some a):yH P t a=true:=
 List.all_eq_true.1 h _ (Qx b)
def uj.cmp{T:TT}(h:uj P T){l:List Nat}{c:List Sh}(a:fJ T (Y7 t)=some ⟨.tuple l,c,b⟩):Vk P t=true:=by
 have:=h.yH a;simp only[Go.Vc.yH]at this;rw[ae (by unfold Y7;omega),show Y7 t -1000000=t by unfold Y7;omega]at this;exact this
structure KE(P:Program)(t:Nat)(ti:TI)(agg:Bool):Prop where
 aao:∃i,P.info? t=some i/\i.size=ti.sh.length/\i.bytes=ti.bytes/\
  ∃z,i.zero=some z/\z.cells.toList=(ti.sh.map λs=>s.zero.v)/\(agg=false->∀cs,z≠.agg cs)
def sX{g:TI}{i:TypeInfo}{c:Bool}(j:P.info? t=some i)(h:BV i g c=true):KE P t g c:=by
 simp only[BV,bN]at h;refine⟨i,j,bt h.1.1,bt h.1.2,?_⟩;have a:=h.2;split at a
 .rename_i d b;simp only[bN]at a;exact⟨_,b,by simpa[Value.cells]using BN a.2,λf=>by rw[f]at a;simp at a⟩
 .rename_i z f b;simp only[bN]at a;refine⟨_,b,?_,λ_ d e=>f d (by rw[e])⟩;have:=BN a.2;rw[<-this];cases z<;>first|rfl|exact(f _ rfl).elim
 .simp at a
def km{a:List Sh}(h:yH P t ⟨.slice e,a,b⟩=true):P.underlying t=some (.slice e)/\KE P t ⟨.slice e,a,b⟩ false:=by
 simp only[yH]at h;split at h
 .rename_i i f c d;simp only[bN]at h;have:=bt h.1;subst this;exact⟨d,sX c h.2⟩
 .simp at h
def Ci{k:Nat}{a:List Sh}(h:yH P t ⟨.map k e,a,b⟩=true):P.underlying t=some (.map k e)/\KE P t ⟨.map k e,a,b⟩ false:=by
 simp only[yH]at h;split at h
 .rename_i j l i f g;simp only[bN]at h;have c:=bt h.1.1;have d:=bt h.1.2;subst c;subst d;exact⟨g,sX f h.2⟩
 .simp at h
def np{c:List (Nat×Nat)}{d:List Sh}(h:yH P t ⟨.struct c,d,b⟩=true):
 (∃a,P.underlying t=some (.struct a)/\a.toList.map (λf=>(f.offset,f.type))=c)/\KE P t ⟨.struct c,d,b⟩ true:=by
 simp only[yH]at h
 split at h
 .rename_i i a e f
  simp only[bN]at h
  exact⟨⟨a,f,Lz h.1⟩,sX e h.2⟩
 .simp at h
def ov{a:List Sh}(h:yH P t ⟨.cell,a,b⟩=true):
 (∃d,P.underlying t=some d/\An d a=true)/\KE P t ⟨.cell,a,b⟩ false:=by
 simp only[yH]at h
 split at h
 .rename_i i d c e
  simp only[bN]at h
  exact⟨⟨d,e,h.1⟩,sX c h.2⟩
 .simp at h
def TI.agg(a:TI):Bool:=match a.HN with| .struct _=>true|_=>false
def TI.uQ(a:TI):Bool:=match a.HN with| .tuple _=>true|_=>false
def kE{T:TT}(f:uj P T){d:TI}(g:fJ T t=some d)(j:d.uQ=false)(w:World):
 (sizeOf t).run P w=.ok d.sh.length w:=by
 have h:=f.yH g
 obtain⟨HN,k,b⟩:=d
 have:∃i,P.info? t=some i/\i.size=k.length:=by
  cases HN with
  |cell=>obtain⟨_,⟨i,a,c,_⟩⟩:=ov h;exact⟨i,a,c⟩
  |slice e=>obtain⟨_,⟨i,a,c,_⟩⟩:=km h;exact⟨i,a,c⟩
  |map l e=>obtain⟨_,⟨i,a,c,_⟩⟩:=Ci h;exact⟨i,a,c⟩
  |struct o=>obtain⟨_,⟨i,a,c,_⟩⟩:=np h;exact⟨i,a,c⟩
  |tuple l=>simp[TI.uQ]at j
 obtain⟨i,a,c⟩:=this
 simp[sizeOf,typeInfo,a,c]
def Gt{T:TT}(g:uj P T){f:TI}(j:fJ T t=some f)(k:f.uQ=false):
 ∃i,i.bytes=f.bytes/\i.size=f.sh.length/\(∀w,(typeInfo t).run P w=.ok i w)/\P.info? t=some i:=by
 have h:=g.yH j
 obtain⟨HN,l,b⟩:=f
 have:∃i,P.info? t=some i/\i.size=l.length/\i.bytes=b:=by
  cases HN with
  |cell=>obtain⟨_,⟨i,a,c,d,_⟩⟩:=ov h;exact⟨i,a,c,d⟩
  |slice e=>obtain⟨_,⟨i,a,c,d,_⟩⟩:=km h;exact⟨i,a,c,d⟩
  |map m e=>obtain⟨_,⟨i,a,c,d,_⟩⟩:=Ci h;exact⟨i,a,c,d⟩
  |struct o=>obtain⟨_,⟨i,a,c,d,_⟩⟩:=np h;exact⟨i,a,c,d⟩
  |tuple m=>simp[TI.uQ]at k
 obtain⟨i,a,c,d⟩:=this
 exact⟨i,d,c,λw=>by simp[typeInfo,a],a⟩
def wC{T:TT}(m:uj P T){k:TI}(n:fJ T t=some k)(o:k.uQ=false):
 ∃z,z.cells.toList=k.sh.map (λs=>s.zero.v)/\(∀w,(zeroValue t).run P w=.ok z w)/\(k.agg=false->∀a,z≠.agg a):=by
 have h:=m.yH n
 obtain⟨HN,l,b⟩:=k
 have:∃i,P.info? t=some i/\∃z,i.zero=some z/\z.cells.toList=(l.map λs=>s.zero.v)/\((TI.mk HN l b).agg=false->∀a,z≠.agg a):=by
  cases HN with
  |cell=>obtain⟨_,⟨i,a,g,j,z,c,d,f⟩⟩:=ov h;exact⟨i,a,z,c,d,λ_=>f rfl⟩
  |slice e=>obtain⟨_,⟨i,a,g,j,z,c,d,f⟩⟩:=km h;exact⟨i,a,z,c,d,λ_=>f rfl⟩
  |map p e=>obtain⟨_,⟨i,a,g,j,z,c,d,f⟩⟩:=Ci h;exact⟨i,a,z,c,d,λ_=>f rfl⟩
  |struct p=>obtain⟨_,⟨i,a,g,j,z,c,d,f⟩⟩:=np h;exact⟨i,a,z,c,d,λh=>by simp[TI.agg]at h⟩
  |tuple d=>simp[TI.uQ]at o
 obtain⟨i,a,z,g,j,c⟩:=this
 exact⟨z,j,λw=>by simp[zeroValue,typeInfo,a,g],c⟩
def Ie{T:TT}(d:uj P T){a:TI}(f:fJ T t=some a)(g:a.uQ=false)(w:World):
 (isAgg t).run P w=.ok a.agg w:=by
 have h:=d.yH f
 obtain⟨HN,j,b⟩:=a
 cases HN with
 |cell=>
  obtain⟨⟨i,hd,c⟩,_⟩:=ov h
  unfold An at c
  split at c<;>first|(simp at c;done)|simp[isAgg,run_underlying hd,TI.agg]
 |slice e=>obtain⟨hd,_⟩:=km h;simp[isAgg,run_underlying hd,TI.agg]
 |map k e=>obtain⟨hd,_⟩:=Ci h;simp[isAgg,run_underlying hd,TI.agg]
 |struct o=>obtain⟨⟨c,hd,_⟩,_⟩:=np h;simp[isAgg,run_underlying hd,TI.agg]
 |tuple c=>simp[TI.uQ]at g
end Go.Vc
end
section
namespace Go.Vc
def lB:SV->Option Bool
 | .tt=>some true
 | .ff=>some false
 | .c (.t x)=>some x
 |_=>none
def SV.jI:SV->Bool
 | .fZ=>false
 | .box _ _ _=>false
 | .zO _ _ _=>false
 |_=>true
def cR(n:Int):Int:=IntKind.i64.wrap n
def HU{α:Type}:List α->Nat->Option α
 |[],_=>none
 |x::_,0=>some x
 |_::r,n+1=>HU r n
def pU{α:Type}:∀(l:List α)(n:Nat),HU l n=l[n]?
 |[],_=>by simp[HU]
 |x::_,0=>by simp[HU]
 |_::r,n+1=>by simp[HU,pU r n]
def Wk(m:E)(b o:Nat):Nat->List Sh->(List Ce->Prop)->Prop
 |_,[],k=>k []
 |j,s::r,k=>∃x:s.ty,af m b (o+j)=some (s.mk x).v/\Wk m b o (j+1) r λl=>k (s.mk x::l)
def VL(a b:Int):Int:=cR ((a%18446744073709551616).toNat^^^(b%18446744073709551616).toNat:Nat)
def sa(c:BinOp)(a b:Int)(k:SV->Prop):Prop:=
 match c with
 | .add=>k (.c (.i (cR (a+b))))
 | .sub=>k (.c (.i (cR (a -b))))
 | .mul=>k (.c (.i (cR (a*b))))
 | .quo=>b≠0/\k (.c (.i (cR (a.tdiv b))))
 | .rem=>b≠0/\k (.c (.i (a.tmod b)))
 | .xor=>k (.c (.i (VL a b)))
 | .eql=>k (.c (.t (a==b)))
 | .neq=>k (.c (.t (a !=b)))
 | .lss=>k (.c (.t (decide (a<b))))
 | .leq=>k (.c (.t (decide (a<=b))))
 | .gtr=>k (.c (.t (decide (a>b))))
 | .geq=>k (.c (.t (decide (a>=b))))
 |_=>False
def Vf(c:BinOp)(a b:Bool)(k:SV->Prop):Prop:=
 match c with
 | .eql=>k (.c (.t (a==b)))
 | .neq=>k (.c (.t (!(a==b))))
 |_=>False
def Vu(a:BinOp)(s:O)(k:SV->Prop):Prop:=
 match a with
 | .eql=>k (.c (.t s.Gh))
 | .neq=>k (.c (.t (!s.Gh)))
 |_=>False
def ZP(a:UnOp)(x:SV)(k:SV->Prop):Prop:=
 match a,x with
 | .not,.tt=>k .ff
 | .not,.ff=>k .tt
 | .not,.c (.t b)=>k (.c (.t (!b)))
 | .neg,.c (.i n)=>k (.c (.i (cR (0 -n))))
 |_,_=>False
def O.cut(x:O)(a d e:Nat):O:=
 match x with
 | .nil=>.nil
 | .mk b o _ c=>.mk b (if c=a then o else o+a*e) (d -a) (c -a)
 | .zT b o c=>.zT b o c
def SV.cells:SV->Option (List Ce)
 | .c x=>some [x]
 | .tt=>some [.t true]
 | .ff=>some [.t false]
 | .agg l=>some l
 |_=>none
def mr(l:List Ce)(b:Nat)(a:List Ce):List Ce:=
 match b,l with
 |0,l=>match a,l with
  |[],l=>l
  |n::a,_::l=>n::mr l 0 a
  |_::_,[]=>[]
 |b+1,x::l=>x::mr l b a
 |_+1,[]=>[]
termination_by structural l
def FF(T:TT)(c:Fr)(e:List (Nat×Nat)):List Ce->List (Nat×Operand)->(List Ce->Prop)->Prop
 |a,[],k=>k a
 |a,(i,x)::r,k=>
  match HU e i,(ev c x).cells with
  |some (d,t),some b=>
   match fJ T t with
   |some f=>bif !f.uQ&&Nat.beq b.length f.sh.length&&Nat.ble (d+b.length) a.length then FF T c e (mr a d b) r k else False
   |none=>False
  |_,_=>False
def vy(T:TT):List (Nat×Nat)->Bool
 |[]=>true
 |(_,t)::r=>(match fJ T t with|some a=>!a.uQ|none=>false)&&vy T r
def MY(a:Fr)(x:Option Operand)(d:Int)(k:Int->Prop):Prop:=
 match x with
 |none=>k d
 |some x=>match ev a x with
  | .c (.i n)=>k n
  |_=>False
def XC(T:TT)(t:Nat)(s:O)(n:Int)(k:SV->Prop):Prop:=
 match fJ T t with
 |some ⟨.slice e,_,_⟩=>match fJ T e with
  |some a=>bif a.uQ then False else 0<=n/\n<(s.len:Int)/\k (.c (.p s.D (s.off+n.toNat*a.sh.length)))
  |none=>False
 |_=>False
def P8(T:TT)(m:E)(t b o:Nat)(k:SV->Prop):Prop:=
 match fJ T t with
 |some ⟨.struct _,a,_⟩=>Wk m b o 0 a λl=>k (.agg l)
 |some ⟨.cell,[s],_⟩=>∃x:s.ty,af m b o=some (s.mk x).v/\k (.c (s.mk x))
 |some ⟨.slice _,[_],_⟩=>∃x:O,af m b o=some x.v/\k (.c (.s x))
 |_=>False
def Rv(T:TT)(a:Fr)(t:Nat)(s:O)(d c:Option Operand)(k:SV->Prop):Prop:=
 match fJ T t with
 |some ⟨.slice e,_,_⟩=>match fJ T e with
  |some b=>bif b.uQ then False else
   MY a d 0 λl=>MY a c (s.len:Int) λh=>0<=l/\l<=h/\h<=(s.cap:Int)/\k (.c (.s (s.cut l.toNat h.toNat b.sh.length)))
  |none=>False
 |_=>False
def OC(T:TT)(t f:Nat)(l:List Ce)(k:SV->Prop):Prop:=
 match fJ T t with
 |some ⟨.struct c,_,_⟩=>match HU c f with
  |some (b,u)=>match fJ T u with
   |some a=>bif a.uQ then False else bif a.agg then k (.agg ((l.drop b).take a.sh.length))else(match HU l b with|some x=>k (.c x)|none=>False)
   |none=>False
  |none=>False
 |_=>False
def FL(T:TT)(t f o:Nat)(mk:Nat->SV)(k:SV->Prop):Prop:=
 match fJ T t with
 |some ⟨.struct c,_,_⟩=>match HU c f with
  |some (b,u)=>match fJ T u with
   |some a=>bif a.uQ||Nat.beq a.sh.length 0 then False else k (mk (o+b))
   |none=>False
  |none=>False
 |_=>False
def rX(a b:Nat)(k:Prop):Prop:=a=b/\k
def aC(b:Nat)(k:Prop):rX b b k=k:=by simp[rX]
def Hg:List Ce->Nat->Nat->Option (List Ce)
 |_,_,0=>some []
 |l,o,n+1=>match HU l o,Hg l (o+1) n with
  |some c,some r=>some (c::r)
  |_,_=>none
def NE(T:TT)(t:Nat)(a:List Ce)(o:Nat)(k:SV->Prop):Prop:=
 match fJ T t with
 |some ⟨.struct _,b,_⟩=>match Hg a o b.length with
  |some l=>k (.agg l)
  |none=>False
 |some ⟨.cell,[_],_⟩=>match HU a o with
  |some c=>k (.c c)
  |none=>False
 |some ⟨.slice _,[_],_⟩=>match HU a o with
  |some c=>k (.c c)
  |none=>False
 |some ⟨.map _ _,[_],_⟩=>match HU a o with
  |some c=>k (.c c)
  |none=>False
 |_=>False
def TM(T:TT)(c:Fr)(d:Builtin)(e:List Nat)(f:List Operand)(k:SV->Prop):Prop:=
 match d,e,f with
 | .len,[t],[x]=>match fJ T t,ev c x with
  |some ⟨.slice _,_,_⟩,.c (.s s)=>k (.c (.i (s.len:Int)))
  |_,_=>False
 | .max,_,[x,y]=>match ev c x,ev c y with
  | .c (.i a),.c (.i b)=>k (.c (.i (if b>a then b else a)))
  |_,_=>False
 | .min,_,[x,y]=>match ev c x,ev c y with
  | .c (.i a),.c (.i b)=>k (.c (.i (if b<a then b else a)))
  |_,_=>False
 |_,_,_=>False
def Yc(T:TT):Nat->List (Nat×Nat)->List Ce->List Ce->Option Bool
 |_,[],[],[]=>some true
 |i,(o,u)::c,.i a::l,.i b::r=>bif Nat.beq o i then match fJ T u,Yc T (i+1) c l r with
  |some ⟨.cell,[.I],_⟩,some z=>some (a==b&&z)
  |_,_=>none else none
 |_,_,_,_=>none
def eqA(T:TT)(t:Nat)(l r:List Ce)(k:SV->Prop):Prop:=
 match fJ T (Y7 t),fJ T t with
 |some ⟨.tuple _,_,_⟩,some ⟨.struct a,_,_⟩=>match Yc T 0 a l r with
  |some z=>k (.c (.t z))
  |none=>False
 |_,_=>False
def rd(T:TT)(a:Fr)(m:E)(k:SV->Prop):Op->Prop
 | .move x| .assign x=>k (ev a x)
 | .pick d c b=>match ev a d with
  | .tt=>k (ev a c)
  | .ff=>k (ev a b)
  | .c (.t x)=>match lB (ev a c),lB (ev a b)with
   |some y,some z=>k (.c (.t (bif x then y else z)))
   |_,_=>False
  |_=>False
 | .nilCheck x=>match ev a x with
  | .c (.p b o)=>k (.c (.p b o))
  | .c (.bp q b o)=>k (.c (.bp q b o))
  | .c (.fn (.func f) c d)=>k (.c (.fn (.func f) c d))
  | .c (.fv q)=>∃g,q.1=.func g/\k (.c (.fv q))
  |_=>False
 | .binOp d t x y _=>match ev a x,ev a y with
  | .c (.i c),.c (.i b)=>sa d c b k
  | .c (.s s),.c (.s .nil)=>match fJ T t with
   |some ⟨.slice _,_,_⟩=>Vu d s k
   |_=>False
  | .agg l,.agg r=>match d with
   | .eql=>eqA T t l r k
   |_=>False
  |sx,e=>match fJ T t,lB sx,lB e with
   |some ⟨.cell,[.T],_⟩,some c,some b=>Vf d c b k
   |_,_,_=>False
 | .unOp d _ x=>ZP d (ev a x) k
 | .convert s t x=>match fJ T s,fJ T t,ev a x with
  |some ⟨.cell,[_],_⟩,some ⟨.cell,[.I],_⟩,.c (.u _ n)=>k (.c (.i (cR n)))
  |_,_,_=>False
 | .fieldAddr t x f=>match ev a x with
  | .c (.p b o)=>FL T t f o (λo=>.c (.p b o)) k
  | .c (.bp q b o)=>FL T t f o (λo=>.c (.bp q b o)) k
  |_=>False
 | .field t x f=>match ev a x with
  | .agg l=>OC T t f l k
  |_=>False
 | .indexAddr t x i=>match ev a x,ev a i with
  | .c (.s s),.c (.i n)=>XC T t s n k
  |_,_=>False
 | .load t x=>match ev a x with
  | .c (.p b o)=>P8 T m t b o k
  | .c (.bp q b o)=>match gZ a q with
   | .box c _ d=>rX c b (NE T t d o k)
   | .zO c _ d=>rX c b (NE T t d o k)
   |_=>P8 T m t b o k
  |_=>False
 | .extract x i=>match ev a x with
  | .XR l=>match HU l i with
   |some y=>k y.sv
   |none=>False
  |_=>False
 | .slice t x c b none=>match ev a x with
  | .c (.s s)=>Rv T a t s c b k
  |_=>False
 | .build t c=>match fJ T t with
  |some ⟨.struct b,d,_⟩=>bif vy T b then FF T a b (d.map Sh.zero) c.toList λl=>k (.agg l)else False
  |_=>False
 | .call ⟨.builtin c,b,d⟩=>TM T a c d.toList b.toList k
 |_=>False
def lP(a:Fr)(q b e:Nat)(l:List Ce):Prop:=gZ a q=.box b e l\/gZ a q=.zO b e l
structure Bx(n:Nat)(fr:Fr)(m:E):Prop where
 D:∀q b e l,lP fr q b e l->m[b]? =some (.cells (l.map Ce.v).toArray e)
 Ow:∀q q' b e l b' e' l',q≠q'->lP fr q b e l->lP fr q' b' e' l'->b≠b'
 key:∀q b e l,lP fr q b e l->n<=q
def Tl(T:TT)(c:Fr):Op->List (Nat×Nat)
 | .load t x=>match ev c x,fJ T t with
  | .c (.p b o),some a=>(List.range a.sh.length).map λj=>(b,o+j)
  | .c (.bp _ b o),some a=>(List.range a.sh.length).map λj=>(b,o+j)
  |_,_=>[]
 |_=>[]
end Go.Vc
end
section
namespace Go.Vc
variable{s:SV}{b:Bool}
def SV.Is.eq{v:Value}(h:s.Is v)(a:s.jI=true):v=s.v:=by
 cases s<;>first|exact h|simp[SV.jI]at a
def nU(s:SV):s.Is s.v:=by cases s<;>first|rfl|trivial
def j9.eq{n:Nat}{b:Fr}{a:Act}(h:j9 n b a){x:Operand}{s:SV}(c:Vc.ev b x=s)(d:s.jI=true):a.eval x=s.v:=by
 have:=h.ev x;rw[c]at this;exact this.eq d
def xp(h:lB s=some b):s.jI=true/\s.v=.bool b:=by
 unfold lB at h;split at h<;>simp_all [SV.jI,SV.v,Ce.v]
def j9.ZL{n:Nat}{c:Fr}{a:Act}(h:j9 n c a){x:Operand}(d:lB (Vc.ev c x)=some b):a.eval x=.bool b:=by
 rw[h.eq rfl (xp d).1,(xp d).2]
def vW(b o n:Nat):(⟨b,o,none⟩:Addr).add n=⟨b,o+n,none⟩:=by
 unfold Addr.add;split
 .rename_i h;subst h;rfl
 .rfl
def Ca:∀(l:List Ce)(a:Nat)(b:List Ce)(i:Nat),a+b.length<=l.length->
 (mr l a b)[i]? =if a<=i/\i<a+b.length then b[i -a]? else l[i]?
 |[],0,[],i,_=>by simp[mr]
 |[],0,_::_,_,h=>by simp at h
 |[],_+1,_,_,h=>by simp at h
 |x::l,0,[],i,_=>by simp[mr]
 |x::l,0,n::b,i,h=>by
  simp only[mr];cases i with
  |zero=>simp
  |succ i=>
   have:=Ca l 0 b i (by simp at h;omega);simp only[gX,this];simp
 |x::l,a+1,b,i,h=>by
  simp only[mr];cases i with
  |zero=>simp
  |succ i=>
   have:=Ca l a b i (by simp at h;omega);simp only[gX,this];have e:(i+1 -(a+1))=i -a:=V;simp only[e];congr 1;simp;omega
def NI(c:List Value):∀(k a:Nat)(b:Array Value)(i:Nat),
 ((c.zipIdx k).foldl (λ(d:Array Value)(p:Value×Nat)=>d.setIfInBounds (a+p.2) p.1) b)[i]? =
  if a+k<=i/\i<a+k+c.length/\i<b.size then c[i -(a+k)]? else b[i]? :=by
 induction c with
 |nil=>intro k a b i;simp;intro h;omega
 |cons v c g=>
  intro k a b i
  simp only[List.zipIdx_cons,List.foldl_cons,g,Array.size_setIfInBounds,aV]
  by_cases d:i=a+k
  .subst d
   by_cases e:a+k<b.size
   .simp[e];try omega
   .simp[e];try omega
  .have:¬(a+k=i):=λf=>d f.symm
   rw[jR this]
   by_cases e:a+k<=i/\i<a+k+(c.length+1)/\i<b.size
   .rw[aj e,aj V]
    have:i -(a+k)=(i -(a+(k+1)))+1:=V
    rw[this,gX]
   .rw[ae e,ae V]
def pN{l:List Ce}(h:s.cells=some l):s.jI=true/\s.v.cells=(l.map Ce.v).toArray:=by
 cases s with
 |c x=>simp[SV.cells]at h;subst h;exact⟨rfl,by simp[SV.v,Ce.kX]⟩
 |tt=>simp[SV.cells]at h;subst h;exact⟨rfl,rfl⟩
 |ff=>simp[SV.cells]at h;subst h;exact⟨rfl,rfl⟩
 |agg a=>simp[SV.cells]at h;subst h;exact⟨rfl,rfl⟩
 |XR _=>simp[SV.cells]at h
 |un=>simp[SV.cells]at h
 |fZ=>simp[SV.cells]at h
 |box _ _ _=>simp[SV.cells]at h
 |zO _ _ _=>simp[SV.cells]at h
end Go.Vc
end
section
namespace Go.Vc
variable{x y:Operand}{c:TypeId}{h b f o:Nat}{g:List Ce}
variable{e:Program}{T:TT}
def oY(e:Program)(T:TT)(b:Fr)(m:E)(a:Act)(o:Oper)(k:SV->Prop):Prop:=
 ∃x v,k x/\x.Is v/\∀w:World,(∀q∈Tl T b o.op,af w.heap q.1 q.2=af m q.1 q.2)->(execOp a.eval o).run e w=.ok (.value v) w
section
variable{n:Nat}{i:Fr}{a:Act}{j:E}{k:SV->Prop}{q:Option Tmp}{v:TypeId}{u:String}{p:Array Edge}{r:Option (Nat×Bool)}
def Ue(b:j9 n i a)(h:k (ev i x)):oY e T i j a ⟨q,.move x,v,u,p,r⟩ k:=
 ⟨_,_,h,b.ev x,λw _=>by simp[execOp]⟩
def SK(b:j9 n i a)(h:k (ev i x)):oY e T i j a ⟨q,.assign x,v,u,p,r⟩ k:=
 ⟨_,_,h,b.ev x,λw _=>by simp[execOp]⟩
def Ra(c:j9 n i a){f:Operand}(h:rd T i j k (.pick f x y)):oY e T i j a ⟨q,.pick f x y,v,u,p,r⟩ k:=by
 simp only[rd]at h;split at h
 .rename_i d;exact⟨_,_,h,c.ev x,λw _=>by simp[execOp,c.eq d rfl,SV.v,asBool]⟩
 .rename_i d;exact⟨_,_,h,c.ev y,λw _=>by simp[execOp,c.eq d rfl,SV.v,asBool]⟩
 .rename_i b d;split at h
  .rename_i m o g l;refine⟨_,_,h,nU _,λw _=>?_⟩;simp[execOp,c.eq d rfl,SV.v,Ce.v,asBool,c.ZL g,c.ZL l];try (cases b<;>rfl)
  .exact h.elim
 .exact h.elim
def Lc(d:j9 n i a)(h:rd T i j k (.nilCheck x)):oY e T i j a ⟨q,.nilCheck x,v,u,p,r⟩ k:=by
 simp only[rd]at h;split at h
 .rename_i b o c;exact⟨_,_,h,nU _,λw _=>by simp[execOp,d.eq c rfl,SV.v,Ce.v]⟩
 .rename_i m b o c;exact⟨_,_,h,nU _,λw _=>by simp[execOp,d.eq c rfl,SV.v,Ce.v]⟩
 .rename_i f g l c;exact⟨_,_,h,nU _,λw _=>by simp[execOp,d.eq c rfl,SV.v,Ce.v]⟩
 .rename_i m c;obtain⟨s,g,l⟩:=h;exact⟨_,_,l,nU _,λw _=>by simp[execOp,d.eq c rfl,SV.v,Ce.v,g]⟩
 .exact h.elim
def Vg{a:BinOp}{x y:Int}(h:sa a x y k):∃s v,k s/\s.Is v/\∀w:World,(binOp a c (.int .i64 x) (.int .i64 y)).run e w=.ok v w:=by
 cases a<;>simp only[sa]at h
 case quo=>exact⟨_,_,h.2,nU _,λw=>by simp[binOp,Op.intDiv,h.1,SV.v,Ce.v,cR]⟩
 case rem=>exact⟨_,_,h.2,nU _,λw=>by simp[binOp,Op.intDiv,h.1,SV.v,Ce.v]⟩
 case xor=>exact⟨_,_,h,nU _,λw=>by simp[binOp,Op.intBits,SV.v,Ce.v,cR,VL,IntKind.bits];rfl⟩
 all_goals exact⟨_,_,h,nU _,λw=>by simp[binOp,Op.intArith,Op.intCmp,SV.v,Ce.v,cR]⟩
def PR(a:BinOp)(c:TypeId)(d f:Operand)(b:IntKind)(x:Int)(y:Value)(w:World):(eqGuard a c d f (.int b x) y).run e w=.ok () w:=by
 cases a<;>simp[eqGuard]
def OA(a:BinOp)(c:TypeId)(b d:Operand)(x:Bool)(y:Value)(w:World):(eqGuard a c b d (.bool x) y).run e w=.ok () w:=by
 cases a<;>simp[eqGuard]
def Q2(hd:e.underlying c=some .bool)(x y:Bool)(w:World):(Op.equal c (.bool x) (.bool y)).run e w=.ok (x==y) w:=by
 have:Op.equal c (.bool x) (.bool y)=Op.equalIn (9999+1) c (.bool x) (.bool y):=rfl;rw[this];generalize 9999=h;simp[Op.equalIn,run_underlying hd]
def JF{a:TypeId}(hd:e.underlying c=some (.slice a))(s:O)(w:World):(Op.equal c s.v (.slice none 0 0)).run e w=.ok s.Gh w:=by
 have:Op.equal c s.v (.slice none 0 0)=Op.equalIn (9999+1) c s.v (.slice none 0 0):=rfl;rw[this];generalize 9999=h;cases s<;>simp[Op.equalIn,run_underlying hd,O.v]
def PT(hd:e.underlying c=some (.int .i64))(x y:Int)(w:World):(Op.equalIn (h+1) c (.int .i64 x) (.int .i64 y)).run e w=.ok (x==y) w:=by
 simp[Op.equalIn,run_underlying hd]
def Qf(d:uj e T){u:Nat}(f:fJ T u=some ⟨.cell,[.I],b⟩){a:Array Value}{c:Nat}{v:Value}(h:a[c]? =some v)(w:World):(part u a c).run e w=.ok v w:=by
 simp[part,Ie d f rfl,TI.agg,h]
def Ua(n:uj e T){X Y:Array Value}(A:World):∀(j:List Field)(i:Nat)(l:List (Nat×Nat))(g r:List Ce)(z:Bool),j.map (λf=>(f.offset,f.type))=l->(∀f∈j,f.name≠ "_")->
 (∀k d,g[k]? =some d->X[i+k]? =some d.v)->(∀k d,r[k]? =some d->Y[i+k]? =some d.v)->Yc T i l g r=some z->
 (forIn (m:=Sem) j ((none,()):Option Bool×PUnit) λf _=>do
  if f.name≠ "_" then
   if !(<-Op.equalIn (h+1) f.type (<-part f.type X f.offset) (<-part f.type Y f.offset))then pure (.done (some false,()))else pure (.yield (none,()))
  else pure (.yield (none,()))).run e A=.ok (if z=true then(none,())else(some false,())) A:=by
 intro j
 induction j with
 |nil=>
  intro i l g r z u v p q c
  subst u
  cases g<;>cases r<;>simp[Yc]at c
  subst c
  simp
 |cons f j K=>
  intro i l g r z u v p q c
  subst u
  simp only[cG]at c
  unfold Yc at c
  split at c
  .simp at*
  .rename_i i _ _ _ _ o N l a g b r C
   obtain⟨⟨rfl,rfl⟩,rfl⟩:=by simpa using C
   cases s:Nat.beq f.offset i
   .rw[s]at c;simp at c
   .rw[s]at c;simp only[jH]at c
    have x:=bt s
    split at c
    .rename_i M L w J
     simp only[DK]at c
     obtain⟨⟨B,D,y⟩,_⟩:=ov (n.yH w)
     have F:B=.int .i64:=by unfold An at y;split at y<;>simp_all
     subst F
     have H:X[f.offset]? =some (.int .i64 a):=by have:=p 0 (.i a) rfl;rw[x];exact this
     have I:Y[f.offset]? =some (.int .i64 b):=by have:=q 0 (.i b) rfl;rw[x];exact this
     have G:=K (i+1) _ g r L rfl (λt E=>v t (ai _ E)) (λk d t=>by have:=p (k+1) d (by simpa using t);rw[<-this];congr 1;omega) (λk d t=>by have:=q (k+1) d (by simpa using t);rw[<-this];congr 1;omega) J
     rw[List.forIn_cons,Sem.run_bind,aj (v f aX)]
     simp only[Sem.run_bind,Qf n w H,Qf n w I,Result.andThen_ok,PT D]
     cases t:(a==b)
     .rw[t]at c;subst c;simp
     .rw[t]at c;simp only[Od]at c;subst c
      simp only[Oc,ig,qt,Sem.run_pure,Result.andThen_ok]
      exact G
    .simp at c
  .simp at c
def OB(j:uj e T){a:Array Field}(p:e.underlying c=some (.struct a))(o:e.stoodInHeld c=false)(n:∀f∈a.toList,f.name≠ "_"){r:List Ce}{z:Bool}
 (l:Yc T 0 (a.toList.map λf=>(f.offset,f.type)) g r=some z)(w:World):(Op.equal c (.agg (g.map Ce.v).toArray) (.agg (r.map Ce.v).toArray)).run e w=.ok z w:=by
 have:Op.equal c (.agg (g.map Ce.v).toArray) (.agg (r.map Ce.v).toArray)=Op.equalIn (9998+1+1) c (.agg (g.map Ce.v).toArray) (.agg (r.map Ce.v).toArray):=rfl
 rw[this]
 generalize 9998=h
 rw[Op.equalIn]
 simp only[Sem.run_bind,run_underlying p,Result.andThen_ok]
 have m:=Ua j (h:=h) (X:=(g.map Ce.v).toArray) (Y:=(r.map Ce.v).toArray) w a.toList 0 _ g r z rfl n (λk i b=>by simp[b]) (λk i b=>by simp[b]) l
 have b:(program:Sem Program).run e w=.ok e w:=rfl
 rw[b,Result.andThen_ok,ae (by simp[o]),Sem.run_bind,<-Array.forIn_toList,m]
 cases z<;>rfl
def SF(h:Vk e c=true):∃a,e.underlying c=some (.struct a)/\(∀f∈a.toList,f.name≠ "_")/\e.stoodInHeld c=false/\e.eqGuardType e.depth c=false:=by
 unfold Vk at h;split at h
 .rename_i a b;simp only[bN,List.all_eq_true,vP,iK]at h;exact⟨a,b,h.1.1,h.1.2,h.2⟩
 .cases h
def PQ(h:e.eqGuardType e.depth c=false)(f g:Operand)(a b:Array Value)(w:World):(eqGuard .eql c f g (.agg a) (.agg b)).run e w=.ok () w:=by
 have d:(program:Sem Program).run e w=.ok e w:=rfl;simp only[eqGuard,Sem.run_bind];simp[d,h]
def MN(a:BinOp)(c:TypeId)(b d:Operand)(s:O)(y:Value)(w:World):(eqGuard a c b d s.v y).run e w=.ok () w:=by
 cases s<;>cases a<;>simp[eqGuard,O.v]
def PY(m:uj e T)(d:j9 n i a){z:BinOp}{D:TypeId}(b:rd T i j k (.binOp z c x y D)):oY e T i j a ⟨q,.binOp z c x y D,v,u,p,r⟩ k:=by
 simp only[rd]at b;split at b
 .rename_i L M f l;obtain⟨s,E,A,w,C⟩:=Vg (e:=e) (c:=c) b;refine⟨s,E,A,w,λB _=>?_⟩;simp only[execOp,d.eq f rfl,d.eq l rfl,SV.v,Ce.v,Sem.run_bind];simp[PR,C]
 .rename_i s f l;split at b
  .rename_i I J H A;have w:=(km (m.yH A)).1;have F:a.eval x=s.v:=d.eq f rfl;have G:a.eval y=.slice none 0 0:=d.eq l rfl;cases z<;>simp only[Vu]at b
   all_goals
    first
    |exact b.elim
    |exact⟨_,_,b,nU _,λB _=>by
     have C:∀o:BinOp,o=.eql\/o=.neq->binOp o c s.v (.slice none 0 0)=(if o=.eql then(do pure (.bool (<-Op.equal c s.v (.slice none 0 0))))else(do pure (.bool (!(<-Op.equal c s.v (.slice none 0 0)))))):=by
      intro o E;rcases E with rfl|rfl<;>cases s<;>rfl
     simp only[execOp,F,G,Sem.run_bind,MN,Result.andThen_ok];rw[C _ aL];simp[JF w,SV.v,Ce.v]⟩
  .exact b.elim
 .rename_i g N f l;split at b
  .unfold eqA at b;split at b
   .rename_i G A;split at b
    .rename_i R C;obtain⟨O,w,J,K,H⟩:=SF (m.cmp G);obtain⟨⟨Q,s,I⟩,_⟩:=np (m.yH A);rw[w]at s;obtain rfl:=(TypeDesc.struct.inj (mq s));rw[<-I]at C;refine⟨_,_,b,nU _,λB _=>?_⟩;have E:a.eval x=.agg (g.map Ce.v).toArray:=d.eq f rfl;have F:a.eval y=.agg (N.map Ce.v).toArray:=d.eq l rfl;simp only[execOp,E,F,Sem.run_bind,PQ H,Result.andThen_ok,binOp,OB m w K J C];rfl
    .exact b.elim
   .exact b.elim
  .exact b.elim
 .split at b
  .rename_i L M w f l;obtain⟨⟨h,hd,A⟩,_⟩:=ov (m.yH w);have s:h=.bool:=by
    cases h<;>simp_all [An]
   subst s;cases z<;>simp only[Vf]at b
   all_goals
    first
    |exact b.elim
    |exact⟨_,_,b,nU _,λB _=>by
     simp only[execOp,d.ZL f,d.ZL l,Sem.run_bind,OA,Result.andThen,binOp,Q2 hd];rfl⟩
  .exact b.elim
def MR(d:uj e T)(l:j9 n i a){s:TypeId}(b:rd T i j k (.convert s c x)):oY e T i j a ⟨q,.convert s c x,v,u,p,r⟩ k:=by
 simp only[rd]at b;split at b
 .rename_i B b1 b2 z A t w y;obtain⟨⟨h,hd,_⟩,_⟩:=ov (d.yH t);obtain⟨⟨g,m,f⟩,_⟩:=ov (d.yH w);have o:g=.int .i64:=by unfold An at f;split at f<;>simp_all
  subst o;exact⟨_,_,b,nU _,λC _=>by
   simp only[execOp,l.eq y rfl,SV.v,Ce.v,Sem.run_bind];simp[convert,run_underlying hd,run_underlying m,Conv.intToInt,cR]⟩
 .exact b.elim
def Rb(b:j9 n i a){f:UnOp}(h:rd T i j k (.unOp f c x)):oY e T i j a ⟨q,.unOp f c x,v,u,p,r⟩ k:=by
 simp only[rd]at h;generalize d:ev i x=sx at h;unfold ZP at h;split at h
 .exact⟨_,_,h,nU _,λw _=>by simp[execOp,b.eq d rfl,SV.v,Op.unary]⟩
 .exact⟨_,_,h,nU _,λw _=>by simp[execOp,b.eq d rfl,SV.v,Op.unary]⟩
 .exact⟨_,_,h,nU _,λw _=>by simp[execOp,b.eq d rfl,SV.v,Ce.v,Op.unary]⟩
 .exact⟨_,_,h,nU _,λw _=>by simp[execOp,b.eq d rfl,SV.v,Ce.v,Op.unary,Op.intArith,cR]⟩
 .exact h.elim
def Dr(l:uj e T)(L:j9 n i a){mk:Nat->SV}(E:∀o,(mk o).v=.pointer (some ⟨b,o,none⟩))(J:a.eval x=.pointer (some ⟨b,o,none⟩))(h:FL T c f o mk k):
 oY e T i j a ⟨q,.fieldAddr c x f,v,u,p,r⟩ k:=by
 unfold FL at h
 split at h
 .rename_i N O K H
  split at h
  .rename_i M P s
   split at h
   .rename_i g I
    cases d:(g.uQ||Nat.beq g.sh.length 0)
    .rw[d]at h
     simp only[bu]at d
     obtain⟨⟨z,C,D⟩,_⟩:=np (l.yH H)
     rw[pU,<-D,cU]at s
     obtain⟨y,A,m⟩:=Option.map_eq_some_iff.1 s
     simp only[Og]at m
     obtain⟨rfl,rfl⟩:=m
     have G:=λw=>kE l I d.1 w
     have F:g.sh.length≠0:=λt=>by rw[t]at d;simp at d
     refine⟨_,_,h,nU _,λw _=>?_⟩
     have B:z[f]? =some y:=by simpa using A
     rw[E]
     simp[execOp,Instr.fieldAt,J,run_underlying C,B,Instr.sureAddr,fieldPlace,G,F,vW]
    .rw[d]at h;exact h.elim
   .exact h.elim
  .exact h.elim
 .exact h.elim
def JG(l:uj e T)(d:j9 n i a)(h:rd T i j k (.fieldAddr c x f)):oY e T i j a ⟨q,.fieldAddr c x f,v,u,p,r⟩ k:=by
 simp only[rd]at h;split at h
 .rename_i b o g;exact Dr l d (λo=>rfl) (d.eq g rfl) h
 .rename_i m b o g;exact Dr l d (λo=>rfl) (d.eq g rfl) h
 .exact h.elim
def P1(l:uj e T)(m:j9 n i a)(h:rd T i j k (.field c x f)):oY e T i j a ⟨q,.field c x f,v,u,p,r⟩ k:=by
 simp only[rd]at h;split at h
 .rename_i g C;unfold OC at h;split at h
  .rename_i N O L K;split at h
   .rename_i M P A;split at h
    .rename_i E B;cases b:E.uQ
     .rw[b]at h;obtain⟨⟨G,z,I⟩,_⟩:=np (l.yH K);rw[pU,<-I,cU]at A;obtain⟨F,H,s⟩:=Option.map_eq_some_iff.1 A;simp only[Og]at s;obtain⟨rfl,rfl⟩:=s;have J:=λw=>kE l B b w;have o:=λw=>Ie l B b w;have t:G[f]? =some F:=by simpa using H
      cases d:E.agg
      .simp only[d,mM]at h;split at h
       .rename_i y D;refine⟨_,_,h,nU _,λw _=>?_⟩;rw[pU]at D;simp[execOp,Instr.field,m.eq C rfl,SV.v,run_underlying z,t,asAgg,part,o,d,D]
       .exact h.elim
      .simp only[d,mM,jH]at h;refine⟨_,_,h,nU _,λw _=>?_⟩;simp[execOp,Instr.field,m.eq C rfl,SV.v,run_underlying z,t,asAgg,part,o,d,J,List.map_drop,Of]
     .rw[b]at h;exact h.elim
    .exact h.elim
   .exact h.elim
  .exact h.elim
 .exact h.elim
def JH(l:uj e T)(g:j9 n i a)(h:rd T i j k (.indexAddr c x y)):oY e T i j a ⟨q,.indexAddr c x y,v,u,p,r⟩ k:=by
 simp only[rd]at h;split at h
 .rename_i E J C D;unfold XC at h;split at h
  .rename_i I L G A;split at h
   .rename_i F t;cases f:F.uQ
    .rw[f]at h;obtain⟨m,d,s⟩:=h;have B:=(km (l.yH A)).1;have z:=λw=>kE l t f w;cases E with
     |nil=>simp[O.len]at d;omega
     |zT _ _ _=>simp[O.len]at d;omega
     |mk b o K H=>
      refine⟨_,_,s,nU _,λw _=>?_⟩;simp only[O.len]at d;simp[execOp,Instr.indexAt,g.eq C rfl,g.eq D rfl,SV.v,Ce.v,O.v,asIntOf,run_underlying B,m,d,z,vW,O.D,O.off]
    .rw[f]at h;exact h.elim
   .exact h.elim
  .exact h.elim
 .exact h.elim
def P7:∀(d:List Sh)(b o a:Nat)(k:List Ce->Prop),Wk j b o a d k->∃g,k g/\g.length=d.length/\∀i,i<d.length->af j b (o+a+i)=(g[i]?).map Ce.v
 |[],_,_,_,_,h=>⟨[],h,rfl,λi c=>by simp at c⟩
 |s::r,b,o,a,k,h=>by
  obtain⟨x,n,h⟩:=h;obtain⟨g,l,m,f⟩:=P7 r b o (a+1) _ h;refine⟨s.mk x::g,l,by simp[m],λi c=>?_⟩;cases i with
  |zero=>simpa using n
  |succ i=>
   have:=f i (by simpa using c);have e:o+(a+1)+i=o+a+(i+1):=V;rw[e]at this;simpa using this
def mX(B:uj e T)(S:j9 n i a)(I:a.eval x=.pointer (some ⟨b,o,none⟩)){f:TI}(H:fJ T c=some f)(G:f.uQ=false)
 (K:∀d,d<f.sh.length->(b,o+d)∈Tl T i (.load c x))(E:g.length=f.sh.length)(L:∀z,z<f.sh.length->af j b (o+z)=(g[z]?).map Ce.v)
 {s:SV}(U:s.jI=true)(O:(f.agg=true/\s.v=.agg (g.map Ce.v).toArray)\/(f.agg=false/\∃m,g=[m]/\s.v=m.v))(N:k s):
 oY e T i j a ⟨q,.load c x,v,u,p,r⟩ k:=by
 refine⟨s,s.v,N,nU _,λl R=>?_⟩
 have Q:=kE B H G l
 have C:=Ie B H G l
 have D:∀d,d<f.sh.length->af l.heap b (o+d)=(g[d]?).map Ce.v:=λd h=>by rw[R (b,o+d) (K d h),L d h]
 rcases O with⟨t,y⟩|⟨t,m,y,J⟩
 .have F:=run_loadCells_list (P:=e) (w:=l) ⟨b,o,none⟩ (g.map Ce.v) (λd V h=>by
   rw[vW,zQ];have M:d<f.sh.length:=by
    rcases aZ d f.sh.length with A|A
    .exact A
    .rw[da bJ]at h;simp at h
   rw[D d M,<-cU,h])
  simp only[dW]at F
  simp only[execOp,Instr.loadAt,I,Instr.sureAddr,loadVar,Sem.run_bind,Sem.run_pure,C,t,Result.andThen_ok,Q,MI]
  simp[<-E,F,y]
 .subst y
  have A:=D 0 (by rw[<-E];simp)
  simp at A
  simp only[execOp,Instr.loadAt,I,Instr.sureAddr,loadVar,Sem.run_bind,Sem.run_pure,C,t,Result.andThen_ok]
  simp[zQ,A,J]
def Je(C:uj e T)(B:j9 n i a)(D:a.eval x=.pointer (some ⟨b,o,none⟩))
 (A:∀d f,fJ T c=some d->f<d.sh.length->(b,o+f)∈Tl T i (.load c x))(h:P8 T j c b o k):oY e T i j a ⟨q,.load c x,v,u,p,r⟩ k:=by
 unfold P8 at h
 split at h
 .rename_i H I F d
  obtain⟨g,w,G,E⟩:=P7 _ _ _ _ _ h
  exact mX C B D d rfl (λf t=>A _ f d t) G (λz m=>by simpa using E z m) (s:=.agg g) rfl (Or.inl ⟨rfl,rfl⟩) w
 .rename_i G F d
  obtain⟨y,E,w⟩:=h
  exact mX C B D d rfl (λf t=>A _ f d t) (g:=[G.mk y]) rfl (λz m=>by
   have:z=0:=by simpa using m
   subst this;exact E) (s:=.c (G.mk y)) rfl (Or.inr ⟨rfl,_,rfl,rfl⟩) w
 .rename_i G H F d
  obtain⟨y,E,w⟩:=h
  exact mX C B D d rfl (λf t=>A _ f d t) (g:=[.s y]) rfl (λz m=>by
   have:z=0:=by simpa using m
   subst this;exact E) (s:=.c (.s y)) rfl (Or.inr ⟨rfl,_,rfl,rfl⟩) w
 .exact h.elim
def Mt:∀{a:List Ce}{b o:Nat}{g:List Ce},Hg a o b=some g->g.length=b/\∀i,i<b->a[o+i]? =g[i]?
 |a,0,o,g,h=>by simp[Hg]at h;subst h;simp
 |a,b+1,o,g,h=>by
  simp only[Hg]at h;split at h
  .rename_i j r c f;simp at h;subst h;obtain⟨d,e⟩:=Mt f;refine⟨by simp[d],λi k=>?_⟩;cases i with
   |zero=>rw[pU]at c;simpa using c
   |succ i=>
    have:=e i V;rw[show o+(i+1)=o+1+i by omega];simpa using this
  .simp at h
def Jd(C:uj e T)(B:j9 n i a){H:Nat}{G:List Ce}(E:a.eval x=.pointer (some ⟨b,o,none⟩))
 (A:∀d m,fJ T c=some d->m<d.sh.length->(b,o+m)∈Tl T i (.load c x))(I:j[b]? =some (.cells (G.map Ce.v).toArray H))(h:NE T c G o k):
 oY e T i j a ⟨q,.load c x,v,u,p,r⟩ k:=by
 have D:∀f,af j b f=(G[f]?).map Ce.v:=λf=>by simp[af,I]
 unfold NE at h
 split at h
 .rename_i K L F d
  split at h
  .rename_i g J
   obtain⟨t,w⟩:=Mt J
   exact mX C B E d rfl (λm z=>A _ m d z) t (λf y=>by rw[D,w f y]) (s:=.agg g) rfl (Or.inl ⟨rfl,rfl⟩) h
  .exact h.elim
 .rename_i J F d
  split at h
  .rename_i t w
   rw[pU]at w
   exact mX C B E d rfl (λm z=>A _ m d z) (g:=[t]) rfl (λf y=>by
    have:f=0:=by simpa using y
    subst this;rw[D];simp[w]) (s:=.c t) rfl (Or.inr ⟨rfl,_,rfl,rfl⟩) h
  .exact h.elim
 .rename_i H J F d
  split at h
  .rename_i t w
   rw[pU]at w
   exact mX C B E d rfl (λm z=>A _ m d z) (g:=[t]) rfl (λf y=>by
    have:f=0:=by simpa using y
    subst this;rw[D];simp[w]) (s:=.c t) rfl (Or.inr ⟨rfl,_,rfl,rfl⟩) h
  .exact h.elim
 .rename_i L K J F d
  split at h
  .rename_i t w
   rw[pU]at w
   exact mX C B E d rfl (λm z=>A _ m d z) (g:=[t]) rfl (λf y=>by
    have:f=0:=by simpa using y
    subst this;rw[D];simp[w]) (s:=.c t) rfl (Or.inr ⟨rfl,_,rfl,rfl⟩) h
  .exact h.elim
 .exact h.elim
def Q9(l:uj e T)(d:j9 n i a)(B:Bx n i j)(h:rd T i j k (.load c x)):oY e T i j a ⟨q,.load c x,v,u,p,r⟩ k:=by
 simp only[rd]at h;split at h
 .rename_i b o f;exact Je l d (d.eq f rfl) (λm g A z=>by simp only[Tl,f,A];exact List.mem_map.2 ⟨g,List.mem_range.2 z,rfl⟩) h
 .rename_i C b o f;have w:∀m g,fJ T c=some m->g<m.sh.length->(b,o+g)∈Tl T i (.load c x):=λm g A z=>by simp only[Tl,f,A];exact List.mem_map.2 ⟨g,List.mem_range.2 z,rfl⟩
  split at h
  .rename_i D t s y;obtain⟨rfl,h⟩:=h;exact Jd l d (d.eq f rfl) w (B.D C _ t s (Or.inl y)) h
  .rename_i D t s y;obtain⟨rfl,h⟩:=h;exact Jd l d (d.eq f rfl) w (B.D C _ t s (Or.inr y)) h
  .exact Je l d (d.eq f rfl) w h
 .exact h.elim
end
end Go.Vc
end
section
namespace Go.Vc
variable{x:Operand}{t:TypeId}
variable{P:Program}{T:TT}
section
variable{n:Nat}{b:Fr}{a:Act}{m:E}{k:SV->Prop}{d:Option Tmp}{g:TypeId}{f:String}{c:Array Edge}{e:Option (Nat×Bool)}
def MS(l:j9 n b a){j:Nat}(h:rd T b m k (.extract x j)):oY P T b m a ⟨d,.extract x j,g,f,c,e⟩ k:=by
 simp only[rd]at h;split at h
 .rename_i p o;split at h
  .rename_i y i;refine⟨_,_,h,nU _,λw _=>?_⟩;rw[pU]at i;rw[AV.aai];have:a.eval x=.tuple (p.map AV.v).toArray:=l.eq o rfl;simp[execOp,Instr.extract,this,i]
  .exact h.elim
 .exact h.elim
def NN(c:j9 n b a){x:Option Operand}{d:Int}{k:Int->Prop}(h:MY b x d k):
 (x=none/\k d)\/∃y i,x=some y/\a.eval y=.int .i64 i/\k i:=by
 unfold MY at h
 split at h
 .exact Or.inl ⟨rfl,h⟩
 .rename_i y
  split at h
  .rename_i i e
   exact Or.inr ⟨y,i,rfl,c.eq e rfl,h⟩
  .exact h.elim
def pX(k:IntKind)(i:Int)(y:Nat)(c:BoundsCode)(a:0<=i)(b:i<=y)(w:World):(Instr.sliceBound (.int k i) y c).run P w=.ok i.toNat w:=by
 simp[Instr.sliceBound,asIntOf,a,b]
def YE(b o l c a d e:Nat):(O.cut (.mk b o l c) a d e).v=.slice (if c=a then some ⟨b,o,none⟩else(some (⟨b,o,none⟩:Addr)).map (·.add (a*e))) (d -a) (c -a):=by
 show Value.slice _ _ _=_;simp only[vW,oA];split<;>rfl
def P2(J:uj P T)(r:j9 n b a){A y:Option Operand}(i:rd T b m k (.slice t x A y none)):oY P T b m a ⟨d,.slice t x A y none,g,f,c,e⟩ k:=by
 simp only[rd]at i;split at i
 .rename_i s G;unfold Rv at i;split at i
  .rename_i v N M L;split at i
   .rename_i B K;cases D:B.uQ
    .rw[D]at i;have F:=(km (J.yH L)).1;have E:=λw=>kE J K D w;have z:∀(l h:Int),0<=l->l<=h->h<=(s.cap:Int)->
      (∀w:World,(Instr.sliceBounds true s.len s.cap (A.map a.eval) (y.map a.eval) none).run P w=.ok (l.toNat,h.toNat,s.cap) w)->
      ∀w:World,(execOp a.eval ⟨d,.slice t x A y none,g,f,c,e⟩).run P w=.ok (.value (Ce.s (s.cut l.toNat h.toNat B.sh.length)).v) w:=by
      intro l h o p j q w
      cases s with
      |nil=>
       simp only[O.cap,O.len]at q j
       have:h=0:=V
       have:l=0:=V
       subst this;subst h
       simp[execOp,Instr.sliceAt,r.eq G rfl,SV.v,Ce.v,O.v,run_underlying F,Instr.slice,q,E,O.cut]
      |zT u C H=>
       simp only[O.cap,O.len]at q j
       have:h=0:=V
       have:l=0:=V
       subst this;subst h
       simp[execOp,Instr.sliceAt,r.eq G rfl,SV.v,Ce.v,O.v,run_underlying F,Instr.slice,q,E,O.cut]
      |mk u I H C=>
       simp only[O.cap,O.len]at q
       have v:(Ce.s ((O.mk u I H C).cut l.toNat h.toNat B.sh.length)).v=_:=YE u I H C l.toNat h.toNat B.sh.length
       rw[v]
       have:a.eval x=.slice (some ⟨u,I,none⟩) H C:=r.eq G rfl
       simp[execOp,Instr.sliceAt,this,run_underlying F,Instr.slice,q,E]
     simp only[mM]at i;rcases NN r i with⟨rfl,C⟩|⟨Q,l,rfl,H,C⟩<;>rcases NN r C with⟨rfl,o,p,j,u⟩|⟨R,h,rfl,I,o,p,j,u⟩
     .exact⟨_,_,u,nU _,λw _=>z _ _ o p j (λw=>by simp[Instr.sliceBounds]) w⟩
     .exact⟨_,_,u,nU _,λw _=>z _ _ o p j (λw=>by simp[Instr.sliceBounds,I,pX _ _ _ _ (by omega:0<=h) j]) w⟩
     .exact⟨_,_,u,nU _,λw _=>z _ _ o p j (λw=>by simp[Instr.sliceBounds,H,pX _ _ _ _ o p]) w⟩
     .exact⟨_,_,u,nU _,λw _=>z _ _ o p j (λw=>by
       have v:l<=(h.toNat:Int):=V;simp[Instr.sliceBounds,I,H,pX _ _ _ _ (by omega:0<=h) j,pX _ _ _ _ o v]) w⟩
    .rw[D]at i;exact i.elim
   .exact i.elim
  .exact i.elim
 .exact i.elim
def KO(w:uj P T)(q:j9 n b a)(p:List (Nat×Nat))(je:Nat->Option (Nat×Nat))
 (r:∀i d t f,HU p i=some (d,t)->fJ T t=some f->f.uQ=false->je i=some (d,f.sh.length)):
 ∀(s:List (Nat×Operand))(c:List Ce)(k:List Ce->Prop),FF T b p c s k->
  ∃l,k l/\Instr.fill je (c.map Ce.v).toArray (s.map λe=>(e.1,a.eval e.2))=some (l.map Ce.v).toArray
 |[],c,k,h=>⟨c,h,rfl⟩
 |(i,x)::H,c,k,h=>by
  simp only[FF]at h;split at h
  .rename_i d t e E D;split at h
   .rename_i f F;cases g:(!f.uQ&&Nat.beq e.length f.sh.length&&Nat.ble (d+e.length) c.length)
    .rw[g]at h;exact h.elim
    .rw[g]at h;simp only[bN,iK]at g;obtain⟨⟨y,m⟩,o⟩:=g;have m:=bt m;have o:=lM o;obtain⟨l,A,C⟩:=KO w q p je r H (mr c d e) k h;refine⟨l,A,?_⟩;obtain⟨B,z⟩:=pN D;have G:a.eval x=(ev b x).v:=q.eq rfl B;simp only[cG,Instr.fill,r i d t f E F y,G,z,DJ,dW,m];rw[ae bJ,<-C];congr 1;apply BO;intro j;have u:=NI (e.map Ce.v) 0 d (c.map Ce.v).toArray j;rw[<-aak,ZR];have v:=Ca c d e j o;rw[show((List.map Ce.v (mr c d e)).toArray)[j]? =((mr c d e)[j]?).map Ce.v by simp,v];rw[u];simp;split<;>split<;>first|rfl|(exfalso;omega)|(congr 1;omega)
   .exact h.elim
  .exact h.elim
def Y6(T:TT)(t:Nat):Nat:=match fJ T t with|some a=>a.sh.length|none=>0
def Jm(c:uj P T)(w:World):∀(a:List Field),(∀f∈a,∃b,fJ T f.type=some b/\b.uQ=false)->
 (a.mapM (λf=>do pure (f.offset,<-sizeOf f.type):Field->Sem (Nat×Nat))).run P w=.ok (a.map λf=>(f.offset,Y6 T f.type)) w
 |[],_=>aL
 |f::a,h=>by
  obtain⟨b,d,j⟩:=h f aL;have e:=Jm c w a (λg i=>h g (by simp[i]));simp only[UO,Sem.run_bind,kE c d j,Result.andThen_ok,Sem.run_pure]at e⊢;rw[e];simp[Y6,d]
def Jo:∀{d:List (Nat×Nat)},vy T d=true->∀p∈d,∃a,fJ T p.2=some a/\a.uQ=false
 |[],_,_,h=>by simp at h
 |(o,t)::r,h,p,c=>by
  simp only[vy,bN]at h;rcases List.mem_cons.1 c with rfl|c
  .have b:=h.1;split at b
   .rename_i a e;exact⟨a,e,by simpa using b⟩
   .simp at b
  .exact Jo h.2 p c
def PZ(l:uj P T)(z:j9 n b a){o:Array (Nat×Operand)}(i:rd T b m k (.build t o)):oY P T b m a ⟨d,.build t o,g,f,c,e⟩ k:=by
 simp only[rd]at i;split at i
 .rename_i y K M v;cases q:vy T y
  .rw[q]at i;exact i.elim
  rw[q]at i;obtain⟨⟨j,D,s⟩,_⟩:=np (l.yH v);obtain⟨L,I,J,Q⟩:=wC l v rfl;have A:∀h∈j.toList,∃r,fJ T h.type=some r/\r.uQ=false:=λh B=>
   Jo q (h.offset,h.type) (by rw[<-s];exact List.mem_map.2 ⟨h,B,rfl⟩)
  have G:∀w:World,(j.mapM (λh=>do pure (h.offset,<-sizeOf h.type):Field->Sem (Nat×Nat))).run P w=.ok (j.toList.map λh=>(h.offset,Y6 T h.type)).toArray w:=by
   intro w;rw[UX,Sem.run_map,Jm l w j.toList A];rfl
  obtain⟨R,E,F⟩:=KO l z y (λx=>((j.toList.map λh=>(h.offset,Y6 T h.type)).toArray)[x]?) (λx S t r u H O=>by
   rw[pU,<-s,cU]at u;obtain⟨N,C,p⟩:=Option.map_eq_some_iff.1 u;simp only[Og]at p;obtain⟨rfl,rfl⟩:=p;simp only[lL,cU,C,oA,Y6,H]) _ _ _ i
  refine⟨_,_,E,nU _,λw _=>?_⟩;have u:L.cells=((K.map Sh.zero).map Ce.v).toArray:=by
   apply Array.toList_inj.1;simp[I]
  have C:(o.map λp=>(p.1,a.eval p.2)).toList=o.toList.map λp=>(p.1,a.eval p.2):=aL;simp only[execOp,Instr.build,Sem.run_bind,J,Result.andThen_ok,run_underlying D,G,u,C,F];simp[SV.v]
 .exact i.elim
def BW(d:j9 n b a):∀{c:List Operand},c.all (λx=>(ev b x).jI)=true->c.map a.eval=c.map λx=>(ev b x).v
 |[],_=>rfl
 |x::c,h=>by
  simp only[Oe,bN]at h;simp only[cG,d.eq rfl h.1,BW d h.2]
def MQ(v:uj P T)(l:j9 n b a){s:Builtin}{i:Array Operand}{r:Array TypeId}(h:rd T b m k (.call ⟨.builtin s,i,r⟩)):
 oY P T b m a ⟨d,.call ⟨.builtin s,i,r⟩,g,f,c,e⟩ k:=by
 simp only[rd]at h
 unfold TM at h
 split at h
 .rename_i t x z p
  split at h
  .rename_i D E C q y o
   refine⟨_,_,h,nU _,λw _=>?_⟩
   have A:=(km (v.yH y)).1
   have u:r=#[t]:=Array.toList_inj.1 (by simpa using z)
   have j:i=#[x]:=Array.toList_inj.1 (by simpa using p)
   subst u;subst j
   have B:a.eval x=q.v:=l.eq o rfl
   cases q<;>simp[execOp,resolve,invoke,builtin,Builtin.len_,run_underlying A,B,O.v,goInt,SV.v,Ce.v,O.len]
  .exact h.elim
 .rename_i x y p
  split at h
  .rename_i u z o q
   refine⟨_,_,h,nU _,λw _=>?_⟩
   have j:i=#[x,y]:=Array.toList_inj.1 (by simpa using p)
   subst j
   simp[execOp,resolve,invoke,builtin,Builtin.max_,Builtin.max2,l.eq o rfl,l.eq q rfl,SV.v,Ce.v]
  .exact h.elim
 .rename_i x y p
  split at h
  .rename_i u z o q
   refine⟨_,_,h,nU _,λw _=>?_⟩
   have j:i=#[x,y]:=Array.toList_inj.1 (by simpa using p)
   subst j
   simp[execOp,resolve,invoke,builtin,Builtin.min_,Builtin.min2,l.eq o rfl,l.eq q rfl,SV.v,Ce.v]
  .exact h.elim
 .exact h.elim
def LF(j:uj P T)(i:j9 n b a)(s:Bx n b m)(o:Oper)(h:rd T b m k o.op):oY P T b m a o k:=by
 obtain⟨d,l,g,f,c,e⟩:=o;cases l with
 |move x=>exact Ue i h
 |assign x=>exact SK i h
 |pick p x y=>exact Ra i h
 |nilCheck x=>exact Lc i h
 |binOp l t x y q=>exact PY j i h
 |unOp l t x=>exact Rb i h
 |convert q t x=>exact MR j i h
 |fieldAddr t x q=>exact JG j i h
 |field t x q=>exact P1 j i h
 |indexAddr t x y=>exact JH j i h
 |load t x=>exact Q9 j i s h
 |extract x r=>exact MS i h
 |slice t x u r mx=>cases mx with
  |none=>exact P2 j i h
  |some y=>exact h.elim
 |build t r=>exact PZ j i h
 |call p=>
  obtain⟨r,u,w⟩:=p;cases r with
  |builtin v=>exact MQ j i h
  |value q=>exact h.elim
  |invoke v q=>exact h.elim
 |_=>exact h.elim
end
end Go.Vc
end
section
namespace Go.Vc
variable{m m':E}{b o e n q:Nat}{l:List Ce}
def ag(m:E)(b o:Nat):List Ce->E
 |[]=>m
 |c::r=>ag (rH m b o c.v) b (o+1) r
def eC(m:E)(b o n:Nat):Prop:=∀j,j<n->(af m b (o+j)).isSome=true/\vY m b (o+j)=false
def fX(m:E)(b o:Nat)(l:List Ce):Prop:=∀(i:Nat)(c:Ce),l[i]? =some c->af m b (o+i)=some c.v
def nE(a:List Ce)(n:Nat):List Ce:=(List.replicate n a).flatten
def bA(l:List Ce):Array Value:=(l.map Ce.v).toArray
def Rr(m:E)(b o:Nat)(v:Value):(rH m b o v).size=m.size:=by simp[rH]
def LU(m:E)(b o:Nat)(v:Value){j:Nat}(h:j≠b):(rH m b o v)[j]? =m[j]? :=by
 simp only[rH,lK];rw[ae (λe=>h e.symm)]
def aw:∀(l:List Ce)(m:E)(b o:Nat),(ag m b o l).size=m.size
 |[],_,_,_=>rfl
 |c::r,m,b,o=>by simp only[ag];rw[aw r,Rr]
def bo:∀(l:List Ce)(m:E)(b o:Nat){j:Nat},j≠b->(ag m b o l)[j]? =m[j]?
 |[],_,_,_,_,_=>rfl
 |c::r,m,b,o,j,h=>by simp only[ag];rw[bo r _ _ _ h,LU m b o _ h]
def mW{v:Value}(h:af m b o=some v):b<m.size:=by
 rcases aZ b m.size with a|a
 .exact a
 .simp[af,I7 a]at h
def aJ(h:m'[b]? =m[b]?)(o:Nat):af m' b o=af m b o:=by simp only[af,h]
def cw(m:E)(b:Nat)(e:Nat)(l:List Ce):Prop:=m[b]? =some (.cells (bA l) e)
def UF(l:List Ce)(i:Nat):(bA l)[i]? =(l[i]?).map Ce.v:=by simp[bA]
def cw.bU(h:cw m b e l)(o:Nat):af m b o=(l[o]?).map Ce.v:=by
 have a:m[b]? =some (.cells (bA l) e (0,0)):=h;simp only[af,a,UF]
def cw.iF(h:cw m b e l):fX m b 0 l:=λi c a=>by rw[h.bU,cE,a];rfl
def cw.lt(h:cw m b e l):b<m.size:=(Array.getElem?_eq_some_iff.1 h).1
def cw.vY{m:E}{b e:Nat}{l:List Ce}(h:cw m b e l)(o:Nat):vY m b o=false:=by
 have a:m[b]? =some (.cells (bA l) e (0,0)):=h;simp[Vc.vY,a]
def cw.eC(h:cw m b e l)(c:o+n<=l.length):eC m b o n:=λj a=>by
 refine⟨?_,h.vY _⟩;rw[h.bU];simp;omega
def cw.push(m:E)(l:List Ce)(e:Nat):cw (m.push (.cells (bA l) e)) m.size e l:=by simp[cw]
def cw.congr(a:cw m b e l)(h:m'[b]? =m[b]?):cw m' b e l:=by
 unfold cw at*;rw[h];exact a
def cw.rH{m:E}{b e:Nat}{l:List Ce}(h:cw m b e l)(o:Nat)(c:Ce):cw (rH m b o c.v) b e (l.set o c):=by
 have d:m[b]? =some (.cells (bA l) e (0,0)):=h;have f:=h.lt;simp only[cw,Vc.rH,lK,MI,d,oA];congr 2;apply BO;intro i;simp only[bA,Array.getElem?_setIfInBounds,lL,cU,jE,DJ,dW];by_cases e:o=i
 .subst e;by_cases a:o<l.length
  .simp[a]
  .simp[a]
 .simp[e]
def js(l:List Ce)(o:Nat):List Ce->List Ce
 |[]=>l
 |c::r=>js (l.set o c) (o+1) r
def kT:∀(r l:List Ce)(o:Nat),(js l o r).length=l.length
 |[],_,_=>rfl
 |c::r,l,o=>by simp only[js];rw[kT r];simp
def wD:∀(r l:List Ce)(o i:Nat),(js l o r)[i]? =if o<=i/\i<o+r.length/\i<l.length then r[i -o]? else l[i]?
 |[],l,o,i=>by simp[js];intro h;omega
 |c::r,l,o,i=>by
  simp only[js];rw[wD r,jE];simp only[eE,aV];by_cases b:o=i
  .subst b;by_cases a:o<l.length
   .simp[a];try omega
   .simp[a];try omega
  .by_cases a:o<=i/\i<o+(r.length+1)/\i<l.length
   .rw[aj a,aj V,show i -o=(i -(o+1))+1 by omega,gX]
   .rw[ae a,ae V];simp[b]
def cw.ag{m:E}{b e:Nat}:∀{r l:List Ce}{m:E}{o:Nat},cw m b e l->cw (ag m b o r) b e (js l o r)
 |[],_,_,_,h=>h
 |c::r,l,m,o,h=>by
  simp only[Vc.ag,js];exact cw.ag (m:=m) (h.rH o c)
def vw(t:Nat):List Nat->Bool
 |[]=>false
 |u::r=>Nat.beq u t||vw t r
def HP{t:Nat}:∀{M:List Nat},vw t M=true->t∈M
 |[],h=>by simp[vw]at h
 |u::r,h=>by
  simp only[vw,bV]at h;rcases h with h|h
  .rw[bt h];exact aX
  .exact ai _ (HP h)
def MH(n:Nat):Fr->List Nat->List Nat
 |[],_=>[]
 |(q,x)::r,a=>bif Nat.ble n q&&!vw q a then
  match x with
  | .box b _ _=>b::MH n r (q::a)
  | .zO b _ _=>b::MH n r (q::a)
  |_=>MH n r (q::a)
  else MH n r a
def dY(l:List Nat)(m m':E):Prop:=∀b∈l,m'[b]? =m[b]?
def Av(l:List Nat)(m m':E)(k:Prop):Prop:=
 match l with
 |[]=>k
 |_=>dY l m m'/\k
def mG{l:List Nat}{k:Prop}(h:Av l m m' k):dY l m m'/\k:=by
 unfold Av at h;split at h
 .exact⟨(λb a=>by cases a),h⟩
 .exact h
def Hj{n:Nat}{q b e:Nat}{l:List Ce}(c:n<=q):∀{j:Fr}{a:List Nat},q∉a->lP j q b e l->b∈MH n j a
 |[],a,_,h=>by rcases h with h|h<;>simp[gZ]at h
 |(u,x)::r,a,g,h=>by
  simp only[MH];cases f:Nat.beq u q
  .have k:u≠q:=λe=>by subst e;simp at f
   have d:lP r q b e l:=by
    unfold lP at h⊢;simpa only[gZ,f,mM]using h
   have i:q∉u::a:=by
    simp only[aS,ui];exact⟨λe=>k e.symm,g⟩
   cases(Nat.ble n u&&!vw u a)
   .exact Hj c g d
   .simp only[jH];split
    .exact ai _ (Hj c i d)
    .exact ai _ (Hj c i d)
    .exact Hj c i d
  .have:=bt f;subst this;have i:vw u a=false:=by
    cases k:vw u a
    .rfl
    .exact absurd (HP k) g
   have d:Nat.ble n u=true:=Ym c;simp only[i,d,MC,Bool.and_self,jH];unfold lP at h;simp only[gZ,f,jH]at h;rcases h with h|h<;>rw[h]<;>exact aX
def Bx.fZ{c:Fr}(h:Bx n c m){x:SV}(i:∀b e l,x≠.box b e l/\x≠.zO b e l):Bx n ((q,x)::c) m:=by
 have d:∀{u b e l},lP ((q,x)::c) u b e l->lP c u b e l:=by
  intro u b e l a;unfold lP at a⊢;simp only[gZ]at a;cases g:Nat.beq q u
  .rw[g]at a;exact a
  .rw[g]at a;rcases a with a|a
   .exact absurd a (i b e l).1
   .exact absurd a (i b e l).2
 exact⟨λq b e l f=>h.D q b e l (d f),λq t b e l j k s r o p=>h.Ow q t b e l j k s r (d o) (d p),λq b e l f=>h.key q b e l (d f)⟩
def SV.YZ(x:SV)(b e:Nat)(l:List Ce):x.nb≠.box b e l/\x.nb≠.zO b e l:=by
 cases x<;>exact⟨by simp[SV.nb],by simp[SV.nb]⟩
def Bx.put{a:Fr}(h:Bx n a m)(d:Option Nat)(x:SV):Bx n (uo a d x) m:=by
 cases d with
 |none=>exact h
 |some d=>exact h.fZ (SV.YZ x)
def Bx.dv{a:Fr}(h:Bx n a m)(d:dY (MH n a []) m m'):Bx n a m':=
 ⟨λq b e l c=>by rw[d b (Hj (h.key q b e l c) aL c)];exact h.D q b e l c,h.Ow,h.key⟩
def Bx.push{a:Fr}(h:Bx n a m)(o:Obj):Bx n a (m.push o):=
 ⟨λq b e l d=>by
  have c:=h.D q b e l d;have f:=(Array.getElem?_eq_some_iff.1 c).1;rw[mR,ae V];exact c,h.Ow,h.key⟩
def Bx.new{d:Fr}(h:Bx n d m)(x:n<=q)(t:Nat)(l:List Ce):Bx n ((q,.box m.size t l)::d) (m.push (.cells (bA l) t)):=by
 have w:=h.push (.cells (bA l) t);have p:∀{u b e l},lP d u b e l->b<m.size:=λa=>(Array.getElem?_eq_some_iff.1 (h.D _ _ _ _ a)).1;have g:∀{u b e c},lP ((q,.box m.size t l)::d) u b e c->(u=q/\b=m.size/\e=t/\c=l)\/(u≠q/\lP d u b e c):=by
  intro u b e c a;unfold lP at a⊢;simp only[gZ]at a;cases f:Nat.beq q u
  .rw[f]at a;exact Or.inr ⟨λe=>by subst e;simp at f,a⟩
  .rw[f]at a;have:=bt f;subst this;rcases a with a|a
   .simp at a;exact Or.inl ⟨rfl,a.1.symm,a.2.1.symm,a.2.2.symm⟩
   .simp at a
 refine⟨λu b e c a=>?_,λu B b e z r s A o v k=>?_,λu b e c a=>?_⟩
 .rcases g a with⟨rfl,rfl,rfl,rfl⟩|⟨_,a⟩
  .simp[bA]
  .exact w.D u b e c a
 .rcases g v with⟨rfl,rfl,rfl,rfl⟩|⟨f,j⟩
  .rcases g k with⟨rfl,rfl,rfl,rfl⟩|⟨y,i⟩
   .exact absurd rfl o
   .have:=p i;omega
  .rcases g k with⟨rfl,rfl,rfl,rfl⟩|⟨y,i⟩
   .have:=p j;omega
   .exact h.Ow u B b e z r s A o j i
 .rcases g a with⟨rfl,rfl,rfl,rfl⟩|⟨_,a⟩
  .exact x
  .exact h.key u b e c a
def Bx.pu{j:Fr}(h:Bx n j m){f:List Ce}(E:gZ j q=.box b e f)(o:Nat)(l:List Ce):Bx n ((q,.box b e (js f o l))::j) (ag m b o l):=by
 have k:lP j q b e f:=Or.inl E;have D:cw m b e f:=h.D q b e f k;have p:∀{u c d g},lP ((q,.box b e (js f o l))::j) u c d g->(u=q/\c=b/\d=e/\g=js f o l)\/(u≠q/\lP j u c d g):=by
  intro u c d g a;unfold lP at a⊢;simp only[gZ]at a;cases i:Nat.beq q u
  .rw[i]at a;exact Or.inr ⟨λe=>by subst e;simp at i,a⟩
  .rw[i]at a;have:=bt i;subst this;rcases a with a|a
   .simp at a;exact Or.inl ⟨rfl,a.1.symm,a.2.1.symm,a.2.2.symm⟩
   .simp at a
 refine⟨λu c d g a=>?_,λu s b1 t A b2 v B y C x=>?_,λu c d g a=>?_⟩
 .rcases p a with⟨rfl,rfl,rfl,rfl⟩|⟨i,a⟩
  .exact cw.ag (m:=m) D
  .rw[bo l m b o (h.Ow u q c d g b e f i a k)];exact h.D u c d g a
 .rcases p C with⟨rfl,rfl,rfl,rfl⟩|⟨i,w⟩
  .rcases p x with⟨rfl,rfl,rfl,rfl⟩|⟨z,r⟩
   .exact absurd rfl y
   .exactλe=>h.Ow s u b2 v B _ _ _ z r k e.symm
  .rcases p x with⟨rfl,rfl,rfl,rfl⟩|⟨z,r⟩
   .exact h.Ow u s b1 t A _ _ _ i w k
   .exact h.Ow u s b1 t A b2 v B y w r
 .rcases p a with⟨rfl,rfl,rfl,rfl⟩|⟨_,a⟩
  .exact h.key u c d f k
  .exact h.key u c d g a
def FJ(a:Fr):List Ce->Option Fr
 |[]=>some a
 | .bp q _ _::r=>match gZ a q with
  | .zO _ _ _=>none
  |_=>FJ ((q,.fZ)::a) r
 |_::r=>FJ a r
def AV.Vj:AV->List Ce
 | .c x=>[x]
 | .agg l=>l
def SV.Vj:SV->List Ce
 | .c x=>[x]
 | .agg l=>l
 | .XR l=>l.flatMap AV.Vj
 |_=>[]
def Ub(a:Fr)(l:List SV):Option Fr:=FJ a (l.flatMap SV.Vj)
def qG{n:Nat}{f:Act}{m:E}:∀{l:List Ce}{a c:Fr},FJ a l=some c->j9 n a f->Bx n a m->j9 n c f/\Bx n c m
 |[],a,c,h,e,d=>by simp[FJ]at h;subst h;exact⟨e,d⟩
 |g::r,a,c,h,e,d=>by
  cases g with
  |bp q b o=>
   simp only[FJ]at h;split at h
   .simp at h
   .exact qG h (e.fZ q) (d.fZ aL)
  |_=>exact qG (l:=r) (by simpa[FJ]using h) e d
end Go.Vc
end
section
namespace Go.Vc
variable{P:Program}{T:TT}
def ON(m:E)(k:E->Prop):Prop:=k m
def jM(m:E)(f:Nat)(b:List Ce)(e:Nat)(s x:O)(k:O->E->Prop):Prop:=
 ∃a:List Ce,a.length=x.len*b.length/\fX m x.D x.off a/\
  (s.len+x.len<=s.cap->eC m s.D (s.off+s.len*b.length) a.length/\
   k (match s with| .nil=>.nil| .mk d o l c=>.mk d o (l+x.len) c| .zT d o g=>.zT d o g) (ag m s.D (s.off+s.len*b.length) a))/\
  (s.cap<s.len+x.len->(s.len+x.len)*e<=140737488355328/\∃old:List Ce,old.length=s.len*b.length/\fX m s.D s.off old/\
   ∀c,s.len+x.len<=c->k (.mk m.size 0 (s.len+x.len) c) (m.push (.cells (bA (old++a++nE b (c -(s.len+x.len)))) f)))
def Xx(m:E)(c:Nat)(s x:O)(k:SV->E->Prop):Prop:=
 ∃a:List Ce,a.length=Nat.min x.len s.len*c/\fX m x.D x.off a/\eC m s.D s.off a.length/\
  ON (ag m s.D s.off a) λb=>k (.c (.i (Nat.min x.len s.len:Nat))) b
def UU:List Sh->(List Ce->Prop)->Prop
 |[],k=>k []
 |s::r,k=>∃x:s.ty,UU r λl=>k (s.mk x::l)
def SI(T:TT):List Nat->(List AV->Prop)->Prop
 |[],k=>k []
 |t::r,k=>match fJ T t with
  |some ⟨.struct _,b,_⟩=>UU b λl=>SI T r λa=>k (.agg l::a)
  |some ⟨.cell,[s],_⟩=>∃x:s.ty,SI T r λa=>k (.c (s.mk x)::a)
  |some ⟨.slice _,[_],_⟩=>∃x:O,SI T r λa=>k (.c (.s x)::a)
  |_=>False
def Qj(T:TT)(t:Nat)(v:Value)(k:SV->Prop):Prop:=
 match fJ T t with
 |some ⟨.tuple [],_,_⟩=>k .fZ
 |some ⟨.tuple a,_,_⟩=>SI T a λl=>v=.tuple (l.map AV.v).toArray/\k (.XR l)
 |some ⟨.struct _,a,_⟩=>UU a λl=>v=.agg (l.map Ce.v).toArray/\k (.agg l)
 |some ⟨.cell,[s],_⟩=>∃x:s.ty,v=(s.mk x).v/\k (.c (s.mk x))
 |some ⟨.slice _,[_],_⟩=>∃x:O,v=x.v/\k (.c (.s x))
 |_=>False
def TP(P:Program)(T:TT)(G:List Nat)(n:Nat)(a:Fr)(m:E)(e:Nat)(h:Operand)(b:List Operand)(k:Fr->SV->E->Prop):Prop:=
 match Ub a (b.map (ev a))with
 |none=>False
 |some d=>match ev a h with
  | .c (.fn (.func g) first f)=>bif G.elem g&&b.all (λx=>(ev a x).jI)then
   aM P g (first.toList++(b.map λx=>(ev a x).v)++f.toList) m λv c=>Av (MH n d []) m c (Qj T e v λx=>k d x c)
   else False
  | .c (.fv q)=>bif b.all (λx=>(ev a x).jI)then
   ∃g,q.1=.func g/\G.elem g=true/\aM P g (q.2.1.toList++(b.map λx=>(ev a x).v)++q.2.2.toList) m λv c=>Av (MH n d []) m c (Qj T e v λx=>k d x c)
   else False
  |_=>False
def Dw(m:E)(b:Nat)(l:List (Int×Int)):Prop:=
 ∃a c,m[b]? =some (.map a c)/\a.toList.map (λe=>(e.key,e.val))=l.map λp=>(Value.int .i64 p.1,Value.int .i64 p.2)
def vx(l:List (Int×Int))(k:Int):Int:=
 match l with
 |[]=>0
 |(j,v)::r=>if k=j then v else vx r k
def JM(l:List (Int×Int))(k v:Int):List (Int×Int):=
 match l with
 |[]=>[(k,v)]
 |(j,u)::r=>if k=j then(j,v)::r else(j,u)::JM r k v
def xG(T:TT)(d:Fr)(b:Nat):List Ce->List (Nat×Operand)->(List Ce->Prop)->Prop
 |a,[],k=>k a
 |a,(i,x)::r,k=>
  match(ev d x).cells with
  |some c=>bif Nat.beq c.length b&&Nat.ble (i*b+c.length) a.length then xG T d b (mr a (i*b) c) r k else False
  |none=>False
def SR(n:Nat)(b:Fr)(d:Option Nat)(m:E)(t:Nat)(l:List Ce)(k:Fr->SV->E->Prop):Prop:=
 match d with
 |some a=>match gZ b (n+a)with
  | .zO _ _ _=>False
  |_=>ON (m.push (.cells (bA l) t)) λc=>k ((n+a,.box m.size t l)::b) (.c (.bp (n+a) m.size 0)) c
 |none=>ON (m.push (.cells (bA l) t)) λc=>k b (.c (.p m.size 0)) c
def Pc(n:Nat)(c:Fr)(m:E)(x:SV)(l:List Ce)(k:Fr->SV->E->Prop):Prop:=
 match x with
 | .c (.p b o)=>eC m b o l.length/\ON (ag m b o l) λa=>Av (MH n c []) m a (k c .un a)
 | .c (.bp q b o)=>match gZ c q with
  | .box d f e=>bif Nat.ble (o+l.length) e.length then rX d b (ON (ag m b o l) λa=>k ((q,.box d f (js e o l))::c) .un a)else False
  | .zO _ _ _=>False
  |_=>eC m b o l.length/\ON (ag m b o l) λa=>Av (MH n c []) m a (k c .un a)
 |_=>False
def wr(P:Program)(T:TT)(G:List Nat)(n:Nat)(a:Fr)(m:E)(h:Option Nat)(o:Nat)(k:Fr->SV->E->Prop):Op->Prop
 | .alloc t=>match fJ T t with
  |some f=>bif f.uQ then False else SR n a h m t (f.sh.map Sh.zero) k
  |none=>False
 | .box t x=>match(ev a x).cells with
  |some l=>match FJ a l with
   |some d=>SR n d h m t l k
   |none=>False
  |none=>False
 | .buildSlice t g i=>match fJ T t with
  |some ⟨.slice e,_,_⟩=>match fJ T e with
   |some c=>bif c.uQ||!(Nat.ble (g*c.sh.length) 16777216)then False else
    xG T a c.sh.length (nE (c.sh.map Sh.zero) g) i.toList λl=>match FJ a l with
     |some d=>ON (m.push (.cells (bA l) e)) λb=>k d (.c (.s (.mk m.size 0 g g))) b
     |none=>False
   |none=>False
  |_=>False
 | .store t x y=>match(ev a y).cells,fJ T t with
  |some l,some f=>bif f.uQ||!(Nat.beq l.length f.sh.length)then False else match FJ a l with
   |some d=>Pc n d m (ev a x) l k
   |none=>False
  |_,_=>False
 | .makeSlice t x y=>match fJ T t,ev a x,ev a y with
  |some ⟨.slice e,_,_⟩,.c (.i l),.c (.i f)=>match fJ T e with
   |some c=>bif c.uQ then False else 0<=l/\l<=f/\(c.bytes:Int)*f<=281474976710656/\f<=9223372036854775807/\
    ON (m.push (.cells (bA (nE (c.sh.map Sh.zero) f.toNat)) e)) λb=>k a (.c (.s (.mk m.size 0 l.toNat f.toNat))) b
   |none=>False
  |_,_,_=>False
 | .makeFunc g first f=>bif first.toList.all (λx=>(ev a x).jI)&&f.toList.all (λx=>(ev a x).jI)then
  match Ub a (first.toList.map (ev a)++f.toList.map (ev a))with
  |some d=>k d (.c (.fn g (first.toList.map λx=>(ev a x).v).toArray (f.toList.map λx=>(ev a x).v).toArray)) m
  |none=>False
  else False
 | .makeMap _ none=>ON (m.push (.map #[] 0)) λb=>k a (.c (.mp m.size)) b
 | .lookup t x y false=>match fJ T t,ev a x,ev a y with
  |some ⟨.map f g,_,_⟩,.c (.mp d),.c (.i n)=>match fJ T f,fJ T g with
   |some ⟨.cell,[.I],_⟩,some ⟨.cell,[.I],_⟩=>∃l,Dw m d l/\k a (.c (.i (vx l n))) m
   |_,_=>False
  |_,_,_=>False
 | .mapUpdate t x y z=>match fJ T t,ev a x,ev a y,ev a z with
  |some ⟨.map f _,_,_⟩,.c (.mp d),.c (.i g),.c (.i v)=>match fJ T f with
   |some ⟨.cell,[.I],_⟩=>∃l,Dw m d l/\∀b,Dw b d (JM l g v)->b.size=m.size->(∀j,j≠d->b[j]? =m[j]?)->Av (MH n a []) m b (k a .un b)
   |_=>False
  |_,_,_,_=>False
 | .call ⟨.value f,d,_⟩=>TP P T G n a m o f d.toList k
 | .call ⟨.builtin .append,d,f⟩=>match d.toList,f.toList with
  |[x,y],[t,u]=>match fJ T t,fJ T u,ev a x,ev a y with
   |some ⟨.slice e,_,_⟩,some ⟨.slice _,_,_⟩,.c (.s s),.c (.s z)=>match fJ T e with
    |some c=>bif c.uQ||Nat.beq c.bytes 0 then False else jM m e (c.sh.map Sh.zero) c.bytes s z λr b=>Av (MH n a []) m b (k a (.c (.s r)) b)
    |none=>False
   |_,_,_,_=>False
  |_,_=>False
 | .call ⟨.builtin .copy,d,f⟩=>match d.toList,f.toList with
  |[x,y],t::_=>match fJ T t,ev a x,ev a y with
   |some ⟨.slice e,_,_⟩,.c (.s s),.c (.s z)=>match fJ T e with
    |some c=>bif c.uQ then False else Xx m c.sh.length s z λx b=>Av (MH n a []) m b (k a x b)
    |none=>False
   |_,_,_=>False
  |_,_=>False
 |_=>False
def HB(P:Program)(g:Nat):Bool:=
 match P.funcs[g]? with
 |some a=>!(a.name== "runtime.NumGoroutine")&&a.body.isSome
 |none=>false
def U8(P:Program)(G:List Nat):Prop:=G.all (HB P)=true
def QH(a:List Ce):∀(n i:Nat),i<n*a.length->(nE a n)[i]? =a[i%a.length]?
 |0,i,h=>by simp at h
 |n+1,i,h=>by
  have c:0<a.length:=by
   rcases j8 a.length with e|e
   .rw[e]at h;simp at h
   .exact e
  have e:nE a (n+1)=a++nE a n:=by simp[nE,qT]
  rw[e,List.getElem?_append];split
  .rename_i b;rw[Nat.mod_eq_of_lt b]
  .rename_i b;rw[QH a n (i -a.length) (by rw[gL,Nat.one_mul]at h;omega)];congr 1;rw[Nat.mod_eq_sub_mod (by omega:i>=a.length)]
def rT(a:List Ce)(n:Nat):(nE a n).length=n*a.length:=by
 simp[nE]
def I6(a:List Ce)(z:Array Value)(d:z.toList=a.map Ce.v)(n:Nat):
 (Array.range (n*a.length)).map (λi=>z[i%z.size]!)=bA (nE a n):=by
 apply BO
 intro i
 have j:z.size=a.length:=by rw[<-ZQ,d];simp
 by_cases b:i<n*a.length
 .have f:=QH a n i b
  have h:0<a.length:=by
   rcases j8 a.length with e|e
   .rw[e]at b;simp at b
   .exact e
  have g:i%a.length<a.length:=Nat.mod_lt _ h
  have c:(bA (nE a n))[i]? =((nE a n)[i]?).map Ce.v:=by simp[bA]
  rw[c,f,<-cU,<-d]
  simp[b,j,g]
 .have c:(bA (nE a n))[i]? =none:=by simp[bA,rT];omega
  rw[c]
  simp[b]
end Go.Vc
end
section
namespace Go.Vc
variable{c:SV}{l:List Ce}{t:TypeId}
variable{d:Program}{T:TT}{G:List Nat}
def Ce.Vv(c:Ce):c.v.oneCell'=true:=by
 cases c with
 |s y=>cases y<;>rfl
 |_=>rfl
def kZ:∀(l:List Ce)(w:World)(b o:Nat),(w.setCells b o (l.map Ce.v)).heap=ag w.heap b o l
 |[],_,_,_=>rfl
 |c::r,w,b,o=>by
  simp only[cG,World.setCells,ag];rw[kZ r,OT]
def rh:∀(l:List Value)(w:World)(a o:Nat),pH w (w.setCells a o l)
 |[],w,_,_=>pH.aA w
 |c::r,w,a,o=>by
  simp only[World.setCells];exact pH.trans (b:=w.setCell ⟨a,o,none⟩ c) ⟨rfl,rfl,rfl⟩ (rh r _ a (o+1))
def En(l:List Ce)(b o:Nat)(w:World)(h:eC w.heap b o l.length):
 (storeCells ⟨b,o,none⟩ (l.map Ce.v)).run d w=.ok () (w.setCells b o (l.map Ce.v)):=by
 have:=run_storeCells_cells (P:=d) b o (l.map Ce.v) 0 w
  (λj a=>by have:=(h j (by simpa using a)).1;rw[zQ];simpa using this)
  (λj a=>by have:=(h j (by simpa using a)).2;rw[Q6];simpa using this)
  (λv a=>by obtain⟨c,_,rfl⟩:=List.mem_map.1 a;exact c.Vv)
 simpa using this
def Ql(l:List Ce)(b o:Nat)(a:World)(h:fX a.heap b o l):(loadCells ⟨b,o,none⟩ l.length).run d a=.ok (bA l) a:=by
 have:=run_loadCells_list (P:=d) (w:=a) ⟨b,o,none⟩ (l.map Ce.v) (λj v c=>by
  rw[vW,zQ];rw[cU]at c;obtain⟨e,f,rfl⟩:=Option.map_eq_some_iff.1 c;exact h j e f)
 simpa[bA]using this
section
variable{n:Nat}{b:Fr}{a:Act}{m:E}{k:Fr->SV->E->Prop}{e:Option Tmp}{f:TypeId}{i:String}{g:Array Edge}{h:Option (Nat×Bool)}
def Fv(d:Program)(n:Nat)(a:Act)(m:E)(o:Oper)(k:Fr->SV->E->Prop):Prop:=
 ∀(w:World),w.heap=m->∀(f:Act->World->Prop)(Q:Exit->Act->World->Prop),
  (∀e c v b,k e c b.heap->j9 n e a->Bx n e b.heap->c.Is v->pH w b->f (a.put o.dst v) b)->o.wp d a w f Q
def jN{o:Oper}{e:Fr}{v:Value}{w b:World}(h:j9 n e a)(g:Bx n e b.heap)(p:c.Is v)(m:pH w b)(i:k e c b.heap)(l:(execOp a.eval o).run d w=.ok (.value v) b)
 {f:Act->World->Prop}{Q:Exit->Act->World->Prop}(j:∀e c v b,k e c b.heap->j9 n e a->Bx n e b.heap->c.Is v->pH w b->f (a.put o.dst v) b):o.wp d a w f Q:=by
 unfold Oper.wp
 rw[l]
 exact j e c v b i h g p m
def NL{i:Option Nat}{t:Nat}(g:j9 n b a)(f:Bx n b m)(h:SR n b i m t l k):
 ∃d c,j9 n d a/\Bx n d (m.push (.cells (bA l) t))/\c.Is (.pointer (some ⟨m.size,0,none⟩))/\k d c (m.push (.cells (bA l) t)):=by
 unfold SR at h
 split at h
 .split at h
  .exact h.elim
  .rename_i e _ j
   exact⟨(n+e,.box m.size t l)::b,.c (.bp (n+e) m.size 0),g.cons _ (λ_=>trivial),f.new (Nat.le_add_right _ _) t l,rfl,h⟩
 .exact⟨b,.c (.p m.size 0),g,f.push _,rfl,h⟩
def Qv(s:j9 n b a)(g:Bx n b m)(h:Pc n b m c l k):
 ∃p d o,j9 n p a/\Bx n p (ag m d o l)/\(∀v,c.Is v->v=.pointer (some ⟨d,o,none⟩))/\eC m d o l.length/\k p .un (ag m d o l):=by
 unfold Pc at h
 split at h
 .obtain⟨q,r⟩:=mG h.2
  exact⟨_,_,_,s,g.dv q,λv e=>e,h.1,r⟩
 .split at h
  .rename_i w d o _ i j f u
   cases t:Nat.ble (o+l.length) f.length
   .rw[t]at h;exact h.elim
   .rw[t]at h
    obtain⟨rfl,h⟩:=h
    have x:cw m i j f:=g.D w i j f (Or.inl u)
    exact⟨(w,.box i j (js f o l))::b,_,_,s.cons _ (λ_=>trivial),g.pu u o l,λv e=>e,x.eC (lM t),h⟩
  .exact h.elim
  .obtain⟨q,r⟩:=mG h.2
   exact⟨_,_,_,s,g.dv q,λv e=>e,h.1,r⟩
 .exact h.elim
def QY(y:uj d T)(s:j9 n b a)(q:Bx n b m)(j:wr d T G n b m e f k (.alloc t)):Fv d n a m ⟨e,.alloc t,f,i,g,h⟩ k:=by
 intro l D L Q B
 subst D;simp only[wr]at j;split at j
 .rename_i p C;cases o:p.uQ
  .rw[o]at j;obtain⟨I,F,H,K⟩:=wC y C o;have z:I.cells=bA (p.sh.map Sh.zero):=by apply Array.toList_inj.1;simp[F,bA]
   obtain⟨J,c,u,r,E,A⟩:=NL s q j;refine jN (w:=l) (c:=c) (v:=.pointer (some ⟨l.heap.size,0,none⟩)) (b:={l with heap:=l.heap.push (.cells (bA (p.sh.map Sh.zero)) t)}) u r E ⟨rfl,rfl,rfl⟩ A ?_ B;simp[execOp,Instr.alloc,H,newVar,newRow,z]
  .rw[o]at j;exact j.elim
 .exact j.elim
def TU(p:j9 n b a)(q:Bx n b m){c:Operand}(j:wr d T G n b m e f k (.box t c)):Fv d n a m ⟨e,.box t c,f,i,g,h⟩ k:=by
 intro o F L Q E
 subst F;simp only[wr]at j;split at j
 .rename_i l D;split at j
  .rename_i K A;obtain⟨y,s⟩:=qG A p q;obtain⟨B,z⟩:=pN D;obtain⟨J,I,u,r,H,C⟩:=NL y s j;refine jN (w:=o) (c:=I) (v:=.pointer (some ⟨o.heap.size,0,none⟩)) (b:={o with heap:=o.heap.push (.cells (bA l) t)}) u r H ⟨rfl,rfl,rfl⟩ C ?_ E;simp[execOp,Instr.box,newVar,newRow,p.eq rfl B,z,bA]
  .exact j.elim
 .exact j.elim
def ML(q:j9 n b a)(y:Bx n b m){o:Fn}{first l:Array Operand}(j:wr d T G n b m e f k (.makeFunc o first l)):Fv d n a m ⟨e,.makeFunc o first l,f,i,g,h⟩ k:=by
 intro r D F Q C
 subst D;simp only[wr]at j;cases p:(first.toList.all (λc=>(ev b c).jI)&&l.toList.all (λc=>(ev b c).jI))
 .rw[p]at j;exact j.elim
 .rw[p]at j;simp only[bN]at p;obtain⟨u,x⟩:=p;have s:(first.toList.map λc=>(ev b c).v).toArray=first.map a.eval:=by
   apply Array.toList_inj.1;simp[BW q u]
  have t:(l.toList.map λc=>(ev b c).v).toArray=l.map a.eval:=by
   apply Array.toList_inj.1;simp[BW q x]
  simp only[jH]at j;split at j
  .rename_i E B;obtain⟨A,z⟩:=qG B q y;refine jN (w:=r) (b:=r) A z (v:=.func o (first.map a.eval) (l.map a.eval)) ?_ (pH.aA r) j ?_ C
   .show Value.func o (first.map a.eval) (l.map a.eval)=Value.func o _ _;rw[s,t]
   .simp[execOp,Instr.makeFunc]
  .exact j.elim
def Ju(p:j9 n b a)(e:Nat):
 ∀(q:List (Nat×Operand))(d:List Ce)(k:List Ce->Prop),xG T b e d q k->
  ∃l,k l/\Instr.fill (λi=>some (i*e,e)) (d.map Ce.v).toArray (q.map λf=>(f.1,a.eval f.2))=some (l.map Ce.v).toArray
 |[],d,k,h=>⟨d,h,rfl⟩
 |(i,c)::z,d,k,h=>by
  simp only[xG]at h;split at h
  .rename_i f x;cases g:(Nat.beq f.length e&&Nat.ble (i*e+f.length) d.length)
   .rw[g]at h;exact h.elim
   .rw[g]at h;simp only[bN]at g;obtain⟨m,o⟩:=g;have m:=bt m;have o:=lM o;obtain⟨l,u,w⟩:=Ju p e z (mr d (i*e) f) k h;refine⟨l,u,?_⟩;obtain⟨v,t⟩:=pN x;have y:a.eval c=(ev b c).v:=p.eq rfl v;simp only[cG,Instr.fill,y,t,DJ,dW,m];rw[ae bJ,<-w];congr 1;apply BO;intro j;have r:=NI (f.map Ce.v) 0 (i*e) (d.map Ce.v).toArray j;rw[<-aak,ZR];have s:=Ca d (i*e) f j o;rw[show((List.map Ce.v (mr d (i*e) f)).toArray)[j]? =((mr d (i*e) f)[j]?).map Ce.v by simp,s];rw[r];simp;split<;>split<;>first|rfl|(exfalso;omega)|(congr 1;omega)
  .exact h.elim
def JD(B:uj d T)(D:j9 n b a)(N:Bx n b m){j:Nat}{z:Array (Nat×Operand)}(o:wr d T G n b m e f k (.buildSlice t j z)):Fv d n a m ⟨e,.buildSlice t j z,f,i,g,h⟩ k:=by
 intro q U ad Z Q
 subst U;simp only[wr]at o;split at o
 .rename_i L sh aa S;split at o
  .rename_i p H;cases r:(p.uQ||!(Nat.ble (j*p.sh.length) 16777216))
   .rw[r]at o;simp only[bu,aal]at r;have ab:=lM r.2;have I:=(km (B.yH S)).1;obtain⟨K,W,X,ac⟩:=wC B H r.1;have F:=λq=>kE B H r.1 q;obtain⟨l,y,s⟩:=Ju D _ _ _ _ o;cases C:FJ b l with
    |none=>rw[C]at y;exact y.elim
    |some u=>
    rw[C]at y;obtain⟨P,O⟩:=qG C D N;refine jN (w:=q) (c:=.c (.s (.mk q.heap.size 0 j j))) (v:=.slice (some ⟨q.heap.size,0,none⟩) j j) (b:={q with heap:=q.heap.push (.cells (bA l) L)}) P (O.push _) rfl ⟨rfl,rfl,rfl⟩ y ?_ Q;have E:(z.map λu=>(u.1,a.eval u.2)).toList=z.toList.map λu=>(u.1,a.eval u.2):=aL;have Y:K.cells.toList=(p.sh.map Sh.zero).map Ce.v:=by simp[W]
    have J:(p.sh.map Sh.zero).length=p.sh.length:=aL;have jm:=I6 (p.sh.map Sh.zero) K.cells Y j;rw[J]at jm;by_cases A:j*p.sh.length=0
    .have R:nE (p.sh.map Sh.zero) j=[]:=by
      apply List.length_eq_zero_iff.1;rw[rT,J,A]
     rw[R]at s;simp only[execOp,Instr.buildSlice,Sem.run_bind,run_underlying I,Result.andThen_ok,F,A];simp only[E];have M:(Array.map (λc=>(default:Value)) (Array.range 0))=#[]:=aL;simp at s⊢;rw[M,s];simp[newRow,bA]
    .simp only[execOp,Instr.buildSlice,Sem.run_bind,run_underlying I,Result.andThen_ok,F,A,qt];have:¬(j*p.sh.length>2^24):=V;simp only[this,qt,X,Sem.run_bind,Sem.run_pure,Result.andThen_ok,E];rw[jm];simp only[bA]at s⊢;simp[s,newRow]
   .rw[r]at o;exact o.elim
  .exact o.elim
 .exact o.elim
def QZ(C:uj d T)(q:j9 n b a)(v:Bx n b m){c y:Operand}(j:wr d T G n b m e f k (.store t c y)):Fv d n a m ⟨e,.store t c y,f,i,g,h⟩ k:=by
 intro w R Y W K
 subst R;simp only[wr]at j;split at j
 .rename_i l s I Q;cases o:(s.uQ||!(Nat.beq l.length s.sh.length))
  .rw[o]at j;simp only[mM]at j;simp only[bu,aal]at o;split at j
   .rename_i X E;obtain⟨B,z⟩:=qG E q v;obtain⟨u,p,r,A,x,S,L,F⟩:=Qv B z j;have J:=bt o.2;obtain⟨H,D⟩:=pN I;have O:=λw=>kE C Q o.1 w;unfold Oper.wp;have M:(execOp a.eval ⟨e,.store t c y,f,i,g,h⟩).run d w=.ok .skip (w.setCells p r (l.map Ce.v)):=by
     have N:=En (d:=d) l p r w L;have U:a.eval c=.pointer (some ⟨p,r,none⟩):=S _ (q.ev c);have V:(a.eval y).cells=(l.map Ce.v).toArray:=by rw[q.eq rfl H,D]
     simp only[execOp,Instr.storeAt,U,Instr.sureAddr,storeVar,Sem.run_bind,Sem.run_pure,Result.andThen_ok,O,V,DJ,dW,J];simp[N]
    rw[M];exact K u .un undef _ (by rw[kZ];exact F) A (by rw[kZ];exact x) rfl (rh _ _ _ _)
   .exact j.elim
  .rw[o]at j;exact j.elim
 .exact j.elim
end
end Go.Vc
end
section
namespace Go.Vc
variable{b y f:Operand}{t:TypeId}{e:Array TypeId}
variable{c:Program}{T:TT}{G:List Nat}
section
variable{n:Nat}{g:Fr}{a:Act}{m:E}{k:Fr->SV->E->Prop}{i:Option Tmp}{h:TypeId}{o:String}{j:Array Edge}{l:Option (Nat×Bool)}
def Ph{b:Int}(e: -9223372036854775808<=b)(f:b<=9223372036854775807):IntKind.i64.wrap b=b:=by
 have a:((2:Int)^IntKind.i64.bits)=18446744073709551616:=be;have c:((2:Int)^(IntKind.i64.bits -1))=9223372036854775808:=be;have d:IntKind.i64.signed=true:=rfl;simp only[IntKind.wrap,a,c,d,Od,aq];split<;>omega
def aP{b:Int}(a: -9223372036854775808<=b)(c:b<=9223372036854775807):cR b=b:=Ph a c
def KU(s:uj c T)(u:j9 n g a)(F:Bx n g m)(e:wr c T G n g m i h k (.makeSlice t b y)):Fv c n a m ⟨i,.makeSlice t b y,h,o,j,l⟩ k:=by
 intro q U ah ad J
 subst U;simp only[wr]at e;split at e
 .rename_i D sh ae p d Q Y hy;split at e
  .rename_i f z;cases r:f.uQ
   .rw[r]at e;obtain⟨h0,h1,h2,h3,I⟩:=e;have S:=(km (s.yH Q)).1;obtain⟨C,hz,ab,ag⟩:=wC s z r;obtain⟨ti,H,af,R,_⟩:=Gt s z r;have P:=λq=>kE s z r q;refine jN (w:=q) (c:=.c (.s (.mk q.heap.size 0 p.toNat d.toNat))) (v:=.slice (some ⟨q.heap.size,0,none⟩) p.toNat d.toNat) (b:={q with heap:=q.heap.push (.cells (bA (nE (f.sh.map Sh.zero) d.toNat)) D)}) u (F.push _) rfl ⟨rfl,rfl,rfl⟩ I ?_ J;have ac:C.cells.toList=(f.sh.map Sh.zero).map Ce.v:=by simp[hz]
    have B:(f.sh.map Sh.zero).length=f.sh.length:=aL;have jm:=I6 (f.sh.map Sh.zero) C.cells ac d.toNat;rw[B]at jm;have Z:a.eval b=.int .i64 p:=u.eq Y rfl;have aa:a.eval y=.int .i64 d:=u.eq hy rfl;have X:IntKind.i64.wrap p=p:=Ph V V;have W:IntKind.i64.wrap d=d:=Ph V V;have K:¬d<0:=V;have L:¬((f.bytes:Int)*d>2^48):=by
     have:(2:Int)^48=281474976710656:=be;omega
    have M:¬p<0:=V;have N:¬p>d:=V;simp only[execOp,Instr.makeSlice,Sem.run_bind,run_underlying S,Result.andThen_ok,asInt,asIntOf,Z,aa,Sem.run_pure,R,X,W,H];simp only[K,L,M,N,decide_false,VP,ig,qt];simp only[Sem.run_bind,Sem.run_pure,Result.andThen_ok,run_askRoom,P];by_cases A:d.toNat*f.sh.length=0
    .have O:nE (f.sh.map Sh.zero) d.toNat=[]:=by
      apply List.length_eq_zero_iff.1;rw[rT,B,A]
     rw[O];have E:(Array.map (λb=>(default:Value)) (Array.range 0))=#[]:=aL;simp[A,newRow,bA];rw[E]
    .simp only[A,qt,Sem.run_bind,ab,Result.andThen_ok,Sem.run_pure];rw[jm];simp[newRow]
   .rw[r]at e;exact e.elim
  .exact e.elim
 .exact e.elim
def KX:∀{c:List Sh}{k:List Ce->Prop},UU c k->∃l,k l
 |[],_,h=>⟨_,h⟩
 |_::_,_,⟨b,h⟩=>let⟨_,a⟩:=KX h;⟨_,a⟩
def FK:∀{e:List Nat}{k:List AV->Prop},SI T e k->∃l,k l
 |[],_,h=>⟨_,h⟩
 |t::e,k,h=>by
  simp only[SI]at h;split at h
  .obtain⟨l,c⟩:=KX h;obtain⟨d,a⟩:=FK c;exact⟨_,a⟩
  .obtain⟨b,c⟩:=h;obtain⟨d,a⟩:=FK c;exact⟨_,a⟩
  .obtain⟨b,c⟩:=h;obtain⟨d,a⟩:=FK c;exact⟨_,a⟩
  .exact h.elim
def S0{t:Nat}{v:Value}{k:SV->Prop}(h:Qj T t v k):∃b:SV,b.Is v/\k b:=by
 unfold Qj at h;split at h
 .exact⟨.fZ,trivial,h⟩
 .obtain⟨l,c,a⟩:=FK h;exact⟨.XR l,c,a⟩
 .obtain⟨l,c,a⟩:=KX h;exact⟨.agg l,c,a⟩
 .rename_i s _ _;obtain⟨b,c,a⟩:=h;exact⟨.c (s.mk b),c,a⟩
 .obtain⟨b,c,a⟩:=h;exact⟨.c (.s b),c,a⟩
 .exact h.elim
def KT(z:U8 c G)(A:j9 n g a){q:Fr}(B:j9 n q a)(y:Bx n q m){d:Array Operand}{p:Nat}{first s:Array Value}(E:a.eval f=.func (.func p) first s)
 (H:G.elem p=true)(J:d.toList.all (λb=>(ev g b).jI)=true)
 (x:aM c p (first.toList++(d.toList.map λb=>(ev g b).v)++s.toList) m λv r=>Av (MH n q []) m r (Qj T h v λb=>k q b r)):
 Fv c n a m ⟨i,.call ⟨.value f,d,e⟩,h,o,j,l⟩ k:=by
 intro w O V R K
 subst O
 have r:HB c p=true:=List.all_eq_true.1 z p (by simpa using H)
 have C:d.map a.eval=(d.toList.map λb=>(ev g b).v).toArray:=by
  apply Array.toList_inj.1;simp[<-BW A J]
 unfold HB at r
 split at r
 .rename_i u F
  simp only[bN,iK]at r
  have D:u.body.isNone=false:=by cases U:u.body<;>simp_all
  have L:(execOp a.eval ⟨i,.call ⟨.value f,d,e⟩,h,o,j,l⟩).run c w=
   .ok (.enter p (first.toList++(d.toList.map λb=>(ev g b).v)++s.toList).toArray) w:=by
   simp only[execOp,resolve,E,C,Deferred.ofValue,Sem.run_bind,Sem.run_pure,Result.andThen_ok,invoke,callFunc,run_program,F,r.1,D,ig,qt]
   simp
  unfold Oper.wp
  rw[L]
  show Calls c p _ w _
  refine(x w rfl).mono ?_
  rintro S Q ⟨v,rfl,M,t⟩
  obtain⟨N,t⟩:=mG t
  obtain⟨b,P,I⟩:=S0 t
  exact K q b v Q I B (y.dv N) P M
 .simp at r
def SG(v:U8 c G)(q:j9 n g a)(y:Bx n g m){r:Array Operand}(d:wr c T G n g m i h k (.call ⟨.value f,r,e⟩)):Fv c n a m ⟨i,.call ⟨.value f,r,e⟩,h,o,j,l⟩ k:=by
 simp only[wr,TP]at d;split at d
 .exact d.elim
 rename_i D z;obtain⟨w,u⟩:=qG z q y;split at d
 .rename_i s first x t
  cases p:(G.elem s&&r.toList.all (λb=>(ev g b).jI))
  .rw[p]at d;exact d.elim
  .rw[p]at d;simp only[bN]at p;exact KT v q w u (q.eq t rfl) p.1 p.2 d
 .rename_i x t;cases p:(r.toList.all (λb=>(ev g b).jI))
  .rw[p]at d;exact d.elim
  .rw[p]at d;obtain⟨s,A,B,d⟩:=d;have C:a.eval f=.func (.func s) x.2.1 x.2.2:=by
    rw[<-A];exact q.eq t rfl
   exact KT v q w u C B p d
 .exact d.elim
def sR(a:c.underlying t=some (.int .i64))(e:Bool)(b:Int)(w:World):(Instr.checkKey e 10000 t (.int .i64 b)).run c w=.ok () w:=by
 have:Instr.checkKey e 10000 t (.int .i64 b)=Instr.checkKey e (9999+1) t (.int .i64 b):=rfl;rw[this];generalize 9999=d;simp[Instr.checkKey,run_underlying a]
def zU(b:Int):∀(a:List MapEntry)(l:List (Int×Int))(i:Nat),a.map (λe=>(e.key,e.val))=l.map (λp=>(Value.int .i64 p.1,Value.int .i64 p.2))->
 (Instr.findNow (.int .i64) (.int .i64 b) a i=some none/\vx l b=0/\(∀v,JM l b v=l++[(b,v)]))\/
 ∃j u,Instr.findNow (.int .i64) (.int .i64 b) a i=some (some (i+j,.int .i64 u))/\vx l b=u/\j<a.length/\l[j]? =some (b,u)/\∀v,JM l b v=l.set j (b,v)
 |[],[],i,_=>Or.inl ⟨rfl,rfl,λv=>rfl⟩
 |[],_::_,i,h=>by simp at h
 |_::_,[],i,h=>by simp at h
 |e::a,(j,u)::l,i,h=>by
  simp only[cG,List.cons.injEq,Og]at h;obtain⟨⟨r,s⟩,h⟩:=h;have k:Instr.sameNow (.int .i64) (.int .i64 b) e.key=some (b==j):=by rw[r];simp[Instr.sameNow]
  by_cases c:b=j
  .subst c;refine Or.inr ⟨0,u,?_,?_,aL,aL,?_⟩
   .simp[Instr.findNow,k,s]
   .simp[vx]
   .intro v;simp[JM]
  .have m:(b==j)=false:=by simpa using c
   rcases zU b a l (i+1) h with⟨d,f,g⟩|⟨q,t,d,f,g,o,p⟩
   .refine Or.inl ⟨?_,?_,?_⟩
    .simp[Instr.findNow,k,m,d]
    .simp[vx,c,f]
    .intro v;simp[JM,c,g]
   .refine Or.inr ⟨q+1,t,?_,?_,by simpa using g,by simpa using o,?_⟩
    .have n:i+1+q=i+(q+1):=V;simp[Instr.findNow,k,m,d,n]
    .simp[vx,c,f]
    .intro v;simp[JM,c,p]
def Ox(f:j9 n g a)(e:Bx n g m){r:Option Operand}(d:wr c T G n g m i h k (.makeMap t r)):Fv c n a m ⟨i,.makeMap t r,h,o,j,l⟩ k:=by
 intro b q s Q p
 subst q;cases r with
 |some r=>exact d.elim
 |none=>
  refine jN (w:=b) (c:=.c (.mp b.heap.size)) (v:=.map (some b.heap.size)) (b:={b with heap:=b.heap.push (.map #[] 0)}) f (e.push _) rfl ⟨rfl,rfl,rfl⟩ d ?_ p;simp[execOp,Instr.makeMap]
def PM(s:uj c T)(r:j9 n g a)(L:Bx n g m){z:Bool}(d:wr c T G n g m i h k (.lookup t b y z)):Fv c n a m ⟨i,.lookup t b y z,h,o,j,l⟩ k:=by
 intro e W ag ad S
 subst W;cases z with
 |true=>exact d.elim
 |false=>
  simp only[wr]at d;split at d
  .rename_i kt et sh ae B f V X Y;split at d
   .rename_i b1 b2 R P;obtain⟨u,⟨C,J,O,N⟩,Q⟩:=d;have F:=(Ci (s.yH V)).1;obtain⟨⟨K,hd,E⟩,_⟩:=ov (s.yH R);have M:K=.int .i64:=by
     unfold An at E;split at E<;>simp_all
    subst M;obtain⟨A,Z,ac,ab⟩:=wC s P rfl;have aa:A=.int .i64 0:=by
     have:A.cells.toList=[Value.int .i64 0]:=Z;have U:=ab rfl;cases A<;>first|(simp[Value.cells]at this;done)|(simp[Value.cells]at this;rw[this.1,this.2])|exact absurd rfl (U _)
    have H:a.eval b=.map (some B):=r.eq X rfl;have I:a.eval y=.int .i64 f:=r.eq Y rfl;have D:(getObj B).run c e=.ok (.map C J) e:=by simp[getObj,Sem.run,O]
    refine jN (w:=e) (c:=.c (.i (vx u f))) (v:=.int .i64 (vx u f)) (b:=e) r L rfl (pH.aA e) Q ?_ S;rcases zU f C.toList u 0 N with⟨p,q,_⟩|⟨af,ah,p,q,_⟩
    .simp[execOp,Instr.lookup,run_underlying F,H,I,D,sR hd,Instr.findKey,run_underlying hd,p,ac,aa,q]
    .simp[execOp,Instr.lookup,run_underlying F,H,I,D,sR hd,Instr.findKey,run_underlying hd,p,q]
   .exact d.elim
  .exact d.elim
def KV(L:uj c T)(s:j9 n g a)(K:Bx n g m){z:Operand}(r:wr c T G n g m i h k (.mapUpdate t b y z)):Fv c n a m ⟨i,.mapUpdate t b y z,h,o,j,l⟩ k:=by
 intro w hw ai ag Q
 subst hw;simp only[wr]at r;split at r
 .rename_i kt et sh ah e d v ht hx hy hz;split at r
  .rename_i b1 ae;obtain⟨Y,⟨p,q,E,x⟩,P⟩:=r;have U:=(Ci (L.yH ht)).1;obtain⟨⟨Z,hd,R⟩,_⟩:=ov (L.yH ae);have aa:Z=.int .i64:=by
    unfold An at R;split at R<;>simp_all
   subst aa;have V:a.eval b=.map (some e):=s.eq hx rfl;have W:a.eval y=.int .i64 d:=s.eq hy rfl;have X:a.eval z=.int .i64 v:=s.eq hz rfl;have N:(getObj e).run c w=.ok (.map p q) w:=by simp[getObj,Sem.run,E]
   have S:∀I,(setObj e I).run c w=.ok () {w with heap:=w.heap.setIfInBounds e I}:=λI=>by simp[setObj,Sem.run,E]
   have M:e<w.heap.size:=(Array.getElem?_eq_some_iff.1 E).1;unfold Oper.wp;rcases zU d p.toList Y 0 x with⟨C,h2,D⟩|⟨f,aj,C,h2,D,J,h5⟩
   .have H:(execOp a.eval ⟨i,.mapUpdate t b y z,h,o,j,l⟩).run c w=.ok .skip {w with heap:=w.heap.setIfInBounds e (.map (p.push {key:=.int .i64 d,val:=.int .i64 v,born:=q}) (q+1))}:=by
     simp[execOp,Instr.mapUpdate,run_underlying U,V,W,X,N,sR hd,Instr.findKey,run_underlying hd,C,S]
    rw[H];have u:=mG (P {w with heap:=w.heap.setIfInBounds e (.map (p.push {key:=.int .i64 d,val:=.int .i64 v,born:=q}) (q+1))}.heap ?_ aL ?_)
    .exact Q g .un undef _ u.2 s (K.dv u.1) rfl ⟨rfl,rfl,rfl⟩
    .refine⟨_,_,by simp[M];exact⟨rfl,rfl⟩,?_⟩;rw[D];simp[x]
    .intro f F;simp[jR (kH F)]
   .have ad:(p[f]?).map (·.key)=some (.int .i64 d):=by
     have:=rV (λA=>(A[f]?).map (·.1)) x;simpa[J]using this
    have af:(Instr.keyThatStays (.int .i64 d) (.int .i64 d)).run c w=.ok (.int .i64 d) w:=by
     simp[Instr.keyThatStays,Instr.sameBits]
    have H:(execOp a.eval ⟨i,.mapUpdate t b y z,h,o,j,l⟩).run c w=.ok .skip {w with heap:=w.heap.setIfInBounds e (.map (p.modify f λB=>{B with key:=.int .i64 d,val:=.int .i64 v}) q)}:=by
     simp only[execOp,Instr.mapUpdate,run_underlying U,V,W,X,N,sR hd,Instr.findKey,run_underlying hd,C,Sem.run_bind,Result.andThen_ok,Sem.run_pure,cE,ad,vO,af,S]
    rw[H];have u:=mG (P {w with heap:=w.heap.setIfInBounds e (.map (p.modify f λB=>{B with key:=.int .i64 d,val:=.int .i64 v}) q)}.heap ?_ aL ?_)
    .exact Q g .un undef _ u.2 s (K.dv u.1) rfl ⟨rfl,rfl,rfl⟩
    .refine⟨_,_,by simp[M];exact⟨rfl,rfl⟩,?_⟩;rw[h5];apply iL;intro A;have B:=rV (λ(q':List (Value×Value))=>q'[A]?) x;simp only[cU]at B;simp only[cU,jE,Yk,lK]at B⊢;by_cases O:f=A
     .subst O;have ac:f<Y.length:=(List.getElem?_eq_some_iff.1 J).1;have ab:f<p.size:=by simpa using D
      simp[ac,ab]
     .simp only[O,qt];exact B
    .intro f F;simp[jR (kH F)]
  .exact r.elim
 .exact r.elim
def tL(l:List Ce)(z:O)(a f:Nat)(d:l.length=a*f)(w:World)(h:fX w.heap z.D z.off l)(e:a<=z.len):
 (Builtin.firstCells f a z.v).run c w=.ok (bA l) w:=by
 cases z with
 |nil=>
  have b:a=0:=by simp at e;omega
  have:l=[]:=List.length_eq_zero_iff.1 (by rw[d,b];simp)
  subst this
  simp[Builtin.firstCells,O.v,bA]
 |zT g i j=>
  have b:a=0:=by simp at e;omega
  have:l=[]:=List.length_eq_zero_iff.1 (by rw[d,b];simp)
  subst this
  simp[Builtin.firstCells,O.v,bA,b,loadCells,loadCellsFrom]
 |mk b o i g=>
  simp only[Builtin.firstCells,O.v,<-d]
  exact Ql l b o w h
def Pj(a:List Ce)(z:Array Value)(b:z.toList=a.map Ce.v)(n:Nat):Builtin.zeroCells z n=bA (nE a n):=by
 have c:z.size=a.length:=by rw[<-ZQ,b];simp
 rw[<-I6 a z b n,Builtin.zeroCells,c]
def QD(l r:List Ce):bA (l++r)=bA l++bA r:=by simp[bA]
def PL(H:uj c T)(C:j9 n g a)(L:Bx n g m){Z:Array Operand}(q:wr c T G n g m i h k (.call ⟨.builtin .append,Z,e⟩)):Fv c n a m ⟨i,.call ⟨.builtin .append,Z,e⟩,h,o,j,l⟩ k:=by
 intro d hw aM aE N
 subst hw;simp only[wr]at q;split at q
 .rename_i b y t aD am az;split at q
  .rename_i B sh aF e2 aN aG s z ht aA hx hy;split at q
   .rename_i f ac;cases u:(f.uQ||Nat.beq f.bytes 0)
    .rw[u]at q;simp only[bu]at u;obtain⟨A,Q,ar,ah,ai⟩:=q;have e1:Z=#[b,y]:=Array.toList_inj.1 (by simpa using am);have al:e=#[t,aD]:=Array.toList_inj.1 (by simpa using az);subst e1;subst al;have U:=(km (H.yH ht)).1;have W:=(km (H.yH aA)).1;obtain⟨zv,hz,ak,aK⟩:=wC H ac u.1;obtain⟨ti,hb,aJ,af,_⟩:=Gt H ac u.1;have S:=λd=>kE H ac u.1 d;have X:a.eval b=s.v:=C.eq hx rfl;have Y:a.eval y=z.v:=C.eq hy rfl;have E:(Builtin.lenOf z.v).run c d=.ok z.len d:=by cases z<;>simp[Builtin.lenOf,O.v,O.len]
     have aj:(f.sh.map Sh.zero).length=f.sh.length:=aL;rw[aj]at Q;simp only[aj]at ah ai;have M:∀r:World,r.heap=d.heap->(Builtin.firstCells f.sh.length z.len z.v).run c r=.ok (bA A) r:=λr ag=>
      tL A z z.len f.sh.length Q r (by rw[ag];exact ar) (ad _)
     have ay:=s.XS;by_cases D:s.len+z.len<=s.cap
     .obtain⟨R,p⟩:=ah D;cases s with
      |nil=>
       simp only[O.OL,O.Vi]at D R p;have J:z.len=0:=V;have:A=[]:=List.length_eq_zero_iff.1 (by rw[Q,J];simp);subst this;obtain⟨ab,p⟩:=mG p;refine jN (w:=d) (c:=.c (.s .nil)) (v:=.slice none 0 0) (b:=d) C L rfl (pH.aA d) p ?_ N;have I:a.eval b=.slice none 0 0:=X;have F:=M d rfl;simp only[execOp,resolve,Sem.run_bind,Sem.run_pure,Result.andThen_ok,invoke,builtin,Builtin.append_,nu,cG,fD,I,Y];rw[J]at E F;simp[run_underlying U,run_underlying W,S,E,F]
      |zT K o0 sp=>
       simp only[O.Se,O.Vh]at D R p;have J:z.len=0:=V;have:A=[]:=List.length_eq_zero_iff.1 (by rw[Q,J];simp);subst this;obtain⟨ab,p⟩:=mG p;refine jN (w:=d) (c:=.c (.s (.zT K o0 sp))) (v:=.slice (some ⟨K,o0,some sp⟩) 0 0) (b:=d) C L rfl (pH.aA d) p ?_ N;have I:a.eval b=.slice (some ⟨K,o0,some sp⟩) 0 0:=X;have F:=M d rfl;simp only[execOp,resolve,Sem.run_bind,Sem.run_pure,Result.andThen_ok,invoke,builtin,Builtin.append_,nu,cG,fD,I,Y];rw[J]at E F;simp[run_underlying U,run_underlying W,S,E,F,bA,storeCells]
      |mk F K J aa=>
       simp only[O.iS,O.Ov,O.jB,O.tH]at D R p;obtain⟨ab,p⟩:=mG p;refine jN (w:=d) (c:=.c (.s (.mk F K (J+z.len) aa))) (v:=.slice (some ⟨F,K,none⟩) (J+z.len) aa) (b:=d.setCells F (K+J*f.sh.length) (A.map Ce.v)) C (by rw[kZ];exact L.dv ab) rfl (rh _ _ _ _) (by rw[kZ];exact p) ?_ N;have an:=En (d:=c) A F (K+J*f.sh.length) d R;have I:a.eval b=.slice (some ⟨F,K,none⟩) J aa:=X;simp only[execOp,resolve,Sem.run_bind,Sem.run_pure,Result.andThen_ok,invoke,builtin,Builtin.append_,nu,cG,fD,I,Y];simp[run_underlying U,run_underlying W,S,E,D,M d rfl,vW,bA,an]
     .obtain⟨ab,old,av,ax,p⟩:=ai V;have aH:=growslice_fits (need:=s.len+z.len) (old:=s.cap) (bytes:=f.bytes) V ab;have K:f.bytes≠0:=λB=>by rw[B]at u;simp at u
      have aI:¬(((s.len+z.len:Nat):Int)>IntKind.i64.max/\f.bytes=0):=λhh=>K hh.2;have aw:∀r:World,r.heap=d.heap->(Builtin.firstCells f.sh.length s.len s.v).run c r=.ok (bA old) r:=λr ag=>
       tL old s s.len f.sh.length av r (by rw[ag];exact ax) (ad _)
      let I:Question:=.appendCap (s.len+z.len) s.cap B;let nc:=I.cut (d.tape d.drawn I);let J:World:={d with drawn:=d.drawn+1};have ap:s.len+z.len<=nc:=Nat.le_add_right _ _;refine jN (w:=d) (c:=.c (.s (.mk d.heap.size 0 (s.len+z.len) nc))) (v:=.slice (some ⟨d.heap.size,0,none⟩) (s.len+z.len) nc)
       (b:={J with heap:=d.heap.push (.cells (bA (old++A++nE (f.sh.map Sh.zero) (nc -(s.len+z.len)))) B)}) C (L.push _) rfl ⟨rfl,rfl,rfl⟩ (mG (p nc ap)).2 ?_ N
      have aC:zv.cells.toList=(f.sh.map Sh.zero).map Ce.v:=by simp[hz]
      have aa:=Pj (f.sh.map Sh.zero) zv.cells aC (nc -(s.len+z.len));have an:I.forced=false:=rfl;have aq:¬(Builtin.nextslicecap (s.len+z.len) s.cap*f.bytes>2^48):=by
       have:(2:Nat)^48=281474976710656:=be;omega
      simp only[execOp,resolve,Sem.run_bind,Sem.run_pure,Result.andThen_ok,invoke,builtin,Builtin.append_,nu,cG,fD,X,Y];have F:=aw J rfl;have R:=M J rfl;rw[ay]at F⊢;simp only[lL,sO,gX,Sem.run_bind,run_underlying U,run_underlying W,Result.andThen_ok,S,Sem.run_pure,E,ig,qt,D,af,hb,false_or];simp only[K,and_false,qt,aq,Sem.run_bind,run_choose,an,ig,Result.andThen_ok,af,run_askRoom,F,MC,MI,R,ak,aa,newRow,run_newObj,Sem.run_pure];simp[QD];rw[hb,ae V,ae (show¬(Question.appendCap (s.len+z.len) s.cap B).forced=true by simp[Question.forced])];have au:(Builtin.firstCells f.sh.length s.len (Value.slice s.cv s.len s.cap)).run c d.drew=.ok (bA old) d.drew:=F;have ao:(Builtin.firstCells f.sh.length z.len z.v).run c d.drew=.ok (bA A) d.drew:=R;simp only[af,Result.andThen_ok,au,ao,ak];have aB:Builtin.zeroCells zv.cells ((Question.appendCap (s.len+z.len) s.cap B).cut (d.tape d.drawn (Question.appendCap (s.len+z.len) s.cap B)) -(s.len+z.len))=bA (nE (f.sh.map Sh.zero) (nc -(s.len+z.len))):=aa;rw[aB];rfl
    .rw[u]at q;exact q.elim
   .exact q.elim
  .exact q.elim
 .exact q.elim
end
end Go.Vc
end
section
namespace Go.Vc
variable{b:Program}{T:TT}{G:List Nat}
section
variable{n:Nat}{c:Fr}{a:Act}{m:E}{k:Fr->SV->E->Prop}{d:Option Tmp}{e:TypeId}{h:String}{f:Array Edge}{g:Option (Nat×Bool)}
def SH(M:uj b T)(t:j9 n c a)(U:Bx n c m){r:Array Operand}{K:Array TypeId}(i:wr b T G n c m d e k (.call ⟨.builtin .copy,r,K⟩)):Fv b n a m ⟨d,.call ⟨.builtin .copy,r,K⟩,e,h,f,g⟩ k:=by
 intro j hw ah ae W
 subst hw;simp only[wr]at i;split at i
 .rename_i q R ad ai V ab;split at i
  .rename_i ag sh af s z ht hx hy;split at i
   .rename_i J aa;cases u:J.uQ
    .rw[u]at i;obtain⟨o,C,X,Y,y⟩:=i;obtain⟨Z,y⟩:=mG y;have S:r=#[q,R]:=Array.toList_inj.1 (by simpa using V);subst S;have E:K[0]? =some ad:=by rw[<-Yk,ab];rfl
     have F:=(km (M.yH ht)).1;have D:=λj=>kE M aa u j;have H:a.eval q=s.v:=t.eq hx rfl;have I:a.eval R=z.v:=t.eq hy rfl;have A:(Builtin.lenOf z.v).run b j=.ok z.len j:=by cases z<;>simp[Builtin.lenOf,O.v,O.len]
     have l:(Builtin.firstCells J.sh.length (Nat.min z.len s.len) z.v).run b j=.ok (bA o) j:=
      tL o z _ J.sh.length C j X (Nat.min_le_left _ _)
     refine jN (w:=j) (c:=.c (.i (Nat.min z.len s.len:Nat))) (v:=.int .i64 (Nat.min z.len s.len:Nat)) (b:=j.setCells s.D s.off (o.map Ce.v)) t (by rw[kZ];exact U.dv Z) rfl (rh _ _ _ _) (by rw[kZ];exact y) ?_ W;cases s with
     |nil=>
      have B:Nat.min z.len O.nil.len=0:=aL;have:o=[]:=List.length_eq_zero_iff.1 (by rw[C,B];simp);subst this;have p:a.eval q=.slice none 0 0:=H;simp only[O.OL]at l⊢;simp only[execOp,resolve,Sem.run_bind,Sem.run_pure,Result.andThen_ok,invoke,builtin,Builtin.copy_,nu,cG,fD,p,I,E];simp only[lL,sO,gX,Sem.run_bind,run_underlying F,Result.andThen_ok,A,D,l,Sem.run_pure];rfl
     |zT L N Q=>
      have B:Nat.min z.len (O.zT L N Q).len=0:=aL;have:o=[]:=List.length_eq_zero_iff.1 (by rw[C,B];simp);subst this;have p:a.eval q=.slice (some ⟨L,N,some Q⟩) 0 0:=H;simp only[O.Se]at l⊢;simp only[execOp,resolve,Sem.run_bind,Sem.run_pure,Result.andThen_ok,invoke,builtin,Builtin.copy_,nu,cG,fD,p,I,E];simp only[lL,sO,gX,Sem.run_bind,run_underlying F,Result.andThen_ok,A,D,l,Sem.run_pure,bA];rfl
     |mk B L ac N=>
      have Q:=En (d:=b) o B L j Y;have p:a.eval q=.slice (some ⟨B,L,none⟩) ac N:=H;simp only[O.iS]at l⊢;simp only[execOp,resolve,Sem.run_bind,Sem.run_pure,Result.andThen_ok,invoke,builtin,Builtin.copy_,nu,cG,fD,p,I,E];simp only[lL,sO,gX,Sem.run_bind,run_underlying F,Result.andThen_ok,A,D,l,Sem.run_pure,bA,Q];rfl
    .rw[u]at i;exact i.elim
   .exact i.elim
  .exact i.elim
 .exact i.elim
def QF(o:uj b T)(u:U8 b G)(l:j9 n c a)(j:Bx n c m)(p:Oper)(i:wr b T G n c m p.dst p.type k p.op):Fv b n a m p k:=by
 obtain⟨d,v,e,h,f,g⟩:=p;cases v with
 |alloc t=>exact QY o l j i
 |box t x=>exact TU l j i
 |buildSlice t q r=>exact JD o l j i
 |store t x y=>exact QZ o l j i
 |makeSlice t x y=>exact KU o l j i
 |makeFunc r first q=>exact ML l j i
 |makeMap t w=>exact Ox l j i
 |lookup t x y q=>exact PM o l j i
 |mapUpdate t x y z=>exact KV o l j i
 |call r=>
  obtain⟨s,t,x⟩:=r;cases s with
  |builtin q=>
   cases q with
   |append=>exact PL o l j i
   |copy=>exact SH o l j i
   |_=>exact i.elim
  |value q=>exact SG u l j i
  |invoke w q=>exact i.elim
 |_=>exact i.elim
end
end Go.Vc
end
section
namespace Go.Vc
variable{b:Array Bool}{j:Nat}{L:List (Nat×(World->Prop))}{a:Act}{w:World}
section
variable{P:Program}{c:Array Oper}{Q:Exit->Act->World->Prop}{d:Region.Mode}{e:Nat->Nat->Bool}
def vM(P:Program)(d:Region.Mode)(c:Array Oper)(Q:Exit->Act->World->Prop)(e:Nat->Nat->Bool)(L:List (Nat×(World->Prop))):Nat->Array Bool->Act->World->Prop
 |0,b,a,w=>Region.ready d c b=[]/\Q .normal a w
 |h+1,b,a,w=>
  (Region.ready d c b=[]->Q .normal a w)/\
  ∀i∈Region.ready d c b,wpOp P c Q i (λg f=>(∀x∈L,e i x.1=false->x.2 w->x.2 f)/\vM P d c Q e L h (b.setIfInBounds i true) g f) a w
def Mz{L:List (Nat×(World->Prop))}:∀(f:Nat)(b:Array Bool)(a:Act)(w:World),vM P d c Q e L f b a w->wpAny P d c Q f b a w
 |0,_,_,_,h=>h
 |f+1,_,_,_,h=>⟨h.1,λk j=>wpOp_mono (λg l i=>Mz f _ g l i.2) (h.2 k j)⟩
def DI{L g:List (Nat×(World->Prop))}(j:∀x∈g,x∈L):∀(f:Nat)(b:Array Bool)(a:Act)(w:World),vM P d c Q e L f b a w->vM P d c Q e g f b a w
 |0,_,_,_,h=>h
 |f+1,_,_,_,h=>⟨h.1,λn l=>wpOp_mono (λk o i=>⟨λx m=>i.1 x (j x m),DI j f _ k o i.2⟩) (h.2 n l)⟩
def Hs(e:Nat->Nat->Bool)(b:Array Bool):Prop:=∀i,b.getD i false=true->∀r,e i r=true->b.getD r false=true
def UZ(d:Region.Mode)(c:Array Oper)(e:Nat->Nat->Bool):Prop:=
 ∀(i r:Nat)(o:Oper),c[i]? =some o->e i r=true->∃a∈o.after,Region.binds d a=true/\(a.on=r\/e a.on r=true)
def xI(k:UZ d c e)(l:Hs e b)(n:j∈Region.ready d c b){r:Nat}(p:e j r=true):b.getD r false=true:=by
 obtain⟨_,q,o,g⟩:=mem_ready.1 n;obtain⟨f,m,i,h⟩:=k j r q o p;have a:=g f m i;rcases h with rfl|h
 .exact a
 .exact l _ a r h
def Hs.set(k:UZ d c e)(a:Hs e b)(l:j∈Region.ready d c b):Hs e (b.setIfInBounds j true):=by
 intro i f r h;by_cases g:j=i
 .subst g;exact getD_set_true (xI k a l h)
 .rw[getD_set_ne false g]at f;exact getD_set_true (a i f r h)
def Ho{i:Nat}{l:Oper}{F:Value}{S:World->Prop}(I:UZ d c e)(C:c[i]? =some l)(O:∀(j:Nat)(R:Oper) q p,c[j]? =some R->R.op≠.select q p)
 (V:∀f a w,Q (.panic f) (a.put l.dst F) w->Q (.panic f) a w):
 ∀(r:Nat)(b:Array Bool)(a:Act)(w:World),Hs e b->
  (∀j m,c[j]? =some m->j≠i->b.getD j true=false->(∀f∈m.after,Region.binds d f=true->f.on≠i)->l.apart c m=true)->
  i∈Region.ready d c b->YieldsIf P c S l F a->S w->
  vM P d c Q e ((i,S)::L) r (b.setIfInBounds i true) (a.put l.dst F) w->vM P d c Q e L (r+1) b a w:=by
 intro r
 induction r with
 |zero=>
  intro b a w _ _ k y x H
  refine⟨λh=>(by rw[h]at k;cases k),λj n=>?_⟩
  by_cases g:j=i
  .subst g;exact y.wpOp C x ⟨λz _ _ h=>h,H⟩
  .have:=ready_mono n g
   rw[H.1]at this
   cases this
 |succ r ih=>
  intro b a w J K k y x H
  refine⟨λh=>(by rw[h]at k;cases k),λj n=>?_⟩
  by_cases g:j=i
  .subst g;exact y.wpOp C x ⟨λz _ _ h=>h,DI (λz E=>ai _ E) _ _ _ _ H⟩
  .have u:=H.2 j (ready_mono n g)
   obtain⟨N,m,D,W⟩:=mem_ready.1 n
   have s:b.getD i false=false:=by
    have G:=(mem_ready.1 k).1;rcases aZ i b.size with A|A
    .simp[A]at G⊢;exact G
    .simp[I7 A]
   have ad:∀f∈m.after,Region.binds d f=true->f.on≠i:=λf Y B Z=>by
    have u:=W f Y B;rw[Z,s]at u;cases u
   have X:e j i=false:=by
    cases B:e j i
    .rfl
    .have:=xI I J n B;rw[s]at this;cases this
   have U:=wpOp_putIf D (K j m D g N ad) (λq p=>O i l q p C) (λq p=>O j m q p D) V y u
   have aa:∀o t,c[o]? =some t->o≠i->(b.setIfInBounds j true).getD o true=false->
    (∀f∈t.after,Region.binds d f=true->f.on≠i)->l.apart c t=true:=λo t hk ab s ac=>by
    refine K o t hk ab ?_ ac
    by_cases M:j=o
    .subst M;exact N
    .rw[getD_set_ne true M]at s;exact s
   refine wpOp_mono (λT w' v=>⟨λz E=>v.2.1 z (ai _ E),
    ih (b.setIfInBounds j true) T w' (J.set I n) aa (ready_mono k (kH g)) v.1 (v.2.1 (i,S) aX X x) ?_⟩) U
   rw[Array.setIfInBounds_comm _ _ g]
   exact v.2.2
def RH{f:Nat}(k:Region.ready d c b≠[])
 (j:∀i∈Region.ready d c b,wpOp P c Q i (λh g=>(∀x∈L,e i x.1=false->x.2 w->x.2 g)/\vM P d c Q e L f (b.setIfInBounds i true) h g) a w):
 vM P d c Q e L (f+1) b a w:=⟨λg=>absurd g k,j⟩
def QE(f:Region.ready d c b=[])(h:Q .normal a w):
 ∀g,vM P d c Q e L g b a w
 |0=>⟨f,h⟩
 |_+1=>⟨λ_=>h,by rw[f];simp⟩
end
end Go.Vc
end
section
namespace Go.Vc
variable{o:Oper}{a:Act}{m:E}
variable{b:Program}{T:TT}{G:List Nat}{n:Nat}
def Lj:Op->Bool
 | .alloc _| .box ..| .buildSlice ..| .store ..| .makeSlice ..| .makeMap ..| .lookup ..| .mapUpdate ..| .makeFunc ..=>true
 | .call ⟨.builtin .append,_,_⟩| .call ⟨.builtin .copy,_,_⟩=>true
 | .call ⟨.builtin _,_,_⟩=>false
 | .call _=>true
 |_=>false
def sH(n:Nat):Option Nat->Bool
 |none=>true
 |some d=>Nat.blt d n
def Lf(a:List Oper)(j:Nat):Option Nat:=
 match HU a j with
 |some o=>o.dst
 |none=>none
def gd(e:List Oper)(a:Fr)(g:Option (Nat×Bool))(Pp b:Fr->Prop):Prop:=
 match g with
 |none=>Pp a
 |some (j,c)=>match Lf e j with
  |none=>False
  |some d=>match gZ a d with
   | .tt=>bif c then Pp a else b a
   | .ff=>bif c then b a else Pp a
   | .un=>b a
   | .c (.t x)=>(x=true->bif c then Pp ((d,.tt)::a)else b ((d,.tt)::a))/\(x=false->bif c then b ((d,.ff)::a)else Pp ((d,.ff)::a))
   |_=>False
def sN(b:Program)(T:TT)(G:List Nat)(n:Nat)(c:List Oper):List Oper->Fr->E->(Fr->E->Prop)->Prop
 |[],a,m,k=>k a m
 |o::kd,a,m,k=>
  bif sH n o.dst then
   gd c a o.guard
    (λa=>bif Lj o.op then wr b T G n a m o.dst o.type (λd x e=>sN b T G n c kd (uo d o.dst x) e k) o.op
     else rd T a m (λx=>sN b T G n c kd (uo a o.dst x) m k) o.op)
    (λa=>sN b T G n c kd (uo a o.dst .un) m k)
  else False
def zR:List Oper->List Nat
 |[]=>[]
 |o::r=>match o.dst with
  |some d=>d::zR r
  |none=>zR r
def mI(M:List Nat)(a b:Act):Prop:=∀t,t∉M->b.tmps.getD t undef=a.tmps.getD t undef
def mI.aA(M:List Nat)(a:Act):mI M a a:=λ_ _=>rfl
def mI.trans{M:List Nat}{a b c:Act}(h:mI M a b)(k:mI M b c):mI M a c:=λt d=>(k t d).trans (h t d)
def mI.put{M:List Nat}{d:Option Nat}(hd:∀t,d=some t->t∈M)(v:Value)(a:Act):mI M a (a.put d v):=by
 cases d with
 |none=>exact mI.aA M a
 |some d=>
  intro t c;have b:d≠t:=λe=>c (e▸hd d rfl);simp[Act.put,jR b]
def Lr{d:Nat}(hd:o.dst=some d):∀(a:List Oper),o∈a->d∈zR a:=by
 intro a;induction a with
 |nil=>intro h;cases h
 |cons x r c=>
  intro h;rcases List.mem_cons.1 h with b|b
  .subst b;simp only[zR,hd];exact aX
  .have:=c b;unfold zR;cases x.dst with
   |none=>exact this
   |some e=>exact ai _ this
def DU{d:Option Nat}(h:sH n d=true):∀t,d=some t->t<n:=by
 rintro t rfl;have:Nat.blt t n=true:=h;simpa[Nat.blt,Nat.succ_le_iff]using this
def I5(k:Array Oper){d:Fr}(f:j9 n d a)(e:Bx n d m)(o:Oper){Pp z:Fr->Prop}(h:gd k.toList d o.guard Pp z):
 (Region.wanted o (yielded k a.tmps)=true/\∃b,Pp b/\j9 n b a/\Bx n b m)\/
 (Region.wanted o (yielded k a.tmps)=false/\∃b,z b/\j9 n b a/\Bx n b m):=by
 unfold gd at h
 cases b:o.guard with
 |none=>
  rw[b]at h
  exact Or.inl ⟨by simp[Region.wanted,b],d,h,f,e⟩
 |some C=>
  obtain⟨r,v⟩:=C
  rw[b]at h
  simp only at h
  split at h
  .exact h.elim
  .rename_i g hd
   have y:(k[r]?).bind (·.dst)=some g:=by
    unfold Lf at hd;rw[pU]at hd;have B:k.toList[r]? =k[r]? :=aL;rw[B]at hd;split at hd
    .rename_i i c;rw[c];exact hd
    .simp at hd
   have i:=f.aG g
   have w:∀j:Bool,a.tmps.getD g undef=.bool j->yielded k a.tmps r=some j:=by
    intro j l;have:a.tmps[g]? =some (.bool j):=by
     cases q:a.tmps[g]? with
     |none=>rw[zD,q]at l;simp[undef]at l
     |some t=>rw[zD,q]at l;simp at l;rw[l]
    simp[yielded,y,this]
   split at h
   .rename_i p
    rw[p]at i
    have c:=w true i
    cases v
    .exact Or.inr ⟨by simp[Region.wanted,b,c],d,h,f,e⟩
    .exact Or.inl ⟨by simp[Region.wanted,b,c],d,h,f,e⟩
   .rename_i p
    rw[p]at i
    have c:=w false i
    cases v
    .exact Or.inl ⟨by simp[Region.wanted,b,c],d,h,f,e⟩
    .exact Or.inr ⟨by simp[Region.wanted,b,c],d,h,f,e⟩
   .rename_i p
    rw[p]at i
    have c:yielded k a.tmps r=none:=by
     have s:a.tmps.getD g undef=undef:=i;rw[zD]at s;unfold yielded;rw[y];cases q:a.tmps[g]? with
     |none=>simp[q]
     |some t=>rw[q]at s;simp at s;subst s;simp[q,undef]
    exact Or.inr ⟨by simp[Region.wanted,b,c],d,h,f,e⟩
   .rename_i x p
    rw[p]at i
    have c:=w x i
    have u:∀j:Bool,x=j->j9 n ((g,if j then SV.tt else SV.ff)::d) a:=by
     rintro j rfl;refine⟨f.size,f.defers,λA=>?_⟩;simp only[gZ];cases l:Nat.beq g A
     .exact f.aG A
     .have:=bt l;subst this;cases x<;>exact i
    obtain⟨s,t⟩:=h
    cases x
    .have t:=t rfl
     cases v
     .exact Or.inl ⟨by simp[Region.wanted,b,c],_,t,u false rfl,e.fZ aL⟩
     .exact Or.inr ⟨by simp[Region.wanted,b,c],_,t,u false rfl,e.fZ aL⟩
    .have s:=s rfl
     cases v
     .exact Or.inr ⟨by simp[Region.wanted,b,c],_,s,u true rfl,e.fZ aL⟩
     .exact Or.inl ⟨by simp[Region.wanted,b,c],_,s,u true rfl,e.fZ aL⟩
   .exact h.elim
def Y5(g:uj b T){c:Fr}(f:j9 n c a)(e:Bx n c m){k:SV->Prop}(h:rd T c m k o.op){w:World}(p:w.heap=m)
 {d:Act->World->Prop}{Q:Exit->Act->World->Prop}(j:∀x v,k x->x.Is v->d (a.put o.dst v) w):o.wp b a w d Q:=by
 obtain⟨x,v,i,q,l⟩:=LF (P:=b) g f e o h
 unfold Oper.wp
 rw[l w (λr _=>by rw[p])]
 exact j x v i q
def vk(l:uj b T)(s:U8 b G)(c:Array Oper){Q:Exit->Act->World->Prop}{K:World}{H:Act}:
 ∀(kd:List Oper)(d:Fr)(m:E)(k:Fr->E->Prop)(a:Act)(w:World),(∀o∈kd,o∈c.toList)->sN b T G n c.toList kd d m k->j9 n d a->Bx n d m->w.heap=m->pH K w->
  mI (zR c.toList) H a->
  (∀g e f,k g f.heap->j9 n g e->Bx n g f.heap->pH K f->mI (zR c.toList) H e->Q .normal e f)->wpList b c Q kd a w
 |[],d,m,k,a,w,_,h,y,v,e,r,p,q=>by
  subst e;exact q d a w h y v r p
 |o::kd,d,m,k,a,w,I,h,y,v,e,r,p,q=>by
  simp only[sN]at h;cases hd:sH n o.dst
  .rw[hd]at h;exact h.elim
  .rw[hd]at h;simp only[jH]at h;have z:=DU hd;have A:∀u,o.dst=some u->u∈zR c.toList:=λu N=>Lr N _ (I o aX);have B:=λS P=>I S (ai _ P);unfold wpList;rcases I5 c y v o h with⟨D,g,t,j,i⟩|⟨D,g,O,j,i⟩
   .rw[aj D];refine .inl ?_;cases J:Lj o.op
    .simp only[J,mM]at t;refine Y5 l j i t e λV U F C=>?_;exact vk l s c kd _ m k _ w B F (j.put C z) (i.put _ _) e r (p.trans (mI.put A _ _)) q
    .simp only[J,jH]at t;refine QF l s j i o t w e _ _ λW V U f F M L C R=>?_;exact vk l s c kd _ _ k _ f B F (M.put C z) (L.put _ _) rfl (r.trans R) (p.trans (mI.put A _ _)) q
   .rw[ae (by rw[D];simp)];exact vk l s c kd _ m k _ w B O (j.put (x:=.un) rfl z) (i.put _ _) e r (p.trans (mI.put A _ _)) q
end Go.Vc
end
section
namespace Go.Vc
variable{P:Program}{T:TT}{G:List Nat}{n:Nat}
def uv:List Nat->Nat->Nat
 |[],_=>0
 |x::_,0=>x
 |_::r,n+1=>uv r n
def lE:List Edge->Nat
 |[]=>0
 |e::r=>bif Region.binds .any e then 2^e.on|||lE r else lE r
def oC(a:List Nat):List Edge->Nat
 |[]=>0
 |e::r=>bif Region.binds .any e then(2^e.on|||uv a e.on)|||oC a r else oC a r
def ly(a:List Nat):List Oper->List Nat->List Nat->Bool
 |[],[],[]=>true
 |o::d,p::e,b::c=>Nat.beq p (lE o.after.toList)&&Nat.beq b (oC a o.after.toList)&&ly a d e c
 |_,_,_=>false
def Si:Op->List Operand
 | .alloc _| .ready _| .waits _=>[]
 | .move x| .assign x| .box _ x| .load _ x| .nilCheck x| .unOp _ _ x| .convert _ _ x| .sliceToArrayPointer _ x| .makeInterface _ x
 | .makeChan _ x| .fieldAddr _ x _| .field _ x _| .range _ x| .next x _| .entry x| .typeAssert x _ _ _| .extract x _| .panic x| .recv _ x _=>[x]
 | .pick c a b=>[c,a,b]
 | .build _ b| .buildSlice _ _ b=>b.toList.map (·.2)
 | .store _ a v| .binOp _ _ a v _| .makeSlice _ a v| .indexAddr _ a v| .index _ a v| .lookup _ a v _| .mapEntry _ a v| .send a v=>[a,v]
 | .makeFunc _ first a=>first.toList++a.toList
 | .makeMap _ r=>r.toList
 | .slice _ x l h m=>[x]++l.toList++h.toList++m.toList
 | .mapUpdate _ m k v| .entryStore _ m k v| .insert _ m k v=>[m,k,v]
 | .call ⟨.value f,a,_⟩| .go ⟨.value f,a,_⟩| .defer ⟨.value f,a,_⟩=>f::a.toList
 | .call ⟨.invoke f _,a,_⟩| .go ⟨.invoke f _,a,_⟩| .defer ⟨.invoke f _,a,_⟩=>f::a.toList
 | .call ⟨.builtin _,a,_⟩| .go ⟨.builtin _,a,_⟩| .defer ⟨.builtin _,a,_⟩=>a.toList
 | .select a _=>(a.flatMap λc=>#[c.chan]++c.send.toArray).toList
def Uo(a:Op):a.operands.toList=Si a:=by
 cases a<;>try (simp[Op.operands,Si];done)
 all_goals
  rename_i c
  obtain⟨b,d,e⟩:=c
  cases b<;>simp[Op.operands,Si,Call.operands]
def Jz(d:Nat):List Operand->Bool
 |[]=>false
 | .tmp t::r=>Nat.beq t d||Jz d r
 |_::r=>Jz d r
def OM(a:List Oper)(o:Oper)(d:Nat):Bool:=
 Jz d (Si o.op)||(match o.guard with
  |some (g,_)=>(match Lf a g with|some t=>Nat.beq t d|none=>false)
  |none=>false)
def Ot(a:List Oper)(x y:Oper):Bool:=
 (match x.dst with
  |some d=>!OM a y d&&(match y.dst with|some e=>!Nat.beq d e|none=>true)
  |none=>true)&&
 (match y.dst with
  |some d=>!OM a x d
  |none=>true)
def XK:Op->Bool
 | .select ..=>true
 |_=>false
def zN(b:List Oper)(i:Nat)(a:Nat)(o:Oper):Nat->List Oper->List Nat->Bool
 |_,[],_=>true
 |_,_,[]=>true
 |j,x::c,p::d=>(Nat.beq j i||Nat.testBit p i||Nat.testBit a j||Ot b o x)&&zN b i a o (j+1) c d
def FC(a:List Oper)(b:List Nat):Nat->List Oper->List Nat->Bool
 |_,[],_=>true
 |_,_,[]=>true
 |i,o::e,c::d=>!XK o.op&&(Lj o.op||zN a i c o 0 a b)&&FC a b (i+1) e d
def kO(done p i:Nat):Bool:=!(Nat.testBit done i)&&Nat.beq (p&&&done) p
def xu(done:Nat):Nat->List Oper->List Nat->Option Nat
 |_,[],_=>none
 |_,_,[]=>none
 |i,o::a,p::b=>bif kO done p i&&!(Lj o.op)then some i else xu done (i+1) a b
def pV(done:Nat):Nat->List Oper->List Nat->List Nat
 |_,[],_=>[]
 |_,_,[]=>[]
 |i,_::a,p::b=>bif kO done p i then i::pV done (i+1) a b else pV done (i+1) a b
def LQ(m a:E):List (Nat×Nat)->Prop->Prop
 |[],k=>k
 |(b,o)::r,k=>af a b o=af m b o/\LQ m a r k
def DF(a:Nat)(m b:E):List (Nat×List (Nat×Nat))->Prop->Prop
 |[],k=>k
 |(r,c)::L,k=>bif Nat.testBit a r then DF a m b L k else LQ m b c (DF a m b L k)
def Oq:List Nat->(Nat->Prop)->Prop
 |[],_=>True
 |[i],f=>f i
 |i::r,f=>f i/\Oq r f
def oU(P:Program)(T:TT)(G:List Nat)(n:Nat)(b:List Oper)(c d:List Nat):Nat->Nat->Fr->E->List (Nat×List (Nat×Nat))->(Fr->E->Prop)->Prop
 |0,done,a,m,_,k=>match pV done 0 b c with
  |[]=>k a m
  |_=>False
 |e+1,done,a,m,L,k=>
  match xu done 0 b c with
  |some i=>match HU b i with
   |some o=>bif sH n o.dst then
    gd b a o.guard
     (λa=>rd T a m (λx=>oU P T G n b c d e (done|||2^i) (uo a o.dst x) m ((i,Tl T a o.op)::L) k) o.op)
     (λa=>oU P T G n b c d e (done|||2^i) (uo a o.dst .un) m L k)
    else False
   |none=>False
  |none=>match pV done 0 b c with
   |[]=>k a m
   |h=>Oq h λi=>match HU b i with
    |some o=>bif sH n o.dst then
     gd b a o.guard
      (λa=>wr P T G n a m o.dst o.type (λg x f=>DF (uv d i) m f L (oU P T G n b c d e (done|||2^i) (uo g o.dst x) f L k)) o.op)
      (λa=>oU P T G n b c d e (done|||2^i) (uo a o.dst .un) m L k)
     else False
    |none=>False
def nC(r:Nat):∀(a:List Edge),Nat.testBit (lE a) r=true<->∃e∈a,Region.binds .any e=true/\e.on=r
 |[]=>by simp[lE]
 |e::a=>by
  have c:=nC r a;simp only[lE];cases b:Region.binds .any e
  .simp only[mM,c,aS,exists_eq_or_imp,b];simp
  .simp only[jH,UQ,bV,c,aS,exists_eq_or_imp,b,true_and,Nt,aq]
def yG(b:List Nat)(r:Nat):∀(a:List Edge),Nat.testBit (oC b a) r=true->∃e∈a,Region.binds .any e=true/\(e.on=r\/Nat.testBit (uv b e.on) r=true)
 |[],h=>by simp[oC]at h
 |e::a,h=>by
  have i:=yG b r a;simp only[oC]at h;cases f:Region.binds .any e
  .simp only[f,mM]at h;obtain⟨c,g,d⟩:=i h;exact⟨c,ai _ g,d⟩
  .simp only[f,jH,UQ,bV,Nt,aq]at h;rcases h with h|h
   .exact⟨e,aX,f,h⟩
   .obtain⟨c,g,d⟩:=i h;exact⟨c,ai _ g,d⟩
def lW(c:List Nat):∀{e:List Oper}{f a:List Nat},ly c e f a=true->∀(i:Nat)(o:Oper),e[i]? =some o->
 f[i]? =some (lE o.after.toList)/\uv a i=oC c o.after.toList/\∃b,a[i]? =some b
 |[],[],[],_,i,o,h=>by simp at h
 |x::e,p::f,b::a,h,i,o,d=>by
  simp only[ly,bN]at h;obtain⟨⟨g,j⟩,k⟩:=h;cases i with
  |zero=>
   simp at d;subst d;exact⟨by simp[bt g],by simp[uv,bt j],b,aL⟩
  |succ i=>
   have:=lW c k i o (by simpa using d);simpa[uv]using this
 |[],[],_::_,h,_,_,_=>by simp[ly]at h
 |[],_::_,_,h,_,_,_=>by simp[ly]at h
 |_::_,[],_,h,_,_,_=>by simp[ly]at h
 |_::_,_::_,[],h,_,_,_=>by simp[ly]at h
def Jn(d:List Nat):∀{a:List Oper}{c b:List Nat},ly d a c b=true->c.length=a.length/\b.length=a.length
 |[],[],[],_=>⟨rfl,rfl⟩
 |x::a,p::c,e::b,h=>by
  simp only[ly,bN]at h;have:=Jn d h.2;simp[this.1,this.2]
 |[],[],_::_,h=>by simp[ly]at h
 |[],_::_,_,h=>by simp[ly]at h
 |_::_,[],_,h=>by simp[ly]at h
 |_::_,_::_,[],h=>by simp[ly]at h
end Go.Vc
end
section
namespace Go.Vc
variable{N a:Nat}{b:Array Bool}
variable{P:Program}{T:TT}{G:List Nat}{n:Nat}
def tZ{d:Nat}:∀{a:List Operand},Jz d a=false->d∉(a.filterMap λ| .tmp t=>some t|_=>none)
 |[],_=>aL
 |x::r,h=>by
  cases x with
  |tmp t=>
   simp only[Jz,bu]at h;have b:=tZ h.2;have:t≠d:=λe=>by subst e;simp at h
   simp only[List.filterMap_cons,aS,ui];exact⟨λe=>this e.symm,b⟩
  |const v=>simpa using tZ (a:=r) (by simpa[Jz]using h)
  |global g=>simpa using tZ (a:=r) (by simpa[Jz]using h)
  |func f=>simpa using tZ (a:=r) (by simpa[Jz]using h)
def Uf(a:Array Oper)(g:Nat):Lf a.toList g=(a[g]?).bind (·.dst):=by
 unfold Lf;rw[pU];have e:a.toList[g]? =a[g]? :=aL;rw[e];cases a[g]? <;>rfl
def Jl(b:Array Oper){o:Oper}{d:Nat}(h:OM b.toList o d=false):d∉o.looksAt b:=by
 simp only[OM,bu]at h;unfold Oper.looksAt;rw[Uo,List.mem_append,ui];refine⟨tZ h.1,?_⟩;have a:=h.2;cases c:o.guard with
 |none=>simp
 |some p=>
  obtain⟨g,f⟩:=p;rw[c]at a;simp only at a⊢;rw[Uf]at a;cases hd:(b[g]?).bind (·.dst)with
  |none=>simp
  |some t=>
   rw[hd]at a;simp only at a;simp only[Option.toList_some,nM];intro e;subst e;simp at a
def PD(b:Array Oper){x y:Oper}(h:Ot b.toList x y=true):x.apart b y=true:=by
 simp only[Ot,bN]at h;obtain⟨a,d⟩:=h;unfold Oper.apart;simp only[bN];constructor
 .cases i:x.dst with
  |none=>rfl
  |some f=>
   rw[i]at a;simp only[bN,iK]at a⊢;refine⟨?_,?_⟩
   .have:=Jl b a.1;simpa using this
   .have c:=a.2;cases e:y.dst with
    |none=>simp
    |some j=>
     rw[e]at c;simp only[iK]at c;simp only[vP,ne_eq,DK];intro g;subst g;simp at c
 .cases e:y.dst with
  |none=>rfl
  |some f=>
   rw[e]at d;simp only[iK]at d⊢;have:=Jl b d;simpa using this
def Dl(i:List Oper)(a d:Nat)(o:Oper):∀{g:List Oper}{k:List Nat}{c:Nat},zN i a d o c g k=true->∀(j:Nat)(x:Oper)(p:Nat),g[j]? =some x->k[j]? =some p->
 c+j=a\/Nat.testBit p a=true\/Nat.testBit d (c+j)=true\/Ot i o x=true
 |[],_,_,_,j,x,p,h,_=>by simp at h
 |_::_,[],_,_,j,x,p,_,h=>by simp at h
 |y::g,q::k,c,h,j,x,p,f,e=>by
  simp only[zN,bN,bV]at h;obtain⟨b,m⟩:=h;cases j with
  |zero=>
   simp at f e;subst f;subst e;rcases b with((b|b)|b)|b
   .exact Or.inl (by simpa using bt b)
   .exact Or.inr (Or.inl b)
   .exact Or.inr (Or.inr (Or.inl (by simpa using b)))
   .exact Or.inr (Or.inr (Or.inr b))
  |succ j=>
   have:=Dl i a d o m j x p (by simpa using f) (by simpa using e);have l:c+1+j=c+(j+1):=V;rw[l]at this;exact this
def xl(d:List Oper)(j:List Nat):∀{i:List Oper}{e:List Nat}{c:Nat},FC d j c i e=true->∀(a:Nat)(o:Oper)(b:Nat),i[a]? =some o->e[a]? =some b->
 XK o.op=false/\(Lj o.op=true\/zN d (c+a) b o 0 d j=true)
 |[],_,_,_,a,o,b,h,_=>by simp at h
 |_::_,[],_,_,a,o,b,_,h=>by simp at h
 |y::i,q::e,c,h,a,o,b,g,f=>by
  simp only[FC,bN,bV,iK]at h;obtain⟨⟨l,m⟩,n⟩:=h;cases a with
  |zero=>simp at g f;subst g;subst f;exact⟨l,by simpa using m⟩
  |succ a=>
   have:=xl d j n a o b (by simpa using g) (by simpa using f);have k:c+1+a=c+(a+1):=V;rw[k]at this;exact this
def Jk(p d:Nat):Nat.beq (p&&&d) p=true<->∀r,Nat.testBit p r=true->Nat.testBit d r=true:=by
 constructor
 .intro h r a;have e:=bt h;rw[<-e,Nat.testBit_and]at a;simp only[bN]at a;exact a.2
 .intro h;have:p&&&d=p:=by
   apply Nat.eq_of_testBit_eq;intro r;rw[Nat.testBit_and];cases a:Nat.testBit p r
   .rfl
   .simp[h r a]
  rw[this];simp
structure Oh(N done:Nat)(b:Array Bool):Prop where
 size:b.size=N
 YB:∀a,b.getD a false=Nat.testBit done a
def Oh.un{done:Nat}(h:Oh N done b)(c:a<N):b.getD a true=Nat.testBit done a:=by
 rw[<-h.YB a];have:a<b.size:=by rw[h.size];exact c
 simp[this]
def Oh.set{done:Nat}(h:Oh N done b)(c:a<N):Oh N (done|||2^a) (b.setIfInBounds a true):=by
 refine⟨by simp[h.size],λj=>?_⟩;have d:a<b.size:=by rw[h.size];exact c
 rw[UQ,Nt];by_cases e:a=j
 .subst e;simp[d]
 .rw[getD_set_ne false e,h.YB j];simp[e]
def Ia(d:Array Oper){q h r:List Nat}(n:ly h d.toList q r=true){done:Nat}(g:Oh d.size done b)(a:Nat):
 a∈Region.ready .any d b<->∃o p,d[a]? =some o/\q[a]? =some p/\kO done p a=true:=by
 rw[mem_ready]
 constructor
 .rintro⟨m,o,c,s⟩
  have k:a<d.size:=(Array.getElem?_eq_some_iff.1 c).1
  have l:=(lW h n a o (by simpa using c)).1
  refine⟨o,_,c,l,?_⟩
  simp only[kO,bN,iK]
  refine⟨by rw[<-g.un k];exact m,(Jk _ _).2 λt e=>?_⟩
  obtain⟨f,j,i,rfl⟩:=(nC t _).1 e
  rw[<-g.YB]
  exact s f (Array.mem_toList_iff.1 j) i
 .rintro⟨o,p,c,l,e⟩
  have k:a<d.size:=(Array.getElem?_eq_some_iff.1 c).1
  have m:=(lW h n a o (by simpa using c)).1
  rw[l]at m
  simp only[DK]at m
  subst m
  simp only[kO,bN,iK]at e
  refine⟨by rw[g.un k];exact e.1,o,c,λf j i=>?_⟩
  rw[g.YB]
  exact(Jk _ _).1 e.2 f.on ((nC _ _).2 ⟨f,Array.mem_toList_iff.2 j,i,rfl⟩)
def Lt(done:Nat):∀{d:List Oper}{e:List Nat}{b a:Nat},a∈pV done b d e<->∃j o p,a=b+j/\d[j]? =some o/\e[j]? =some p/\kO done p a=true
 |[],_,_,_=>by simp[pV]
 |_::_,[],_,_=>by simp[pV]
 |x::d,q::e,b,a=>by
  have h:=Lt done (d:=d) (e:=e) (b:=b+1) (a:=a);have k:(∃j o p,a=b+j/\(x::d)[j]? =some o/\(q::e)[j]? =some p/\kO done p a=true)<->
   ((a=b/\kO done q b=true)\/∃j o p,a=b+1+j/\d[j]? =some o/\e[j]? =some p/\kO done p a=true):=by
   constructor
   .rintro⟨j,o,p,rfl,g,f,c⟩
    cases j with
    |zero=>simp at f;subst f;exact Or.inl ⟨rfl,by simpa using c⟩
    |succ j=>exact Or.inr ⟨j,o,p,V,by simpa using g,by simpa using f,by rwa[show b+(j+1)=b+(j+1)from rfl]at c⟩
   .rintro(⟨rfl,c⟩|⟨j,o,p,rfl,g,f,c⟩)
    .exact⟨0,x,q,rfl,aL,aL,c⟩
    .exact⟨j+1,o,p,V,by simpa using g,by simpa using f,c⟩
  rw[k,<-h];simp only[pV];cases c:kO done q b
  .simp
  .simp
def Jc(done:Nat):∀{d:List Oper}{e:List Nat}{c a:Nat},xu done c d e=some a->∃j o p,a=c+j/\d[j]? =some o/\e[j]? =some p/\kO done p a=true/\Lj o.op=false
 |[],_,_,_,h=>by simp[xu]at h
 |_::_,[],_,_,h=>by simp[xu]at h
 |x::d,q::e,c,a,h=>by
  simp only[xu]at h;cases b:(kO done q c&&!(Lj x.op))
  .rw[b]at h;obtain⟨j,o,p,rfl,f,g,i,k⟩:=Jc done h;exact⟨j+1,o,p,V,by simpa using f,by simpa using g,i,k⟩
  .rw[b]at h;simp at h;subst h;simp only[bN,iK]at b;exact⟨0,x,q,rfl,aL,aL,b.1,b.2⟩
def Nx:∀{l:List Nat}{f:Nat->Prop},Oq l f->∀a∈l,f a
 |[a],f,h,j,b=>by simp at b;subst b;exact h
 |a::c::r,f,h,j,b=>by
  rcases List.mem_cons.1 b with rfl|b
  .exact h.1
  .exact Nx h.2 j b
def LR{m b:E}:∀{l:List (Nat×Nat)}{k:Prop},LQ m b l k->k/\∀q∈l,af b q.1 q.2=af m q.1 q.2
 |[],k,h=>⟨h,aL⟩
 |(e,o)::r,k,h=>by
  obtain⟨c,d⟩:=LR h.2;refine⟨c,λq a=>?_⟩;rcases List.mem_cons.1 a with rfl|a
  .exact h.1
  .exact d q a
def Fm{c:Nat}{m g:E}:∀{L:List (Nat×List (Nat×Nat))}{k:Prop},DF c m g L k->k/\∀x∈L,Nat.testBit c x.1=false->∀q∈x.2,af g q.1 q.2=af m q.1 q.2
 |[],k,h=>⟨h,aL⟩
 |(r,l)::L,k,h=>by
  simp only[DF]at h;cases f:Nat.testBit c r
  .rw[f]at h;obtain⟨i,j⟩:=LR h;obtain⟨d,e⟩:=Fm i;refine⟨d,λx a b=>?_⟩;rcases List.mem_cons.1 a with rfl|a
   .exact j
   .exact e x a b
  .rw[f]at h;obtain⟨d,e⟩:=Fm h;refine⟨d,λx a b=>?_⟩;rcases List.mem_cons.1 a with rfl|a
   .rw[f]at b;cases b
   .exact e x a b
def Z2(L:List (Nat×List (Nat×Nat)))(b:List (Nat×(World->Prop))):Prop:=
 ∀x∈b,(∀w,x.2 w)\/∃(a:List (Nat×Nat))(c:Nat×Nat->Option Value),(x.1,a)∈L/\x.2=λw=>∀q∈a,af w.heap q.1 q.2=c q
end Go.Vc
end
section
namespace Go.Vc
variable{a:Program}{T:TT}{G:List Nat}{n:Nat}
def Pg(hT:uj a T)(hG:U8 a G)(b:Array Oper)(U f:List Nat)(z:ly f b.toList U f=true)(ao:FC b.toList U 0 b.toList f=true)
 {ag:Exit->Act->World->Prop}(hQ:∀N g w,¬ag (.panic N) g w){w0:World}{a0:Act}:
 ∀(F done:Nat)(D:Fr)(ac:E)(L:List (Nat×List (Nat×Nat)))(B:Fr->E->Prop)(M:List (Nat×(World->Prop)))(c:Array Bool)(g:Act)(w:World),
  oU a T G n b.toList U f F done D ac L B->Z2 L M->Oh b.size done c->Hs (λi K=>Nat.testBit (uv f i) K) c->j9 n D g->Bx n D ac->w.heap=ac->pH w0 w->
  mI (zR b.toList) a0 g->
  (∀s d k,B s k.heap->j9 n s d->Bx n s k.heap->pH w0 k->mI (zR b.toList) a0 d->ag .normal d k)->
  vM a .any b ag (λi K=>Nat.testBit (uv f i) K) M F c g w:=by
 have H:UZ .any b (λi K=>Nat.testBit (uv f i) K):=by
  intro i K o d p;have X:=(lW f z i o (by simpa using d)).2.1;simp only[X]at p;obtain⟨e,he,hb,h⟩:=yG f K _ p;exact⟨e,Array.mem_toList_iff.1 he,hb,h⟩
 have aF:=Jn f z
 have av:∀(j:Nat)(o:Oper) cs r,b[j]? =some o->o.op≠.select cs r:=by
  intro j o cs r d e;obtain⟨_,_,bj,ay⟩:=lW f z j o (by simpa using d);have:=(xl _ _ ao j o bj (by simpa using d) ay).1;rw[e]at this;simp[XK]at this
 have am:∀{done:Nat}{c:Array Bool},Oh b.size done c->∀i,i∈Region.ready .any b c<->i∈pV done 0 b.toList U:=by
  intro done c hD i;rw[Ia b z hD i,Lt];constructor
  .rintro⟨o,R,d,O,p⟩;exact⟨i,o,R,V,by simpa using d,O,p⟩
  .rintro⟨j,o,R,e,d,O,p⟩;have:i=j:=V;subst this;exact⟨o,R,by simpa using d,O,p⟩
 have au:∀{done:Nat}{c:Array Bool},Oh b.size done c->pV done 0 b.toList U=[]->Region.ready .any b c=[]:=by
  intro done c hD h;apply List.eq_nil_iff_forall_not_mem.2;intro i m;rw[am hD i,h]at m;cases m
 intro F
 induction F with
 |zero=>
  intro done D ac L B M c g w h hL hD hC hR hB hw hs hk hq
  subst hw
  simp only[oU]at h
  split at h
  .rename_i h0
   exact⟨au hD h0,hq D g w h hR hB hs hk⟩
  .exact h.elim
 |succ F Q=>
  intro done D ac L B M c g w h hL hD hC hR hB hw hs hk hq
  subst hw
  simp only[oU]at h
  split at h
  · -- a reading is taken first
   rename_i i m
   obtain⟨j,o,R,e,d,O,p,aD⟩:=Jc done m
   have:i=j:=V
   subst this
   rw[pU,d]at h
   simp only at h
   have A:b[i]? =some o:=by simpa using d
   have aa:i<b.size:=(Array.getElem?_eq_some_iff.1 A).1
   have ab:i∈Region.ready .any b c:=(Ia b z hD i).2 ⟨o,R,A,O,p⟩
   cases hd:sH n o.dst
   .rw[hd]at h;exact h.elim
   .rw[hd]at h
    simp only[jH]at h
    have Y:=DU hd
    have Z:∀C,o.dst=some C->C∈zR b.toList:=λC ah=>Lr ah _ (ij d)
    have aq:∀j I,b[j]? =some I->j≠i->c.getD j true=false->(∀e∈I.after,Region.binds .any e=true->e.on≠i)->o.apart b I=true:=by
     intro j I al aA ar aB;have az:j<b.size:=(Array.getElem?_eq_some_iff.1 al).1;obtain⟨_,aE,bi,ap⟩:=lW f z i o d;rcases(xl _ _ ao i o bi d ap).2 with t|t
     .rw[aD]at t;cases t
     .have W:=(lW f z j I (by simpa using al)).1;have u:uv f i=bi:=by
       have:∀(l:List Nat)(i r:Nat),l[i]? =some r->uv l i=r:=by
        intro l;induction l with
        |nil=>intro i r h;simp at h
        |cons ad l Q=>intro i r h;cases i with
         |zero=>simpa[uv]using h
         |succ i=>simpa[uv]using Q i r (by simpa using h)
       exact this f i bi ap
      rcases Dl _ _ _ _ t j I _ (by simpa using al) W with e|e|e|e
      .exact absurd V aA
      .rw[cE]at e;obtain⟨q,y,hb,J⟩:=(nC i _).1 e;exact absurd J (aB q (Array.mem_toList_iff.1 y) hb)
      .rw[cE,<-u]at e;have:=xI H hC ab e;rw[hD.YB]at this;rw[hD.un az,this]at ar;cases ar
      .exact PD b e
    rcases I5 b hR hB o h with⟨J,s,an,y,u⟩|⟨J,s,ak,y,u⟩
    .obtain⟨ad,aw,hx,hv,aC⟩:=LF (P:=a) hT y u o an
     let ax:World->Prop:=λk=>∀q∈Tl T s o.op,af k.heap q.1 q.2=af w.heap q.1 q.2
     refine Ho (S:=ax) H A av (λN g w hc=>absurd hc (hQ _ _ _)) F c g w hC aq ab (F:=aw) (Or.inl ⟨J,λk l=>aC k l⟩) (λq _=>rfl) ?_
     refine Q _ _ _ _ B _ _ _ w hx ?_ (hD.set aa) (hC.set H ab) (y.put hv Y) (u.put _ _) rfl hs (hk.trans (mI.put Z _ _)) hq
     intro W l
     rcases List.mem_cons.1 l with rfl|l
     .exact Or.inr ⟨_,λq=>af w.heap q.1 q.2,aX,rfl⟩
     .rcases hL W l with t|⟨As,N,X,h2⟩
      .exact Or.inl t
      .exact Or.inr ⟨As,N,ai _ X,h2⟩
    .refine Ho (S:=λ_=>True) H A av (λN g w hc=>absurd hc (hQ _ _ _)) F c g w hC aq ab (F:=undef) (Or.inr ⟨J,rfl⟩) trivial ?_
     refine Q _ _ _ _ B _ _ _ w ak ?_ (hD.set aa) (hC.set H ab) (y.put (x:=.un) rfl Y) (u.put _ _) rfl hs (hk.trans (mI.put Z _ _)) hq
     intro W l
     rcases List.mem_cons.1 l with rfl|l
     .exact Or.inl λ_=>trivial
     .exact hL W l
  .split at h
   .rename_i h0
    exact QE (au hD h0) (hq D g w h hR hB hs hk) _
   .rename_i rs ax
    have ar:=Nx h
    refine RH ?_ ?_
    .intro e
     apply ax
     cases I:pV done 0 b.toList U with
     |nil=>rfl
     |cons ad xs=>
      have:ad∈Region.ready .any b c:=(am hD ad).2 (by rw[I];exact aX)
      rw[e]at this
      cases this
    .intro i m
     have I:=ar i ((am hD i).1 m)
     obtain⟨o,R,A,O,p⟩:=(Ia b z hD i).1 m
     have d:b.toList[i]? =some o:=by simpa using A
     have aa:i<b.size:=(Array.getElem?_eq_some_iff.1 A).1
     rw[pU,d]at I
     simp only at I
     cases hd:sH n o.dst
     .rw[hd]at I;exact I.elim
     .rw[hd]at I
      simp only[jH]at I
      have Y:=DU hd
      have Z:∀C,o.dst=some C->C∈zR b.toList:=λC ah=>Lr ah _ (ij d)
      unfold wpOp
      simp only[A]
      rcases I5 b hR hB o I with⟨J,s,an,y,u⟩|⟨J,s,ak,y,u⟩
      .rw[aj J]
       refine .inl (QF hT hG y u o an w rfl _ _ λaD ad aw k hx aq ap hv az=>?_)
       obtain⟨aA,aB⟩:=Fm hx
       refine⟨λW l aC ab=>?_,Q _ _ _ L B M _ _ k aA hL (hD.set aa) (hC.set H m) (aq.put hv Y) (ap.put _ _) rfl (hs.trans az) (hk.trans (mI.put Z _ _)) hq⟩
       rcases hL W l with t|⟨As,N,X,h2⟩
       .exact t k
       .rw[h2]at ab⊢
        intro q al
        rw[aB _ X aC q al,ab q al]
      .rw[ae (by rw[J];simp)]
       exact⟨λW l _ ab=>ab,Q _ _ _ L B M _ _ w ak hL (hD.set aa) (hC.set H m) (y.put (x:=.un) rfl Y) (u.put _ _) rfl hs (hk.trans (mI.put Z _ _)) hq⟩
end Go.Vc
end
section
namespace Go.Vc
variable{M:List Nat}{a:Act}{s:Sh}{y:s.ty}
variable{P:Program}{T:TT}{G:List Nat}{b:Nat}
structure Pl where
 Ui:List (Nat×List (Nat×Sh))
 Vo:List (Nat×List (Nat×Sh))
 dQ:List (Nat×List Nat)
def lk{α:Type}:List (Nat×α)->Nat->Option α
 |[],_=>none
 |(u,x)::r,t=>bif Nat.beq u t then some x else lk r t
def Ds:Code->Option Nat
 | .region id _ _=>some id
 | .seq a b=>match Ds a with
  |some i=>some i
  |none=>Ds b
 | .cond _ a b=>match Ds a with
  |some i=>some i
  |none=>Ds b
 | .block _ c=>Ds c
 | .loop c=>Ds c
 | .scope c=>Ds c
 |_=>none
def Wl{α:Type}(l:List (Nat×α))(c:Code):Option α:=
 match Ds c with
 |some i=>lk l i
 |none=>none
def Hw:List (Nat×Sh)->Type
 |[]=>E->Prop
 |(_,s)::r=>s.ty->Hw r
def Ok:List (Nat×Sh)->Type
 |[]=>E->Nat
 |(_,s)::r=>s.ty->Ok r
def Q8:(s:Sh)->SV->Option s.ty
 | .I,.c (.i b)=>some b
 | .U k,.c (.u c b)=>if k=c then some b else none
 | .T,.c (.t c)=>some c
 | .T,.tt=>some true
 | .T,.ff=>some false
 | .S,.c (.s x)=>some x
 | .P,.c (.p c o)=>some (c,o)
 | .P,.c (.bp _ c o)=>some (c,o)
 | .F,.c (.fn f a d)=>some (f,a,d)
 | .F,.c (.fv q)=>some q
 | .M,.c (.mp c)=>some c
 |_,_=>none
def Hy:(l:List (Nat×Sh))->Hw l->Fr->E->Prop
 |[],I,_,m=>I m
 |(t,s)::r,I,a,m=>match Q8 s (gZ a t)with
  |some x=>Hy r (I x) a m
  |none=>False
def Ou:(l:List (Nat×Sh))->Hw l->Ok l->Fr->E->Nat->Prop
 |[],I,μ,_,m,N=>I m/\μ m<N
 |(t,s)::r,I,μ,a,m,N=>match Q8 s (gZ a t)with
  |some x=>Ou r (I x) (μ x) a m N
  |none=>False
def PA:(l:List (Nat×Sh))->Hw l->Fr->(Fr->(E->Prop)->Prop)->Prop
 |[],I,a,k=>k a I
 |(t,s)::r,I,a,k=>∀x:s.ty,PA r (I x) ((t,.c (s.mk x))::a) k
def PB:(l:List (Nat×Sh))->Hw l->Ok l->Fr->(Fr->(E->Prop)->(E->Nat)->Prop)->Prop
 |[],I,μ,a,k=>k a I μ
 |(t,s)::r,I,μ,a,k=>∀x:s.ty,PB r (I x) (μ x) ((t,.c (s.mk x))::a) k
def nK:List Nat->Fr->Fr
 |[],a=>a
 |t::r,a=>(t,.fZ)::nK r a
def oP:Code->List Nat
 | .region _ b _=>zR b.toList
 | .seq a b=>oP a++oP b
 | .cond _ a b=>oP a++oP b
 | .block _ c=>oP c
 | .loop c=>oP c
 |_=>[]
def pZ(M:List Nat):List (Nat×Sh)->Bool
 |[]=>true
 |(t,_)::r=>vw t M&&pZ M r
def JE(x y:SV)(k:Prop):Prop:=x=y/\k
def aB(x:SV)(k:Prop):JE x x k=k:=by simp[JE]
def lD(A:Pl)(c:Code):List Nat:=
 match Wl A.dQ c with
 |some K=>K
 |none=>[]
def Dm(b:Nat)(K:List Nat):Fr->List Nat
 |[]=>[]
 |(q,_)::r=>bif Nat.ble b q&&!vw q K then q::Dm b K r else Dm b K r
def uJ(b:Nat)(K:List Nat)(a:Fr):Fr:=nK (Dm b K a) a
def UT(a b:Fr):List Nat->Prop->Prop
 |[],k=>k
 |q::K,k=>JE (gZ b q) (gZ a q) (UT a b K k)
def LD(c:Fr):Op->Option SV
 | .move x| .assign x=>match ev c x with
  | .fZ=>none
  |y=>some y
 | .binOp d _ x y _=>match ev c x,ev c y with
  | .c (.i a),.c (.i b)=>match d with
   | .eql=>some (.c (.t (a==b)))
   | .neq=>some (.c (.t (a !=b)))
   | .lss=>some (.c (.t (decide (a<b))))
   | .leq=>some (.c (.t (decide (a<=b))))
   | .gtr=>some (.c (.t (decide (a>b))))
   | .geq=>some (.c (.t (decide (a>=b))))
   |_=>none
  |_,_=>none
 |_=>none
def rc(b:Nat):List Oper->Fr->Option Fr
 |[],a=>some a
 |o::r,a=>bif sH b o.dst then
  match o.guard with
  |none=>match LD a o.op with
   |some x=>rc b r (uo a o.dst x)
   |none=>none
  |some _=>none
  else none
def Wp(A:Pl)(b t:Nat):Code->Fr->Option Bool
 | .region _ e false,d=>match rc b e.toList d with
  |some a=>lB (gZ a t)
  |none=>none
 | .seq (.region _ e false) (.cond (.tmp u) .skip c),d=>
  match Wl A.Vo (.cond (.tmp u) .skip c)with
  |some _=>none
  |none=>bif Nat.beq u t&&vw t (oP c)then
   match rc b e.toList d with
   |some a=>match lB (gZ a t),Wp A b t c a with
    |some x,some y=>some (x||y)
    |_,_=>none
   |none=>none
   else none
 |_,_=>none
def Y2(A:Pl)(b:Nat)(d:Operand)(a c:Code)(e:Fr):Option (Nat×Bool):=
 match d,a with
 | .tmp t,.skip=>bif vw t (oP c)then
  match Wp A b t c e with
  |some y=>some (t,y)
  |none=>none
  else none
 |_,_=>none
def uT(a:Fr)(c:Operand)(v:SV):Fr:=
 match c with
 | .tmp t=>(t,v)::a
 |_=>a
def Vz:List Oper->List Nat
 |[]=>[]
 |o::r=>lE o.after.toList::Vz r
def TN:List Nat->List Oper->List Nat
 |a,[]=>a
 |a,o::r=>TN (a++[oC a o.after.toList]) r
def qD:Code->Bool
 | .region _ b c=>!c||(ly (TN [] b.toList) b.toList (Vz b.toList) (TN [] b.toList)&&FC b.toList (Vz b.toList) 0 b.toList (TN [] b.toList))
 | .seq a b=>qD a&&qD b
 | .cond _ a b=>qD a&&qD b
 | .block _ c=>qD c
 | .loop c=>qD c
 |_=>true
def vc(P:Program)(T:TT)(G:List Nat)(b:Nat)(A:Pl):Code->Fr->E->(Exit->Fr->E->Prop)->Prop
 | .skip,c,m,Q=>Q .normal c m
 | .region id d e,c,m,Q=>
  bif e then oU P T G b d.toList (Vz d.toList) (TN [] d.toList) d.toList.length 0 c m [] (λc m=>Q .normal c m)
  else sN P T G b d.toList d.toList c m (λc m=>Q .normal c m)
 | .seq a g,c,m,Q=>match Wl A.Vo g with
  |none=>vc P T G b A a c m λ
   | .normal,e,d=>vc P T G b A g e d Q
   |h,e,d=>Q h e d
  |some l=>bif pZ (oP a) l then∃K:Hw l,(vc P T G b A a c m λ
   | .normal,e,d=>UT c e (lD A g) (Hy l K e d)
   |h,e,d=>Q h e d)/\
   (PA l K (nK (oP a) (uJ b (lD A g) c)) λe f=>∀d,f d->vc P T G b A g e d Q)else False
 | .cond f a g,c,m,Q=>match ev c f with
  | .tt=>vc P T G b A a c m Q
  | .ff=>vc P T G b A g c m Q
  | .c (.t x)=>match Y2 A b f a g c with
   |some (t,y)=>Q .normal ((t,.c (.t (x||y)))::nK (oP g) c) m
   |none=>(x=true->vc P T G b A a (uT c f .tt) m Q)/\(x=false->vc P T G b A g (uT c f .ff) m Q)
  |_=>False
 | .block id f,c,m,Q=>vc P T G b A f c m λ
  | .exit i,e,d=>bif Nat.beq i id then Q .normal e d else Q (.exit i) e d
  |h,e,d=>Q h e d
 | .loop f,c,m,Q=>match Wl A.Ui f with
  |none=>False
  |some l=>bif pZ (oP f) l then∃(I:Hw l)(μ:Ok l),Hy l I c m/\
   (PB l I μ (nK (oP f) (uJ b (lD A f) c)) λe j μ'=>∀d,j d->vc P T G b A f e d λ
    | .normal,g,i=>UT c g (lD A f) (Ou l I μ g i (μ' d))
    |h,g,i=>Q h g i)else False
 | .exit id,c,m,Q=>Q (.exit id) c m
 | .ret,c,m,Q=>Q .ret c m
 |_,_,_,_=>False
def mI.mono{b:List Nat}{c:Act}(h:mI M a c)(e:∀t∈M,t∈b):mI b a c:=λt f=>h t λd=>f (e t d)
def BU:∀(M:List Nat)(a:Fr)(t:Nat),(t∈M/\gZ (nK M a) t=.fZ)\/(t∉M/\gZ (nK M a) t=gZ a t)
 |[],_,_=>Or.inr ⟨aL,rfl⟩
 |u::M,a,t=>by
  simp only[nK,gZ];cases d:Nat.beq u t
  .have f:u≠t:=λe=>by subst e;simp at d
   rcases BU M a t with⟨b,c⟩|⟨b,c⟩
   .exact Or.inl ⟨ai _ b,c⟩
   .exact Or.inr ⟨by simp only[aS,ui];exact⟨λe=>f e.symm,b⟩,c⟩
  .have:=bt d;subst this;exact Or.inl ⟨aX,rfl⟩
def Au{d:Fr}{c:Act}(g:j9 b d a)(j:c.tmps.size=b)(hd:c.defers=[])(i:mI M a c):j9 b (nK M d) c:=by
 refine⟨j,hd,λt=>?_⟩;rcases BU M d t with⟨_,h⟩|⟨e,f⟩
 .rw[h];trivial
 .rw[f,i t e];exact g.aG t
def j9.nK{c:Fr}{a:Act}(d:j9 b c a):∀(M:List Nat),j9 b (nK M c) a
 |[]=>d
 |t::M=>(j9.nK d M).fZ t
def Bx.nK{a:Fr}{m:E}(h:Bx b a m):∀(M:List Nat),Bx b (nK M a) m
 |[]=>h
 |t::M=>(Bx.nK h M).fZ aL
def ND{K:List Nat}{q:Nat}(d:b<=q)(c:q∉K):∀{a:Fr},q∈Dm b K a\/gZ a q=.fZ
 |[]=>Or.inr rfl
 |(u,x)::r=>by
  simp only[Dm,gZ];cases i:Nat.beq u q
  .rcases ND d c (a:=r)with h|h
   .left;cases(Nat.ble b u&&!vw u K)
    .exact h
    .exact ai _ h
   .exact Or.inr h
  .have:=bt i;subst this;have f:vw u K=false:=by
    cases g:vw u K
    .rfl
    .exact absurd (HP g) c
   have e:Nat.ble b u=true:=Ym d;simp[f,e]
def KW{b c:Fr}:∀{K:List Nat}{k:Prop},UT b c K k->(∀q∈K,gZ c q=gZ b q)/\k
 |[],k,h=>⟨aL,h⟩
 |q::K,k,h=>by
  obtain⟨d,e⟩:=KW h.2;refine⟨λu a=>?_,e⟩;rcases List.mem_cons.1 a with rfl|a
  .exact h.1
  .exact d u a
def Bx.lD{K:List Nat}{c j:Fr}{v p:E}(h:Bx b c v)(r:Bx b j p)(s:∀q∈K,gZ j q=gZ c q):Bx b (Vc.nK M (uJ b K c)) p:=by
 have i:∀{q d e l},lP (Vc.nK M (uJ b K c)) q d e l->lP c q d e l/\lP j q d e l:=by
  intro q d e l a;have f:gZ (Vc.nK M (uJ b K c)) q=gZ (uJ b K c) q\/gZ (Vc.nK M (uJ b K c)) q=.fZ:=by
   rcases BU M (uJ b K c) q with⟨_,h⟩|⟨_,h⟩
   .exact Or.inr h
   .exact Or.inl h
  unfold lP at a;rcases f with f|f
  .rw[f]at a;unfold uJ at a;rcases BU (Dm b K c) c q with⟨_,g⟩|⟨k,g⟩
   .rw[g]at a;simp at a
   .rw[g]at a;have t:b<=q:=h.key q d e l a;by_cases o:q∈K
    .refine⟨a,?_⟩;unfold lP;rw[s q o];exact a
    .rcases ND (b:=b) t o (a:=c)with m|m
     .exact absurd m k
     .rw[m]at a;simp at a
  .rw[f]at a;simp at a
 exact⟨λq d e l a=>r.D q d e l (i a).2,λq w d e l m o u t k g=>h.Ow q w d e l m o u t (i k).1 (i g).1,λq d e l a=>h.key q d e l (i a).1⟩
def SJ{x:SV}(h:Q8 s x=some y):x.jI=true/\x.v=(s.mk y).v:=by
 unfold Q8 at h;split at h<;>first|(simp at h;subst h;exact⟨rfl,rfl⟩)|skip
 .split at h
  .rename_i a;subst a;simp at h;subst h;exact⟨rfl,rfl⟩
  .simp at h
 .simp at h
def LI{d cv:Fr}{t:Nat}(g:j9 b d a)(c:j9 b cv a)(h:Q8 s (gZ d t)=some y):j9 b ((t,.c (s.mk y))::cv) a:=by
 refine⟨c.size,c.defers,λu=>?_⟩;simp only[gZ];cases i:Nat.beq t u
 .exact c.aG u
 .have:=bt i;subst this;have e:=g.aG t;obtain⟨j,k⟩:=SJ h;have f:=e.eq j;show _=_;rw[f,k];rfl
def Tx:(l:List (Nat×Sh))->Hw l->Ok l->Fr->Fr->(E->Prop)->(E->Nat)->Prop
 |[],I,μ,b,c,a,μ'=>c=b/\a=I/\μ'=μ
 |(t,s)::r,I,μ,b,c,a,μ'=>∃x:s.ty,Tx r (I x) (μ x) ((t,.c (s.mk x))::b) c a μ'
def Ny:∀{l:List (Nat×Sh)}{I:Hw l}{μ:Ok l}{b:Fr}{k:Fr->(E->Prop)->(E->Nat)->Prop},PB l I μ b k->∀{fr' I' μ'},Tx l I μ b fr' I' μ'->k fr' I' μ'
 |[],_,_,_,_,h,_,_,_,a=>by obtain⟨rfl,rfl,rfl⟩:=a;exact h
 |(t,s)::r,_,_,_,_,h,_,_,_,a=>by obtain⟨x,a⟩:=a;exact Ny (h x) a
def Sh.Ul(s:Sh)(x:s.ty)(b e:Nat)(l:List Ce):SV.c (s.mk x)≠.box b e l/\SV.c (s.mk x)≠.zO b e l:=⟨aL,aL⟩
def NC{a:Act}{g:Fr}(i:j9 b g a):∀{l:List (Nat×Sh)}{I:Hw l}{μ:Ok l}{cv:Fr}{m:E}{N:Nat},j9 b cv a->Bx b cv m->Ou l I μ g m N->
 ∃c d μ',Tx l I μ cv c d μ'/\j9 b c a/\Bx b c m/\d m/\μ' m<N
 |[],I,μ,cv,_,_,f,e,h=>⟨cv,I,μ,⟨rfl,rfl,rfl⟩,f,e,h.1,h.2⟩
 |(t,s)::r,I,μ,cv,m,N,f,e,h=>by
  simp only[Ou]at h;split at h
  .rename_i x p;obtain⟨c,d,μ',j,k,n,o⟩:=NC i (LI i f p) (e.fZ (s.Ul x)) h;exact⟨c,d,μ',⟨x,j⟩,k,n,o⟩
  .exact h.elim
def NA{a:Act}{g:Fr}(i:j9 b g a):∀{l:List (Nat×Sh)}{I:Hw l}{μ:Ok l}{cv:Fr}{m:E},j9 b cv a->Bx b cv m->Hy l I g m->
 ∃c d μ',Tx l I μ cv c d μ'/\j9 b c a/\Bx b c m/\d m
 |[],I,μ,cv,_,f,e,h=>⟨cv,I,μ,⟨rfl,rfl,rfl⟩,f,e,h⟩
 |(t,s)::r,I,μ,cv,m,f,e,h=>by
  simp only[Hy]at h;split at h
  .rename_i x o;obtain⟨c,d,μ',j,k,n⟩:=NA i (LI i f o) (e.fZ (s.Ul x)) h;exact⟨c,d,μ',⟨x,j⟩,k,n⟩
  .exact h.elim
def PE{a:Act}{i:Fr}(j:j9 b i a):∀{l:List (Nat×Sh)}{I:Hw l}{cv:Fr}{m:E}{k:Fr->(E->Prop)->Prop},j9 b cv a->Bx b cv m->Hy l I i m->PA l I cv k->
 ∃c g,k c g/\j9 b c a/\Bx b c m/\g m
 |[],I,cv,_,_,e,d,h,f=>⟨cv,I,f,e,d,h⟩
 |(t,s)::r,I,cv,m,k,e,d,h,f=>by
  simp only[Hy]at h;split at h
  .rename_i x n;exact PE j (LI j e n) (d.fZ (s.Ul x)) h (f x)
  .exact h.elim
def Ti{l:Code}{Q:Exit->Act->World->Prop}(b:Nat->Act->World->Prop)
 (r:∀N a w,b N a w->l.wp P (Exit.then (λg k=>∃d,d<N/\b d g k) Q) a w):∀N a w,b N a w->(Code.loop l).wp P Q a w:=by
 have q:∀N a w,b N a w->∃M,b M a w/\∀c,c<M->¬b c a w:=by
  intro N;induction N using Nat.strongRecOn with
  |_ N j=>
   intro a w h;by_cases e:∃c,c<N/\b c a w
   .obtain⟨c,f,i⟩:=e;exact j c f a w i
   .exact⟨N,h,λc i f=>e ⟨c,i,f⟩⟩
 intro N a w o
 classical
 let μ:Act->World->Nat:=λa w=>if h:∃M,b M a w/\∀c,c<M->¬b c a w then Classical.choose h else 0
 have hμ:∀a w N,b N a w->b (μ a w) a w/\μ a w<=N:=by
  intro a w N h;have e:=q N a w h;have i:μ a w=Classical.choose e:=Tn e;have n:=eB e;rw[i];refine⟨n.1,?_⟩;rcases aZ N (Classical.choose e)with j|p
  .exact absurd h (n.2 N j)
  .exact p
 refine wp_loop (λa w=>∃N,b N a w) μ ⟨N,o⟩ ?_
 rintro a w ⟨N,h⟩
 refine Code.wp_mono ?_ (r (μ a w) a w (hμ a w N h).1)
 intro i g k m
 cases i with
 |normal=>
  obtain⟨d,j,f⟩:=m
  exact⟨⟨d,f⟩,nO (hμ g k d f).2 j⟩
 |_=>exact m
end Go.Vc
end
section
namespace Go.Vc
variable{i w:World}{j p:List Nat}{l a:Act}{f:Exit->Fr->E->Prop}{e:Exit}{b:E}
variable{g:Program}{h:TT}{G:List Nat}{d:Nat}{o:Pl}
def kv(d:Nat)(i:World)(j:List Nat)(l:Act)(f:Exit->Fr->E->Prop):Exit->Act->World->Prop
 | .panic _,_,_=>False
 | .outgrown,_,_=>False
 |e,a,w=>∃b,j9 d b a/\Bx d b w.heap/\pH i w/\mI j l a/\f e b w.heap
def kv.mk{b:Fr}(g:(∀c,e≠.panic c)/\e≠.outgrown)
 (k:j9 d b a)(h:Bx d b w.heap)(o:pH i w)(m:mI j l a)(n:f e b w.heap):kv d i j l f e a w:=by
 cases e with
 |panic c=>exact absurd rfl (g.1 c)
 |outgrown=>exact absurd rfl g.2
 |_=>exact⟨b,k,h,o,m,n⟩
def kv.aW(h:kv d i j l f e a w):
 ((∀c,e≠.panic c)/\e≠.outgrown)/\∃b,j9 d b a/\Bx d b w.heap/\pH i w/\mI j l a/\f e b w.heap:=by
 cases e with
 |panic c=>exact h.elim
 |outgrown=>exact h.elim
 |_=>exact⟨⟨aL,aL⟩,h⟩
def kv.left(h:kv d i j l f e a w):kv d i (j++p) l f e a w:=by
 obtain⟨g,q,c,b,n,k,m⟩:=h.aW;exact kv.mk g c b n (k.mono (λt o=>bL _ o)) m
def kv.right(h:kv d i j l f e a w):kv d i (p++j) l f e a w:=by
 obtain⟨g,q,c,b,n,k,m⟩:=h.aW;exact kv.mk g c b n (k.mono (λt o=>fK _ o)) m
def SY{f:Fr}{e:Op}{x:SV}{k:SV->Prop}(c:LD f e=some x)(d:k x):Lj e=false/\rd h f b k e:=by
 unfold LD at c;split at c
 .split at c
  .simp at c
  .simp at c;subst c;exact⟨rfl,d⟩
 .split at c
  .simp at c
  .simp at c;subst c;exact⟨rfl,d⟩
 .rename_i o t y z l;split at c
  .rename_i a j g i;refine⟨rfl,?_⟩;simp only[rd,g,i];split at c<;>simp at c<;>subst c<;>exact d
  .simp at c
 .simp at c
def Ek(j:List Oper){b:E}{i:Fr->E->Prop}:∀{n:List Oper}{c e:Fr},rc d n c=some e->i e b->sN g h G d j n c b i
 |[],c,e,a,f=>by simp[rc]at a;subst a;exact f
 |o::s,c,e,a,f=>by
  simp only[rc]at a;simp only[sN];cases hd:sH d o.dst
  .rw[hd]at a;simp at a
  .rw[hd]at a;simp only[jH]at a⊢;cases l:o.guard with
   |some p=>rw[l]at a;simp at a
   |none=>
    rw[l]at a;simp only[gd]at a⊢;split at a
    .rename_i x r;obtain⟨p,q⟩:=SY (h:=h) (b:=b) (k:=λx=>sN g h G d j s (uo c o.dst x) b i) r (Ek j a f);rw[p];exact q
    .simp at a
def Up(p:Nat){b:E}{f:Exit->Fr->E->Prop}:∀(k:Code)(n:Fr)(y:Bool),Wp o d p k n=some y->(∀i,lB (gZ i p)=some y->f .normal i b)->vc g h G d o k n b f
 | .region id A e,n,y,a,m=>by
  cases e
  .simp only[Wp]at a;simp only[vc,mM];split at a
   .rename_i i q;exact Ek _ q (m i a)
   .simp at a
  .simp[Wp]at a
 | .seq (.region id A false) (.cond (.tmp u) .skip k),n,y,a,m=>by
  simp only[Wp]at a;split at a
  .simp at a
  .rename_i w;cases l:(Nat.beq u p&&vw p (oP k))
   .rw[l]at a;simp at a
   .rw[l]at a;simp only[jH]at a;simp only[bN]at l;have z:=bt l.1;subst z;split at a
    .rename_i i q;split at a
     .rename_i C B e r;simp at a;subst a;rw[vc,w];simp only;rw[vc];simp only[mM];refine Ek _ q ?_;rw[vc];have x:ev i (.tmp u)=(gZ i u).nb:=rfl;rw[x];cases j:gZ i u with
      |tt=>
       rw[j]at e;simp[lB]at e;subst e;simp only[SV.nb,vc];exact m i (by rw[j];simp[lB])
      |ff=>
       rw[j]at e;simp[lB]at e;subst e;simp only[SV.nb];exact Up u k i B r (λs v=>m s (by simpa using v))
      |c s=>
       cases s with
       |t v=>
        rw[j]at e;simp[lB]at e;subst e;simp only[SV.nb,Y2,l.2,jH,r];exact m _ (by simp[gZ,lB])
       |_=>rw[j]at e;simp[lB]at e
      |_=>rw[j]at e;simp[lB]at e
     .simp at a
    .simp at a
def UH(hT:uj g h)(hG:U8 g G)(au:g.follows .mixedOrders=true)(i:World):∀(D:Code),qD D=true->∀(l:Fr)(b:E)(f:Exit->Fr->E->Prop)(a:Act)(w:World),
 vc g h G d o D l b f->j9 d l a->Bx d l b->w.heap=b->pH i w->D.wp g (kv d i (oP D) a f) a w:=by
 intro D
 induction D with
 |skip=>
  intro hd l b f a w c k s x t
  subst x
  exact wp_skip ⟨l,k,s,t,mI.aA _ _,c⟩
 |region id p z=>
  intro hd l b f a w c k s x t
  simp only[vc]at c
  cases z
  .simp only[mM]at c
   refine wp_region_list ?_
   exact vk hT hG p p.toList l b (f .normal) a w (λ_ c=>c) c k s x t (mI.aA _ _) λB I S j r v u q=>⟨B,r,v,u,q,j⟩
  .simp only[jH]at c
   simp only[qD,Oc,VO,bN]at hd
   refine wp_region_any au (Mz (e:=λy C=>Nat.testBit (uv (TN [] p.toList) y) C) (L:=[]) _ _ _ _ ?_)
   have F:p.toList.length=p.size:=aL
   rw[F]at c
   refine Pg hT hG p _ _ hd.1 hd.2 (λD a w hx=>hx) (w0:=i) (a0:=a) p.size 0 l b [] (f .normal) [] _ a _ c (λC hx=>by cases hx) ⟨aL,λy=>by simp[VN];split<;>rfl⟩ (λy hi=>by simp[VN]at hi;split at hi<;>simp at hi) k s x ⟨t.os,t.tape,t.output⟩ (mI.aA _ _) λB I S j r v u q=>⟨B,r,v,u,q,j⟩
 |seq C U ac X=>
  intro hd l b f a w c k s x t
  simp only[vc]at c
  simp only[qD,bN]at hd
  refine wp_seq ?_
  split at c
  .refine Code.wp_mono ?_ (ac hd.1 l b _ a w c k s x t)
   intro e I S j
   obtain⟨p,B,r,v,u,z,j⟩:=j.aW
   cases e with
   |normal=>
    refine Code.wp_mono ?_ (X hd.2 B _ f I S j r v rfl u)
    intro e R aa j
    obtain⟨p,V,J,F,O,K,j⟩:=j.aW
    exact kv.mk p J F O ((z.mono (λH q=>bL _ q)).trans (K.mono (λH q=>fK _ q))) j
   |panic D=>exact absurd rfl (p.1 D)
   |outgrown=>exact absurd rfl p.2
   |exit y=>exact kv.mk (e:=.exit y) p r v u (z.mono (λH q=>bL _ q)) j
   |goto y=>exact kv.mk (e:=.goto y) p r v u (z.mono (λH q=>bL _ q)) j
   |ret=>exact kv.mk (e:=.ret) p r v u (z.mono (λH q=>bL _ q)) j
  .rename_i N hl
   cases ab:pZ (oP C) N
   .rw[ab]at c;exact c.elim
   rw[ab]at c
   obtain⟨ad,h1,W⟩:=c
   refine Code.wp_mono ?_ (ac hd.1 l b _ a w h1 k s x t)
   intro e I S j
   obtain⟨p,B,r,v,u,z,j⟩:=j.aW
   cases e with
   |normal=>
    obtain⟨af,j⟩:=KW j
    obtain⟨ag,K',h3,Y,Z,h5⟩:=PE r (Au (k.nK _) r.size r.defers z) (Bx.lD s v af) j W
    refine Code.wp_mono ?_ (X hd.2 ag _ f I S (h3 _ h5) Y Z rfl u)
    intro e R aa j
    obtain⟨p,V,J,F,O,K,j⟩:=j.aW
    exact kv.mk p J F O ((z.mono (λH q=>bL _ q)).trans (K.mono (λH q=>fK _ q))) j
   |panic D=>exact absurd rfl (p.1 D)
   |outgrown=>exact absurd rfl p.2
   |exit y=>exact kv.mk (e:=.exit y) p r v u (z.mono (λH q=>bL _ q)) j
   |goto y=>exact kv.mk (e:=.goto y) p r v u (z.mono (λH q=>bL _ q)) j
   |ret=>exact kv.mk (e:=.ret) p r v u (z.mono (λH q=>bL _ q)) j
 |cond ad C U ac X=>
  intro hd l b f a w c k s x t
  simp only[vc]at c
  simp only[qD,bN]at hd
  have ak:∀{K:Bool},a.eval ad=.bool K->j9 d (uT l ad (if K then .tt else .ff)) a:=by
   intro K F;unfold uT;split
   .rename_i H;refine⟨k.size,k.defers,λR=>?_⟩;simp only[gZ];cases Y:Nat.beq H R
    .exact k.aG R
    .have:=bt Y;subst this;cases K<;>exact F
   .exact k
  have al:∀{C:SV},(∀K e N,C≠.box K e N/\C≠.zO K e N)->Bx d (uT l ad C) b:=by
   intro C hx;unfold uT;split
   .exact s.fZ hx
   .exact s
  split at c
  .rename_i Z
   exact wp_cond_true (k.eq Z rfl) (Code.wp_mono (λ_ _ _ c=>c.left) (ac hd.1 l b f a w c k s x t))
  .rename_i Z
   exact wp_cond_false (k.eq Z rfl) (Code.wp_mono (λ_ _ _ c=>c.right) (X hd.2 l b f a w c k s x t))
  .rename_i K Z
   have aa:a.eval ad=.bool K:=k.eq Z rfl
   split at c
   .rename_i H y' J
    unfold Y2 at J
    split at J
    .rename_i O
     cases ai:vw O (oP U)
     .rw[ai]at J;simp at J
     .rw[ai]at J
      simp only[jH]at J
      split at J
      .rename_i y0 ao
       simp at J
       obtain⟨rfl,rfl⟩:=J
       have an:a.tmps.getD O undef=.bool K:=aa
       refine wp_cond_split aa (λq=>?_) (λq=>?_)
       .subst x
        subst q
        refine wp_skip (kv.mk (e:=.normal) (b:=(O,.c (.t (true||y0)))::nK (oP U) l) ⟨aL,aL⟩ ?_ ((s.nK _).fZ aL) t (mI.aA _ _) c)
        have F:=Au (M:=oP U) k k.size k.defers (mI.aA _ a)
        refine⟨F.size,F.defers,λR=>?_⟩
        simp only[gZ]
        cases Y:Nat.beq O R
        .exact F.aG R
        .have:=bt Y
         subst this
         simpa[SV.Is,SV.v,Ce.v]using an
       .subst q
        have hv:=Up (g:=g) (h:=h) (G:=G) (o:=o) (d:=d) O (b:=b) (f:=λe B V=>e=.normal/\V=b/\lB (gZ B O)=some y0) U l y0 ao (λB V=>⟨rfl,rfl,V⟩)
        refine Code.wp_mono ?_ (X hd.2 l b _ a w hv k s x t)
        intro e I S j
        obtain⟨p,B,r,v,u,z,rfl,ah,am⟩:=j.aW
        refine kv.mk (e:=.normal) (b:=(O,.c (.t (false||y0)))::nK (oP U) l) p ?_ (by rw[ah];exact(s.nK _).fZ aL) u (z.mono (λH q=>fK _ q)) (by rw[ah];exact c)
        have F:=Au (M:=oP U) k r.size r.defers z
        refine⟨F.size,F.defers,λR=>?_⟩
        simp only[gZ]
        cases Y:Nat.beq O R
        .exact F.aG R
        .have:=bt Y
         subst this
         obtain⟨V,W⟩:=xp am
         have h3:=(r.aG O).eq V
         rw[W]at h3
         simpa[SV.Is,SV.v,Ce.v]using h3
      .simp at J
    .simp at J
   .refine wp_cond_split aa (λq=>?_) (λq=>?_)
    .subst q
     exact Code.wp_mono (λ_ _ _ c=>c.left) (ac hd.1 _ b f a w (c.1 rfl) (ak aa) (al aL) x t)
    .subst q
     exact Code.wp_mono (λ_ _ _ c=>c.right) (X hd.2 _ b f a w (c.2 rfl) (ak aa) (al aL) x t)
  .exact c.elim
 |block id C J=>
  intro hd l b f a w c k s x t
  simp only[vc]at c
  refine wp_block (Code.wp_mono ?_ (J hd l b _ a w c k s x t))
  intro e I S j
  obtain⟨p,B,r,v,u,z,j⟩:=j.aW
  cases e with
  |exit y=>
   simp only[Exit.inBlock]
   simp only at j
   cases F:Nat.beq y id
   .rw[F]at j
    have q:y≠id:=λe=>by subst e;simp at F
    rw[ae q]
    exact kv.mk (e:=.exit y) p r v u z j
   .rw[F]at j
    rw[aj (bt F)]
    exact kv.mk (e:=.normal) ⟨aL,aL⟩ r v u z j
  |normal=>exact kv.mk (e:=.normal) p r v u z j
  |panic D=>exact absurd rfl (p.1 D)
  |outgrown=>exact absurd rfl p.2
  |goto y=>exact kv.mk (e:=.goto y) p r v u z j
  |ret=>exact kv.mk (e:=.ret) p r v u z j
 |loop C J=>
  intro hd l b f a w c k s x t
  subst x
  simp only[vc]at c
  split at c
  .exact c.elim
  .rename_i N hl
   cases ab:pZ (oP C) N
   .rw[ab]at c;exact c.elim
   rw[ab]at c
   obtain⟨O,μ,h0,h1⟩:=c
   let Y:Nat->Act->World->Prop:=λK I w=>∃B H μ',Tx N O μ (nK (oP C) (uJ d (lD o C) l)) B H μ'/\j9 d B I/\Bx d B w.heap/\H w.heap/\μ' w.heap=K/\pH i w/\mI (oP C) a I
   obtain⟨aa,R,μ1,ap,am,ad,ak⟩:=NA (μ:=μ) k (Au (k.nK _) k.size k.defers (mI.aA (oP C) a)) (Bx.lD s s (λ_ _=>rfl)) h0
   refine Ti Y ?_ (μ1 w.heap) a w ⟨aa,R,μ1,ap,am,ad,ak,rfl,t,mI.aA _ _⟩
   rintro K Z w ⟨B,H,μ',hi,r,v,ai,rfl,u,V⟩
   have ao:=Ny h1 hi w.heap ai
   refine Code.wp_mono ?_ (J hd B w.heap _ Z w ao r v rfl u)
   intro e I S j
   obtain⟨p,ag,q,z,F,W,j⟩:=j.aW
   cases e with
   |normal=>
    obtain⟨af,j⟩:=KW j
    obtain⟨ac,X,μ3,aq,an,ah,al,ar⟩:=NC q (Au (k.nK _) q.size q.defers (V.trans W)) (Bx.lD s z af) j
    exact⟨_,ar,ac,X,μ3,aq,an,ah,al,rfl,F,V.trans W⟩
   |panic D=>exact absurd rfl (p.1 D)
   |outgrown=>exact absurd rfl p.2
   |exit y=>exact kv.mk (e:=.exit y) p q z F (V.trans W) j
   |goto y=>exact kv.mk (e:=.goto y) p q z F (V.trans W) j
   |ret=>exact kv.mk (e:=.ret) p q z F (V.trans W) j
 |exit id=>
  intro hd l b f a w c k s x t
  subst x
  exact wp_exit ⟨l,k,s,t,mI.aA _ _,c⟩
 |ret=>
  intro hd l b f a w c k s x t
  subst x
  exact wp_ret ⟨l,k,s,t,mI.aA _ _,c⟩
 |rangeFunc j k C U _ _=>intro _ l b f a w c;exact c.elim
 |scope C _=>intro _ l b f a w c;exact c.elim
 |label N=>intro _ l b f a w c;exact c.elim
 |goto N=>intro _ l b f a w c;exact c.elim
 |refuse s=>intro _ l b f a w c;exact c.elim
def uI:Nat->List SV->Fr
 |_,[]=>[]
 |i,x::r=>(i,x)::uI (i+1) r
def Gs(h:TT)(a:Fr)(b:E):List ResultVar->(List SV->Prop)->Prop
 |[],k=>k []
 | .tmp t::r,k=>bif (gZ a t).jI then Gs h a b r λl=>k (gZ a t::l)else False
 | .cell p t::r,k=>rd h a b (λx=>bif x.jI then Gs h a b r λl=>k (x::l)else False) (.load t (.tmp p))
def XI(h:TT)(c:List ResultVar)(a:Fr)(b:E)(R:Value->E->Prop):Prop:=
 Gs h a b c λ
  |[x]=>R x.v b
  |l=>R (.tuple (l.map SV.v).toArray) b
def Th(g:Program)(h:TT)(G:List Nat)(o:Pl)(d:Nat)(c:List ResultVar)(f:Code)(e:List SV)(b:E)(R:Value->E->Prop):Prop:=
 vc g h G d o f (uI 0 e) b λ
  | .normal,a,b=>XI h c a b R
  | .ret,a,b=>XI h c a b R
  |_,_,_=>False
def Hz:∀(a:List SV)(i t:Nat),(t<i/\gZ (uI i a) t=.fZ)\/(i<=t/\gZ (uI i a) t=a.getD (t -i) .fZ)
 |[],i,t=>by
  rcases aZ t i with h|h
  .exact Or.inl ⟨h,rfl⟩
  .exact Or.inr ⟨h,by simp[uI,gZ]⟩
 |x::r,i,t=>by
  simp only[uI,gZ];cases c:Nat.beq i t
  .have f:i≠t:=λe=>by subst e;simp at c
   rcases Hz r (i+1) t with⟨d,b⟩|⟨d,b⟩
   .exact Or.inl ⟨V,b⟩
   .refine Or.inr ⟨V,?_⟩;have e:t -i=(t -(i+1))+1:=V;rw[e,List.getD_cons_succ];exact b
  .have:=bt c;subst this;exact Or.inr ⟨ad _,aL⟩
def LJ(a:Array Value):ResultVar->Sem Value
 | .tmp t=>pure (a.getD t undef)
 | .cell p t=>do loadVar t (<-asAddr (a.getD p undef))
def Rp(b:Func)(c:Array Value):results b c=(do
 let a<-b.results.mapM (LJ c)
 pure (if h:a.size=1 then a[0]else .tuple a)):=by
 unfold results
 congr 2
def Ib{i:Fr}{a:Act}(v:uj g h)(f:j9 d i a):∀(D:List ResultVar)(k:List SV->Prop)(w:World),Bx d i w.heap->Gs h i w.heap D k->
 ∃p,k p/\(D.mapM (LJ a.tmps)).run g w=.ok (p.map SV.v) w
 |[],k,w,_,b=>⟨[],b,aL⟩
 | .tmp t::A,k,w,j,b=>by
  simp only[Gs]at b;cases c:(gZ i t).jI
  .rw[c]at b;exact b.elim
  .rw[c]at b;obtain⟨p,s,u⟩:=Ib v f A _ w j b;refine⟨_,s,?_⟩;have z:=(f.aG t).eq c;have r:LJ a.tmps (.tmp t)=pure (a.tmps.getD t undef):=rfl;simp only[UO,Sem.run_bind,Sem.run_pure,Result.andThen_ok,u,cG,z,r]
 | .cell q t::A,k,w,j,m=>by
  obtain⟨E,B,n,z,b⟩:=LF (P:=g) v f j ⟨none,.load t (.tmp q),0,"",#[],none⟩ m;have b:=b w (λC _=>rfl);cases x:E.jI
  .rw[x]at n;exact n.elim
  rw[x]at n;obtain⟨p,s,u⟩:=Ib v f A _ w j n;refine⟨_,s,?_⟩;have G:∃c o,a.tmps.getD q undef=.pointer (some ⟨c,o,none⟩):=by
   have l:=SV.Um (f.aG q);simp only[Gs,rd,ev]at m;split at m
   .rename_i c o y;rw[y]at l;exact⟨c,o,l⟩
   .rename_i C c o y;rw[y]at l;exact⟨c,o,l⟩
   .exact m.elim
  obtain⟨c,o,y⟩:=G;simp only[execOp,Instr.loadAt,Act.eval,y,Instr.sureAddr,Sem.run_bind,Sem.run_pure,Result.andThen_ok]at b;have F:(loadVar t ⟨c,o,none⟩).run g w=.ok B w:=by
   cases C:(loadVar t ⟨c,o,none⟩).run g w with
   |ok I H=>
    rw[C]at b;simp at b;rw[b.1,b.2]
   |halt e H=>rw[C]at b;simp at b
  have H:B=E.v:=z.eq x;have r:(LJ a.tmps (.cell q t)).run g w=.ok B w:=by
   simp only[LJ,y,Sem.run_bind,asAddr,Sem.run_pure,Result.andThen_ok,F]
  simp only[UO,Sem.run_bind,Sem.run_pure,Result.andThen_ok,r,u,cG,H]
def qP(z:uj g h)(K:U8 g G)(O:g.follows .mixedOrders=true){y:FuncId}{i:Func}{m:Code}{r:List ResultVar}{a:List SV}{R:Value->E->Prop}
 (N:g.funcs[y]? =some i)(M:i.body=some m)(P:i.ntmps=d)(S:i.results=r.toArray)(A:a.all SV.jI=true)(X:a.length<=d)(hd:qD m=true)
 (j:Th g h G o d r m a b R):aM g y (a.map SV.v) b R:=by
 intro w U
 refine calls_of_wp N M ?_
 have L:j9 d (uI 0 a) {tmps:=(a.map SV.v).toArray++Array.replicate (i.ntmps -(a.map SV.v).toArray.size) undef,defers:=[]}:=by
  refine⟨by simp[P];omega,rfl,λt=>?_⟩;rcases Hz a 0 t with⟨n,_⟩|⟨_,p⟩
  .omega
  .rw[p,XW];rcases aZ t a.length with k|s
   .have u:(a[t]).jI=true:=List.all_eq_true.1 A _ (List.getElem_mem k);have c:a.getD t .fZ=a[t]:=by simp[k]
    rw[c];have f:((a.map SV.v).toArray++Array.replicate (i.ntmps -(a.map SV.v).toArray.size) undef).getD t undef=(a[t]).v:=by
     simp[Array.getElem?_append,k]
    rw[f];exact nU _
   .have c:a.getD t .fZ=.fZ:=by simp[da s]
    rw[c];trivial
 have v:∀{q x e l},¬lP (uI 0 a) q x e l:=by
  intro q x e l f;rcases Hz a 0 q with⟨n,_⟩|⟨_,p⟩
  .omega
  .unfold lP at f;rw[p,XW]at f;rcases aZ q a.length with k|s
   .have u:(a[q]).jI=true:=List.all_eq_true.1 A _ (List.getElem_mem k);have c:a.getD q .fZ=a[q]:=by simp[k]
    rw[c]at f;rcases f with f|f<;>rw[f]at u<;>simp[SV.jI]at u
   .have c:a.getD q .fZ=.fZ:=by simp[da s]
    rw[c]at f;simp at f
 have I:Bx d (uI 0 a) b:=⟨λ_ _ _ _ j=>absurd j v,λ_ _ _ _ _ _ _ _ _ j=>absurd j v,λ_ _ _ _ j=>absurd j v⟩
 refine Code.wp_mono ?_ (UH z K O w m hd _ b _ _ w j L I U (pH.aA w))
 intro e s k c
 obtain⟨B,H,u,J,T,W,c⟩:=c.aW
 have C:∀(c:XI h r H k.heap R),s.defers=[]/\∃D,(results i s.tmps).run g k=.ok D k/\∃F,Ending.returned D=.returned F/\pH w k/\R F k.heap:=by
  intro c;refine⟨u.defers,?_⟩;obtain⟨l,n,p⟩:=Ib z u r _ k J c;have Q:(results i s.tmps).run g k=.ok (if j:(l.map SV.v).toArray.size=1 then(l.map SV.v).toArray[0]else .tuple (l.map SV.v).toArray) k:=by
   rw[Rp,S,UX];simp only[Sem.run_bind,Sem.run_map];rw[p];rfl
  refine⟨_,Q,_,rfl,T,?_⟩;cases l with
  |nil=>exact n
  |cons V l=>cases l with
   |nil=>exact n
   |cons Y l=>exact n
 cases e with
 |normal=>exact C c
 |ret=>exact C c
 |exit V=>exact c.elim
 |goto V=>exact c.elim
 |panic m=>exact absurd rfl (B.1 m)
 |outgrown=>exact absurd rfl B.2
end Go.Vc
end
section
namespace Go.Vc
abbrev vi(n:Int):Value:=.int .i64 n
abbrev vb(b:Bool):Value:=.bool b
abbrev vp(b o:Nat):Value:=.pointer (some ⟨b,o,none⟩)
def HA(f:Func):Code:=
 match f.body with
 |some c=>c
 |none=>.skip
end Go.Vc
end
section
namespace Go.Vc
variable{a p:Prop}{m c d:E}{b o k f n:Nat}{v:Value}{l:List Nat}{s:O}{P:Program}{K e:Value->E->Prop}
structure J(m c:E):Prop where
 size:m.size<=c.size
 same:∀b,b<m.size->c[b]? =m[b]?
def J.aA(m:E):J m m:=⟨ad _,λ_ _=>rfl⟩
def J.trans{a b c:E}(h:J a b)(k:J b c):J a c:=
 ⟨bX h.size k.size,λi d=>(k.same i (aO d h.size)).trans (h.same i d)⟩
def J.push(m:E)(o:Obj):J m (m.push o):=
 ⟨aL,λb a=>by rw[mR,ae V]⟩
def J.aH{a:E}(h:J a m)(o:Obj):J a (m.push o):=h.trans (J.push m o)
def J.ag{a:E}(h:J a m)(d:a.size<=b)(o:Nat)(l:List Ce):J a (ag m b o l):=
 ⟨by rw[aw];exact h.size,λj c=>by rw[bo l m b o V];exact h.same j c⟩
def J.af(h:J m c)(a:af m b o=some v):af c b o=some v:=by
 rw[aJ (h.same b (mW a))];exact a
def J.iF(h:J m c){l:List Ce}(e:fX m b o l):fX c b o l:=λi a d=>h.af (e i a d)
def cw.ext(h:J m c){e:Nat}{l:List Ce}(a:cw m b e l):cw c b e l:=by
 unfold cw at*;rw[h.same b (Array.getElem?_eq_some_iff.1 a).1];exact a
structure eR{α:Type}(m:E)(sz:Nat)(R:List Ce->α->Prop)(s:O)(l:List α):Prop where
 len:s.len=l.length
 cap:s.len<=s.cap
 iC:s.len<=9223372036854775807
 iF:∀(k:Nat)(x:α),l[k]? =some x->∃cs,R cs x/\fX m s.D (s.off+k*sz) cs
def eR.mono{α:Type}{d:Nat}{R b:List Ce->α->Prop}{l:List α}(h:eR m d R s l)(j:J m c)(g:∀a x,R a x->b a x):eR c d b s l:=
 ⟨h.len,h.cap,h.iC,λk x i=>let⟨a,e,f⟩:=h.iF k x i;⟨a,g _ _ e,j.iF f⟩⟩
def U9(a:List Ce)(n:Int):Prop:=a=[.i n]
abbrev ar(m:E)(s:O)(l:List Int):Prop:=eR m 1 U9 s l
def ar.aG{l:List Int}(h:ar m s l){x:Int}(a:l[k]? =some x):af m s.D (s.off+k*1)=some (vi x):=by
 obtain⟨c,rfl,b⟩:=h.iF k x a;exact b 0 (.i x) rfl
def ar.ext(a:J m c){l:List Int}(h:ar m s l):ar c s l:=h.mono a λ_ _ h=>h
def dZ{α:Type}{l:List α}(h:k<l.length):∃x,l[k]? =some x:=⟨l[k],by simp[h]⟩
def cK{α:Type}(l:List α)(k:Nat)(h:k<l.length:=by(omega)):∃x,l[k]? =some x:=dZ h
def oh(x:a)(h:a->p:=by(omega)):p:=h x
def Qb{b:Prop}(x:a)(y:b)(h:a->b->p:=by(omega)):p:=h x y
def sx(h:a=False:=by(simp))(x:a):p:=(h▸x:False).elim
def az{α:Type}{l:List α}{x:α}(h:l[k]? =some x):k<l.length:=(List.getElem?_eq_some_iff.1 h).1
def bd{α:Type}{l:List α}{x:α}(h:l[k]? =some x):l.take (k+1)=l.take k++[x]:=by
 rw[List.take_add_one,h];rfl
def cJ{α:Type}{l:List α}(h:l.length<=k):l.take k=l:=nN h
def vm(P:Program)(f:Nat)(a:List Value)(m:E)(v:Value):Prop:=aM P f a m λb c=>b=v/\J m c
def aM.post{a:List Value}(h:aM P f a m K)(b:∀v c,K v c->e v c):aM P f a m e:=h.mono b
def vm.then{a:List Value}(h:vm P f a m v)(d:∀c,J m c->K v c):aM P f a m K:=
 h.mono λ_ _⟨b,e⟩=>b▸d _ e
def O.Hl{t:O}:s.v=t.v<->s=t:=by
 refine⟨λh=>?_,λh=>h▸rfl⟩;cases s<;>cases t<;>simp_all [O.v]
def J.dv(h:J m c)(d:∀b∈l,b<m.size):dY l m c:=λb a=>h.same b (d b a)
def J.lt(h:J m c)(a:b<m.size):b<c.size:=aO a h.size
def J.cr(h:J m c)(a:Vc.af m b o=some v):Vc.af c b o=Vc.af m b o:=by rw[h.af a,a]
def kW(h:k<n)(a:n<=9223372036854775807):cR ((k:Int)+1)=((k+1:Nat):Int):=by rw[aP V V];rfl
def Gj(h:k<n):((n:Int) -((k+1:Nat):Int)).toNat<((n:Int) -(k:Int)).toNat:=V
def fm(g:n<=9223372036854775807){d:(Int->E->Prop)->(Int->E->Nat)->Int->E->Prop}(Q:Nat->E->Prop)(e:Q 0 m)
 (h:∀(k:Nat)(a:E)(I:Int->E->Prop)(μ:Int->E->Nat),k<=n->Q k a->
  (k<n->∀c,Q (k+1) c->I (cR ((k:Int)+1)) c/\μ (cR ((k:Int)+1)) c<μ k a)->d I μ k a):
 ∃(I:Int->E->Prop)(μ:Int->E->Nat),I 0 m/\∀i a,I i a->d I μ i a:=by
 refine⟨λi c=>∃k:Nat,i=k/\k<=n/\Q k c,λi _=>(n -i).toNat,⟨0,rfl,eO _,e⟩,?_⟩
 rintro i a ⟨k,rfl,f,j⟩
 refine h k a _ _ f j λb c l=>?_
 rw[kW b g]
 exact⟨⟨k+1,rfl,b,l⟩,Gj b⟩
def dV{σ:Type}(l:n<=9223372036854775807){f:σ}{e:(σ->Int->E->Prop)->(σ->Int->E->Nat)->σ->Int->E->Prop}(Q:Nat->σ->E->Prop)(g:Q 0 f m)
 (h:∀(k:Nat)(s:σ)(a:E)(I:σ->Int->E->Prop)(μ:σ->Int->E->Nat),k<=n->Q k s a->
  (k<n->∀b c,Q (k+1) b c->I b (cR ((k:Int)+1)) c/\μ b (cR ((k:Int)+1)) c<μ s k a)->e I μ s k a):
 ∃(I:σ->Int->E->Prop)(μ:σ->Int->E->Nat),I f 0 m/\∀s i a,I s i a->e I μ s i a:=by
 refine⟨λs i c=>∃k:Nat,i=k/\k<=n/\Q k s c,λ_ i _=>(n -i).toNat,⟨0,rfl,eO _,g⟩,?_⟩
 rintro s i a ⟨k,rfl,j,o⟩
 refine h k s a _ _ j o λd b c p=>?_
 rw[kW d l]
 exact⟨⟨k+1,rfl,d,p⟩,Gj d⟩
def dR(P:Program)(f:Nat)(a:List Value)(m:E)(p:Prop):Prop:=aM P f a m λv c=>∃b:Bool,v=.bool b/\(b=true<->p)/\J m c
def dR.then{a:List Value}(h:dR P f a m p)(g:∀(b:Bool) c,(b=true<->p)->J m c->K (.bool b) c):aM P f a m K:=
 h.mono λ_ _⟨b,e,d,i⟩=>e▸g b _ d i
def dR.aK{e:List Value}(i:dR P f e m p)(g:J d m)(q:∀b∈l,b<d.size)
 (o:∀(b:Bool) c,(b=true<->p)->J m c->J d c->K (.bool b) c):aM P f e m λv c=>dY l m c/\K v c:=
 i.mono λ_ _⟨b,n,j,a⟩=>⟨a.dv λh k=>g.lt (q h k),n▸o b _ j a (g.trans a)⟩
def vm.aK{e:List Value}(i:vm P f e m v)(g:J d m)(o:∀b∈l,b<d.size)
 (n:∀c,J m c->J d c->K v c):aM P f e m λv c=>dY l m c/\K v c:=
 i.mono λ_ _⟨k,a⟩=>⟨a.dv λh j=>g.lt (o h j),k▸n _ a (g.trans a)⟩
def aM.aK{a:List Value}(j:aM P f a m K)(o:J d m)(n:∀b∈l,b<d.size)
 (g:∀v c,K v c->J m c/\e v c):aM P f a m λv c=>dY l m c/\e v c:=
 j.mono λv c h=>⟨(g v c h).1.dv λi k=>o.lt (n i k),(g v c h).2⟩
def fI{b:Bool}(h:b=true<->p)(d:J m c):∃a:Bool,Value.bool b=.bool a/\(a=true<->p)/\J m c:=⟨b,rfl,h,d⟩
def cT(h:¬p)(b:J m c):∃a:Bool,Value.bool false=.bool a/\(a=true<->p)/\J m c:=⟨false,rfl,by simp[h],b⟩
def jU(h:p)(b:J m c):∃a:Bool,Value.bool true=.bool a/\(a=true<->p)/\J m c:=⟨true,rfl,by simp[h],b⟩
def nb{b:Bool}(a:b=true<->p)(h:(!b)=true):¬p:=λc=>by simp[a.2 c]at h
def yb{b:Bool}(a:b=true<->p)(h:(!b)=false):p:=a.1 (by simpa using h)
def fb{b:Bool}(a:b=true<->p)(h:b=false):¬p:=λc=>by simp[a.2 c]at h
def bY{α:Type}{l:List α}{x:α}{p:α->Prop}(c:l[k]? =some x)(h:∀y∈l.take k,p y)(b:p x):∀y∈l.take (k+1),p y:=by
 rw[bd c];intro y a;rcases List.mem_append.1 a with a|a
 .exact h y a
 .simp at a;subst a;exact b
def dy{α:Type}{l:List α}{p:α->Prop}(a:l.length<=k)(h:∀y∈l.take k,p y):∀y∈l,p y:=by rw[<-cJ a];exact h
def au{α:Type}{l:List α}{x:α}(h:l[k]? =some x):x∈l:=ij h
end Go.Vc
end
section
namespace Go.Vc
variable{m:E}{s:O}{k:Nat}
structure bz where
 uN:Int
 to:Int
 cons:List (List Int)
structure Instr where
 op:Int
 dst:Int
 bQ:Int
 bM:Int
 args:List Int
 eG:List Int
structure dA where
 params:List Int
 cO:List Int
 aT:Int
 an:Int
 cX:List Instr
structure cg where
 bn:List bz
 cC:List dA
def mT(m:E)(a:List Ce)(c:List Int):Prop:=∃f,a=[.s f]/\ar m f c
def iI(m:E)(a:List Ce)(d:bz):Prop:=∃f,a=[.i d.uN,.i d.to,.s f]/\eR m 1 (mT m) f d.cons
def dT(m:E)(b:List Ce)(x:Instr):Prop:=∃a j,b=[.i x.op,.i x.dst,.i x.bQ,.i x.bM,.s a,.s j]/\ar m a x.args/\ar m j x.eG
def lA(m:E)(b:List Ce)(p:dA):Prop:=
 ∃a l c,b=[.s a,.s l,.i p.aT,.i p.an,.s c]/\ar m a p.params/\ar m l p.cO/\eR m 6 (dT m) c p.cX
abbrev pC(m:E)(s:O)(l:List (List Int)):Prop:=eR m 1 (mT m) s l
abbrev cy(m:E)(s:O)(l:List bz):Prop:=eR m 3 (iI m) s l
abbrev fu(m:E)(s:O)(l:List Instr):Prop:=eR m 6 (dT m) s l
abbrev jz(m:E)(s:O)(l:List dA):Prop:=eR m 5 (lA m) s l
structure eW(m:E)(d p:O)(im:cg):Prop where
 bn:cy m d im.bn
 cC:jz m p im.cC
def mT.ext{m b:E}(g:J m b)(a:List Ce)(c:List Int):mT m a c->mT b a c:=λ⟨f,d,e⟩=>⟨f,d,e.ext g⟩
def pC.ext{m b:E}(a:J m b){s:O}{l:List (List Int)}(h:pC m s l):pC b s l:=h.mono a (mT.ext a)
def iI.ext{m b:E}(g:J m b)(a:List Ce)(c:bz):iI m a c->iI b a c:=λ⟨f,d,e⟩=>⟨f,d,pC.ext g e⟩
def cy.ext{m b:E}(a:J m b){s:O}{l:List bz}(h:cy m s l):cy b s l:=h.mono a (iI.ext a)
def dT.ext{m d:E}(b:J m d)(a:List Ce)(c:Instr):dT m a c->dT d a c:=λ⟨e,j,f,g,h⟩=>⟨e,j,f,g.ext b,h.ext b⟩
def fu.ext{m b:E}(a:J m b){s:O}{l:List Instr}(h:fu m s l):fu b s l:=h.mono a (dT.ext a)
def lA.ext{m d:E}(a:J m d)(b:List Ce)(c:dA):lA m b c->lA d b c:=λ⟨e,l,c,f,g,h,i⟩=>⟨e,l,c,f,g.ext a,h.ext a,fu.ext a i⟩
def jz.ext{m b:E}(a:J m b){s:O}{l:List dA}(h:jz m s l):jz b s l:=h.mono a (lA.ext a)
def eW.ext{m c:E}(a:J m c){d p:O}{b:cg}(h:eW m d p b):eW c d p b:=⟨cy.ext a h.bn,jz.ext a h.cC⟩
def pC.aG{l:List (List Int)}(h:pC m s l){x:List Int}(b:l[k]? =some x):
 ∃f,ar m f x/\af m s.D (s.off+k*1)=some (O.v f):=by
 obtain⟨d,⟨f,rfl,a⟩,c⟩:=h.iF k x b
 exact⟨f,a,c 0 (.s f) rfl⟩
def cy.aG{l:List bz}(h:cy m s l){x:bz}(c:l[k]? =some x):
 ∃f,pC m f x.cons/\af m s.D (s.off+k*3)=some (vi x.uN)/\af m s.D (s.off+k*3+1)=some (vi x.to)/\af m s.D (s.off+k*3+2)=some (O.v f):=by
 obtain⟨d,⟨f,rfl,b⟩,a⟩:=h.iF k x c
 exact⟨f,b,a 0 (.i x.uN) rfl,a 1 (.i x.to) rfl,a 2 (.s f) rfl⟩
def fu.aG{l:List Instr}(h:fu m s l){x:Instr}(e:l[k]? =some x):
 ∃b j,ar m b x.args/\ar m j x.eG/\af m s.D (s.off+k*6)=some (vi x.op)/\af m s.D (s.off+k*6+1)=some (vi x.dst)/\af m s.D (s.off+k*6+2)=some (vi x.bQ)/\
  af m s.D (s.off+k*6+3)=some (vi x.bM)/\af m s.D (s.off+k*6+4)=some (O.v b)/\af m s.D (s.off+k*6+5)=some (O.v j):=by
 obtain⟨f,⟨b,j,rfl,c,d⟩,a⟩:=h.iF k x e
 exact⟨b,j,c,d,a 0 (.i x.op) rfl,a 1 (.i x.dst) rfl,a 2 (.i x.bQ) rfl,a 3 (.i x.bM) rfl,a 4 (.s b) rfl,a 5 (.s j) rfl⟩
def jz.aG{l:List dA}(h:jz m s l){x:dA}(i:l[k]? =some x):
 ∃a b c,ar m a x.params/\ar m b x.cO/\fu m c x.cX/\af m s.D (s.off+k*5)=some (O.v a)/\af m s.D (s.off+k*5+1)=some (O.v b)/\af m s.D (s.off+k*5+2)=some (vi x.aT)/\
  af m s.D (s.off+k*5+3)=some (vi x.an)/\af m s.D (s.off+k*5+4)=some (O.v c):=by
 obtain⟨j,⟨a,b,c,rfl,e,f,g⟩,d⟩:=h.iF k x i
 exact⟨a,b,c,e,f,g,d 0 (.s a) rfl,d 1 (.s b) rfl,d 2 (.i x.aT) rfl,d 3 (.i x.an) rfl,d 4 (.s c) rfl⟩
end Go.Vc
end
section
namespace Go.Vc
variable{g a:E}{f:Nat}{s:O}{l:List Ce}{d:List (List Ce)}
structure gY(g a:E)(f sz:Nat)(s:O)(l:List Ce):Prop where
 len:l.length=s.len*sz
 aG:s=.nil\/∃b c tail,s=.mk b 0 s.len c/\g.size<=b/\cw a b f (l++tail)/\(l++tail).length=c*sz/\s.len<=c
def gY.nil(g a:E)(f b:Nat):gY g a f b .nil []:=⟨aL,Or.inl rfl⟩
def gY.new(h:J g a)(f c:Nat)(l:List Ce)(k:Nat)(b:l.length=k*c):gY g (a.push (.cells (bA l) f)) f c (.mk a.size 0 k k) l:=
 ⟨b,Or.inr ⟨a.size,k,[],rfl,h.size,by rw[dO];exact cw.push _ _ _,by simpa using b,ad _⟩⟩
def gY.congr{g a d:E}{f e:Nat}{s:O}{l:List Ce}(h:gY g a f e s l)(c:d[s.D]? =a[s.D]?):gY g d f e s l:=by
 refine⟨h.len,?_⟩;rcases h.aG with b|⟨i,j,tail,b,h2,h3,h4,h5⟩
 .exact Or.inl b
 .refine Or.inr ⟨i,j,tail,b,h2,h3.congr ?_,h4,h5⟩;rw[b]at c;exact c
def gY.lt{g a:E}{f c:Nat}{s:O}{l:List Ce}(h:gY g a f c s l):s=.nil\/s.D<a.size:=by
 rcases h.aG with b|⟨d,e,tail,b,h2,h3,h4,h5⟩
 .exact Or.inl b
 .rw[b];exact Or.inr h3.lt
def gY.ext{c:E}{d:Nat}(h:gY g a f d s l)(e:J a c):gY g c f d s l:=by
 rcases h.lt with b|b
 .subst b;exact⟨h.len,Or.inl rfl⟩
 .exact h.congr (e.same _ b)
def gY.cv{c:E}{d:Nat}(h:gY c a f d s l)(j:g.size<=c.size):gY g a f d s l:=by
 refine⟨h.len,?_⟩;rcases h.aG with b|⟨e,i,tail,b,h2,h3,h4,h5⟩
 .exact Or.inl b
 .exact Or.inr ⟨e,i,tail,b,bX j h2,h3,h4,h5⟩
def gY.D{c:Nat}(h:gY g a f c s l):s=.nil\/g.size<=s.D:=by
 rcases h.aG with b|⟨d,e,tail,b,h2,h3,h4,h5⟩
 .exact Or.inl b
 .rw[b];exact Or.inr h2
def fX.MG{b o:Nat}{r:List Ce}(h:fX a b o (l++r)):fX a b o l:=λi d c=>h i d (by rw[ax (az c)];exact c)
def gY.iF{g a:E}{f e:Nat}{s:O}{l:List Ce}(h:gY g a f e s l):fX a s.D s.off l:=by
 rcases h.aG with b|⟨i,c,tail,b,h2,h3,h4,h5⟩
 .have:l=[]:=List.length_eq_zero_iff.1 (by rw[h.len,b];simp);subst this;intro j c d;simp at d
 .rw[b];exact h3.iF.MG
def Cd(l a tail:List Ce)(h:a.length<=tail.length):js (l++tail) l.length a=l++a++tail.drop a.length:=by
 apply iL;intro i;rw[wD];simp only[ba];by_cases b:l.length<=i/\i<l.length+a.length/\i<l.length+tail.length
 .rw[aj b,fC,aF b.1,ax V]
 .rw[ae b];by_cases c:i<l.length
  .rw[ax c,fC,ax c]
  .rw[aF V,fC,aF V,aF V,sG];congr 1;omega
def gY.append{c:List Ce}{w:Nat}{x:O}{h:List Ce}{K:O->E->Prop}(k:gY g a f c.length s l)(q:J g a)
 (t:h.length=x.len*c.length)(G:fX a x.D x.off h)(u:(s.len+x.len)*w<=140737488355328)
 (v:∀n p,gY g p f c.length n (l++h)->J g p->n.len=s.len+x.len->a.size<=p.size->(∀d,d<a.size->(s≠.nil->d≠s.D)->p[d]? =a[d]?)->((s=.nil/\n=.nil)\/(s≠.nil/\n.D=s.D/\n≠.nil)\/n.D=a.size)->K n p):
 jM a f c w s x K:=by
 refine⟨h,t,G,λD=>?_,λL=>⟨u,l,k.len,k.iF,λj z=>?_⟩⟩
 .rcases k.aG with i|⟨d,j,tail,i,h2,h3,h4,h5⟩
  .subst i
   have y:x.len=0:=by simpa using D
   have B:h=[]:=List.length_eq_zero_iff.1 (by rw[t,y];simp)
   subst B
   refine⟨λC A=>by simp at A,?_⟩
   exact v .nil _ ⟨by rw[dO];exact k.len,Or.inl rfl⟩ (by simpa[ag]using q) (by simp[y]) (uh (aw _ _ _ _).symm) (λd u _=>by simp[ag]) (Or.inl ⟨rfl,rfl⟩)
  .have A:=k.len
   have I:s.cap=j:=by rw[i];rfl
   rw[i]
   simp only[O.jB,O.tH,O.iS,cE]
   simp only[ba]at h4
   have C:h.length<=tail.length:=by
    have B:(s.len+x.len)*c.length<=j*c.length:=dh _ V;rw[gL]at B;omega
   refine⟨h3.eC (by simp only[ba];omega),?_⟩
   have y:=cw.ag (m:=a) (b:=d) (e:=f) (r:=h) (o:=s.len*c.length) h3
   rw[<-A,Cd l h tail C]at y
   refine v _ _ ⟨?_,Or.inr ⟨d,j,tail.drop h.length,rfl,h2,?_,?_,?_⟩⟩ (q.ag h2 _ _) aL (uh (aw _ _ _ _).symm) (λH _ F=>bo _ _ _ _ ?_) (Or.inr (Or.inl ⟨by rw[i];simp,by rw[i];rfl,aL⟩))
   .simp only[ba,O.iS,gL];omega
   .rw[<-A];exact y
   .simp only[ba,List.length_drop];omega
   .simp only[O.iS];omega
   .have:=F (by rw[i];simp)
    rw[i]at this;exact this
 .refine v _ _ ⟨?_,Or.inr ⟨a.size,j,nE c (j -(s.len+x.len)),rfl,q.size,cw.push _ _ _,?_,by simpa using z⟩⟩ (q.aH _) aL aL (λd u _=>by rw[mR,ae V]) (Or.inr (Or.inr rfl))
  .simp only[ba,O.iS,gL,k.len,t]
  .simp only[ba,rT,k.len,t]
   rw[Nat.sub_mul,<-gL]
   have:(s.len+x.len)*c.length<=j*c.length:=dh _ z
   omega
def ar.gK{l:List Int}(h:gY g a f 1 s (l.map Ce.i))(n:l.length<=9223372036854775807):ar a s l:=by
 have i:s.len=l.length:=by have:=h.len;simp at this;omega
 refine⟨i,?_,V,λk x e=>⟨[.i x],rfl,λj d c=>?_⟩⟩
 .rcases h.aG with b|⟨m,d,tail,b,h2,h3,h4,h5⟩
  .rw[b];exact ad _
  .rw[b];exact h5
 .have b:j=0:=by have:=az c;simp at this;omega
  subst b;simp at c;subst c;have:=h.iF k (.i x) (by simp[e]);simpa using this
def fV{g:Nat}:∀{d:List (List Ce)}(_:∀a∈d,a.length=g){b:Nat}{a:List Ce}(_:d[b]? =some a){i:Nat}{c:Ce}(_:a[i]? =some c),d.flatten[b*g+i]? =some c
 |[],_,b,a,h,_,_,_=>by simp at h
 |x::d,f,0,a,h,i,c,e=>by
  simp at h;subst h;rw[jD,QM,cE,ax (az e)];exact e
 |x::d,f,b+1,a,h,i,c,e=>by
  have k:x.length=g:=f x aX;rw[jD,aF (by rw[k,gL];omega)];have:=fV (d:=d) (λy l=>f y (ai _ l)) (b:=b) (by simpa using h) e;rw[<-this];congr 1;rw[k,gL];omega
def cp{b:Nat}:∀{d:List (List Ce)},(∀a∈d,a.length=b)->d.flatten.length=d.length*b
 |[],_=>aL
 |x::d,a=>by
  rw[jD,ba,cp (λy c=>a y (ai _ c)),a x aX,aV,gL];omega
structure gE{α:Type}(sz:Nat)(R:List Ce->α->Prop)(d:List (List Ce))(l:List α):Prop where
 len:d.length=l.length
 size:∀cs∈d,cs.length=sz
 dx:∀(j:Nat)(cs:List Ce)(x:α),d[j]? =some cs->l[j]? =some x->R cs x
def gE.nil{α:Type}(a:Nat)(R:List Ce->α->Prop):gE a R [] []:=⟨rfl,aL,aL⟩
def gE.yY{α:Type}{f:Nat}{R:List Ce->α->Prop}{l:List α}(h:gE f R d l){cs:List Ce}{x:α}(i:cs.length=f)(k:R cs x):gE f R (d++[cs]) (l++[x]):=by
 refine⟨by simp[h.len],λe a=>?_,λj e y a b=>?_⟩
 .rcases List.mem_append.1 a with a|a
  .exact h.size e a
  .simp at a;subst a;exact i
 .rcases aZ j d.length with c|c
  .rw[ax c]at a;rw[ax (h.len▸c)]at b;exact h.dx j e y a b
  .rw[aF c]at a;rw[aF (by rw[<-h.len];exact c),<-h.len]at b;have g:j -d.length=0:=by have:=az a;simp at this;omega
   rw[g]at a b;simp at a b;subst a;subst b;exact k
def gE.mono{α:Type}{c:Nat}{R b:List Ce->α->Prop}{l:List α}(h:gE c R d l)(g:∀a x,R a x->b a x):gE c b d l:=
 ⟨h.len,h.size,λj a x e f=>g _ _ (h.dx j a x e f)⟩
def eR.gK{α:Type}{e:Nat}{R:List Ce->α->Prop}{l:List α}(h:gY g a f e s d.flatten)(c:gE e R d l)(q:0<e)(t:l.length<=9223372036854775807):eR a e R s l:=by
 have p:s.len=l.length:=by
  have b:=h.len;rw[cp c.size]at b;have:=UP q b;rw[<-this,c.len]
 refine⟨p,?_,V,λk x n=>?_⟩
 .rcases h.aG with b|⟨j,i,tail,b,h2,h3,h4,h5⟩
  .rw[b];exact ad _
  .rw[b];exact h5
 .let⟨j,m⟩:=cK d k (by rw[c.len];exact az n);refine⟨j,c.dx k j x m n,λr i o=>?_⟩;have:=h.iF (k*e+r) i (fV c.size m o);rwa[<-dk]at this
end Go.Vc
end
section
namespace Go.Vc
variable{S c:List Nat}{m a d:E}{b o e:Nat}{l:List Ce}{s:O}
def bP(S:List Nat)(m:E):E:=m.mapIdx λb o=>if b∈S then .cells #[] 0 else o
def Le(M a:E):Prop:=∀b o v,af M b o=some v->af a b o=some v
def eF{v:Value}:af (bP S m) b o=some v<->b∉S/\af m b o=some v:=by
 unfold af bP;rw[Array.getElem?_mapIdx];cases h:m[b]? with
 |none=>simp
 |some x=>by_cases a:b∈S<;>simp[a]
def Le.aA(m:E):Le m m:=λ_ _ _ h=>h
def Le.trans{a b c:E}(h:Le a b)(k:Le b c):Le a c:=λx o v d=>k x o v (h x o v d)
def J.le(h:J m a):Le m a:=λ_ _ _ b=>h.af b
def bG(S:List Nat)(m:E):Le (bP S m) m:=λ_ _ _ h=>(eF.1 h).2
def pP(h:∀b,b<m.size->b∉S->b∉c/\a[b]? =m[b]?):Le (bP S m) (bP c a):=λb o v i=>by
 let⟨e,d⟩:=eF.1 i;let⟨f,g⟩:=h b (mW d) e;exact eF.2 ⟨f,by rw[aJ g];exact d⟩
def J.bP(h:J m a)(d:∀b∈c,b∈S\/m.size<=b):Le (bP S m) (bP c a):=
 pP λb e g=>⟨λf=>(d b f).elim g λh=>V,h.same b e⟩
def J.dg(h:J m a)(S:List Nat):Le (Vc.bP S m) (Vc.bP S a):=h.bP λ_ b=>Or.inl b
def jS(m:E)(a:∀b∈c,b∈S):Le (bP S m) (bP c m):=(J.aA m).bP λb d=>Or.inl (a b d)
def Le.iF{M a:E}(h:Le M a)(e:fX M b o l):fX a b o l:=λi c d=>h _ _ _ (e i c d)
def eR.le{α:Type}{d:Nat}{R c:List Ce->α->Prop}{l:List α}(h:eR m d R s l)(j:Le m a)(g:∀b x,R b x->c b x):eR a d c s l:=
 ⟨h.len,h.cap,h.iC,λk x i=>let⟨b,e,f⟩:=h.iF k x i;⟨b,g _ _ e,j.iF f⟩⟩
def ar.le{m a:E}(b:Le m a){s:O}{l:List Int}(h:ar m s l):ar a s l:=eR.le h b λ_ _ h=>h
def mT.le{m a:E}(g:Le m a)(b:List Ce)(c:List Int):mT m b c->mT a b c:=λ⟨f,d,e⟩=>⟨f,d,e.le g⟩
def iI.le{m a:E}(d:Le m a)(b:List Ce)(c:bz):iI m b c->iI a b c:=λ⟨f,e,g⟩=>⟨f,e,eR.le g d (mT.le d)⟩
def cy.le{m a:E}(b:Le m a){s:O}{l:List bz}(h:cy m s l):cy a s l:=eR.le h b (iI.le b)
def OH(a:b∉S)(h:fX m b o l):fX (bP S m) b o l:=λi c d=>eF.2 ⟨a,h i c d⟩
def eR.Rk{α:Type}{a:Nat}{R:List Ce->α->Prop}{c:List (List Ce)}{l:List α}(o:∀b∈S,b<d.size)(h:gY d m e a s c.flatten)(q:gE a R c l)(r:0<a)(p:l.length<=9223372036854775807):eR (bP S m) a R s l:=by
 have H:=eR.gK h q r p;refine⟨H.len,H.cap,H.iC,λt x i=>?_⟩;let⟨j,k,n⟩:=H.iF t x i;rcases h.D with f|f
 .have g:=H.len;have:=az i;rw[f]at g;simp at g;omega
 .exact⟨j,k,OH (λg=>oh (o _ g)) n⟩
def ar.Rk{l:List Int}(k:∀b∈S,b<d.size)(h:gY d m e 1 s (l.map Ce.i))(n:l.length<=9223372036854775807):ar (bP S m) s l:=by
 have H:=ar.gK h n;refine⟨H.len,H.cap,H.iC,λo x f=>?_⟩;let⟨g,i,j⟩:=H.iF o x f;rcases h.D with a|a
 .have c:=H.len;have:=az f;rw[a]at c;simp at c;omega
 .exact⟨g,i,OH (λc=>oh (k _ c)) j⟩
end Go.Vc
end
section
namespace Go.Vc
variable{X Y S:List Nat}{a b c m d:E}{f:List Ce}{s:O}{k:Nat}
structure Fz(X:List Nat)(m d:E):Prop where
 size:m.size<=d.size
 same:∀b,b<m.size->b∉X->d[b]? =m[b]?
def Fz.aA(X:List Nat)(m:E):Fz X m m:=⟨ad _,λ_ _ _=>rfl⟩
def Fz.sF(h:Fz X a b)(k:Fz Y b c)(g:∀y∈Y,y∈X\/a.size<=y):Fz X a c:=
 ⟨bX h.size k.size,λi d e=>(k.same i (aO d h.size) λf=>(g i f).elim e λh=>V).trans (h.same i d e)⟩
def Fz.trans(h:Fz X a b)(k:Fz X b c):Fz X a c:=h.sF k λ_ d=>Or.inl d
def J.fz(h:J m d)(X:List Nat):Fz X m d:=⟨h.size,λb a _=>h.same b a⟩
def Fz.then(h:Fz X a b)(k:J b c):Fz X a c:=h.trans (k.fz X)
def Fz.push{X:List Nat}{a m:E}(h:Fz X a m)(o:Obj):Fz X a (m.push o):=h.then (J.push m o)
def Fz.ext(h:Fz [] m d):J m d:=⟨h.size,λb a=>h.same b a aL⟩
def Fz.DH(h:Fz X m d)(f:∀b∈X,b∈Y\/m.size<=b):Fz Y m d:=⟨h.size,λb a e=>h.same b a λc=>(f b c).elim e λh=>V⟩
def Fz.ag(h:Fz X a m){b:Nat}(c:b∈X\/a.size<=b)(o:Nat)(l:List Ce):Fz X a (ag m b o l):=
 ⟨by rw[aw];exact h.size,λj f d=>by
  have e:j≠b:=λe=>by subst e;exact c.elim d λc=>V
  rw[bo l m b o e];exact h.same j f d⟩
def Fz.bP(h:Fz X m d){a:List Nat}(f:∀b∈X,b∈S)(e:∀b∈a,b∈S\/m.size<=b):Le (bP S m) (bP a d):=
 pP λb g c=>⟨λi=>(e b i).elim c λh=>V,h.same b g λj=>c (f b j)⟩
def Fz.dg(h:Fz X m d)(a:∀b∈X,b∈S):Le (Vc.bP S m) (Vc.bP S d):=h.bP a λ_ h=>Or.inl h
def Fz.dv(h:Fz X m d){l:List Nat}(c:∀b∈l,b<m.size/\b∉X):dY l m d:=λb a=>h.same b (c b a).1 (c b a).2
inductive Ex where
 |mk (op bQ:Int) (bE:List Ex)
def Ex.op:Ex->Int| .mk o _ _=>o
def Ex.bQ:Ex->Int| .mk _ n _=>n
def Ex.bE:Ex->List Ex| .mk _ _ k=>k
structure MK(β:Type)where
 op:Int
 bQ:Int
 bM:Int
 args:List Int
 bE:List β
inductive Bk where
 |mk (ap:List (MK Bk)) (aT:Int)
abbrev cV:=MK Bk
def Bk.ap:Bk->List cV| .mk s _=>s
def Bk.aT:Bk->Int| .mk _ r=>r
@[simp] theorem Ex.Wo (o n:Int) (k:List Ex):(Ex.mk o n k).op=o:=rfl
@[simp] theorem Ex.Un (o n:Int) (k:List Ex):(Ex.mk o n k).bQ=n:=rfl
@[simp] theorem Ex.Sc (o n:Int) (k:List Ex):(Ex.mk o n k).bE=k:=rfl
@[simp] theorem Bk.jW (s:List cV) (r:Int):(Bk.mk s r).ap=s:=rfl
@[simp] theorem Bk.jv (s:List cV) (r:Int):(Bk.mk s r).aT=r:=rfl
inductive BQ(m:E):List Ce->Ex->Prop
 |mk (op bQ:Int) (bE:List Ex) (s:O) (css:Nat->List Ce) (hl:s.len=bE.length) (hc:s.len<=s.cap) (hm:s.len<=9223372036854775807)
  (hr:∀(k:Nat)(x:Ex),bE[k]? =some x->fX m s.D (s.off+k*3) (css k)) (hk:∀(k:Nat)(x:Ex),bE[k]? =some x->BQ m (css k) x):BQ m [.i op,.i bQ,.s s] (.mk op bQ bE)
inductive rW(m:E):List Ce->Bk->Prop
 |mk (ap:List (MK Bk)) (r:Int) (s:O) (hl:s.len=ap.length) (hc:s.len<=s.cap) (hm:s.len<=9223372036854775807) (aa ks:Nat->O) (kcs:Nat->Nat->List Ce)
  (hr:∀(k:Nat)(x:MK Bk),ap[k]? =some x->fX m s.D (s.off+k*5) [.i x.op,.i x.bQ,.i x.bM,.s (aa k),.s (ks k)]/\ar m (aa k) x.args/\(ks k).len=x.bE.length/\(ks k).len<=(ks k).cap/\(ks k).len<=9223372036854775807)
  (hb:∀(k:Nat)(x:MK Bk)(j:Nat)(b:Bk),ap[k]? =some x->x.bE[j]? =some b->fX m (ks k).D ((ks k).off+j*2) (kcs k j))
  (hk:∀(k:Nat)(x:MK Bk)(j:Nat)(b:Bk),ap[k]? =some x->x.bE[j]? =some b->rW m (kcs k j) b):rW m [.s s,.i r] (.mk ap r)
def gQ(m:E)(f:List Ce)(x:cV):Prop:=∃a k,f=[.i x.op,.i x.bQ,.i x.bM,.s a,.s k]/\ar m a x.args/\eR m 2 (rW m) k x.bE
abbrev fF(m:E)(s:O)(l:List Ex):Prop:=eR m 3 (BQ m) s l
abbrev eN(m:E)(s:O)(l:List cV):Prop:=eR m 5 (gQ m) s l
abbrev nP(m:E)(s:O)(l:List Bk):Prop:=eR m 2 (rW m) s l
def BQ.le(h:Le m d){e:Ex}(a:BQ m f e):BQ d f e:=by
 induction a with
 |mk n bQ bE s b g c i a o l=>exact .mk n bQ bE s b g c i (λk x j=>h.iF (a k x j)) l
def rW.le{m d:E}(h:Le m d){f:List Ce}{b:Bk}(a:rW m f b):rW d f b:=by
 induction a with
 |mk ap t s o n p e ks r a l u q=>
  exact .mk ap t s o n p e ks r (λk x c=>let⟨g,i,j⟩:=a k x c;⟨h.iF g,i.le h,j⟩) (λk x j b c g=>h.iF (l k x j b c g)) q
def eR.choose{α:Type}{m:E}{a:Nat}{R:List Ce->α->Prop}{s:O}{l:List α}(h:eR m a R s l):
 ∃b:Nat->List Ce,∀(k:Nat)(x:α),l[k]? =some x->R (b k) x/\fX m s.D (s.off+k*a) (b k):=by
 have:∀k:Nat,∃f:List Ce,∀x:α,l[k]? =some x->R f x/\fX m s.D (s.off+k*a) f:=λk=>by
  cases e:l[k]? with
  |none=>exact⟨[],λx c=>by simp at c⟩
  |some x=>obtain⟨f,d⟩:=h.iF k x e;exact⟨f,λy c=>by simp at c;exact c▸d⟩
 exact⟨λk=>Classical.choose (this k),λk=>eB (this k)⟩
def BQ.aW{e:Ex}(h:BQ m f e):∃s,f=[.i e.op,.i e.bQ,.s s]/\fF m s e.bE:=by
 cases h with
 |mk l bQ bE s b g c i j d=>exact⟨s,rfl,g,c,i,λk x a=>⟨b k,d k x a,j k x a⟩⟩
def BQ.of{b bQ:Int}{bE:List Ex}(h:fF m s bE):BQ m [.i b,.i bQ,.s s] (.mk b bQ bE):=by
 let⟨d,c⟩:=h.choose;exact .mk b bQ bE s d h.len h.cap h.iC (λk x a=>(c k x a).2) λk x a=>(c k x a).1
def rW.aW{b:Bk}(h:rW m f b):∃s,f=[.s s,.i b.aT]/\eN m s b.ap:=by
 cases h with
 |mk ap w s r p t d ks v u o q=>
  exact⟨s,rfl,r,p,t,λk x a=>let⟨e,g,i,l,n⟩:=u k x a;⟨_,⟨d k,ks k,rfl,g,i,l,n,λj b c=>⟨v k j,q k x j b a c,o k x j b a c⟩⟩,e⟩⟩
def rW.of{r:Int}{ap:List cV}(h:eN m s ap):rW m [.s s,.i r] (.mk ap r):=by
 let⟨n,l⟩:=h.choose;have:∀k:Nat,∃(a c:O)(kc:Nat->List Ce),∀x:cV,ap[k]? =some x->n k=[.i x.op,.i x.bQ,.i x.bM,.s a,.s c]/\ar m a x.args/\(c.len=x.bE.length/\c.len<=c.cap/\c.len<=9223372036854775807)/\
  ∀(j:Nat)(b:Bk),x.bE[j]? =some b->rW m (kc j) b/\fX m c.D (c.off+j*2) (kc j):=λk=>by
  cases o:ap[k]? with
  |none=>exact⟨.nil,.nil,λ_=>[],λx d=>by simp at d⟩
  |some x=>
   obtain⟨⟨a,c,f,g,e⟩,_⟩:=l k x o
   let⟨kc,p⟩:=e.choose
   exact⟨a,c,kc,λy i=>by simp at i;subst i;exact⟨f,g,⟨e.len,e.cap,e.iC⟩,p⟩⟩
 have H:=λk=>eB (eB (eB (this k)));refine .mk ap r s h.len h.cap h.iC (λk=>Classical.choose (this k)) (λk=>Classical.choose (eB (this k))) (λk=>Classical.choose (eB (eB (this k)))) (λk x d=>?_) (λk x j b d i=>((H k x d).2.2.2 j b i).2) λk x j b d i=>((H k x d).2.2.2 j b i).1;obtain⟨f,g,e,_⟩:=H k x d;exact⟨by rw[<-f];exact(l k x d).2,g,e⟩
def gQ.le{m d:E}(h:Le m d){f:List Ce}{x:cV}:gQ m f x->gQ d f x:=λ⟨a,k,b,c,e⟩=>⟨a,k,b,c.le h,eR.le e h λ_ _=>rW.le h⟩
def fF.le{m d:E}(a:Le m d){s:O}{l:List Ex}(h:fF m s l):fF d s l:=eR.le h a λ_ _=>BQ.le a
def eN.le{m d:E}(a:Le m d){s:O}{l:List cV}(h:eN m s l):eN d s l:=eR.le h a λ_ _=>gQ.le a
def nP.le{m d:E}(a:Le m d){s:O}{l:List Bk}(h:nP m s l):nP d s l:=eR.le h a λ_ _=>rW.le a
def fF.aG{l:List Ex}(h:fF m s l){x:Ex}(b:l[k]? =some x):
 ∃t,fF m t x.bE/\af m s.D (s.off+k*3)=some (vi x.op)/\af m s.D (s.off+k*3+1)=some (vi x.bQ)/\af m s.D (s.off+k*3+2)=some (O.v t):=by
 let⟨f,d,a⟩:=h.iF k x b
 obtain⟨t,rfl,c⟩:=d.aW
 exact⟨t,c,a 0 _ rfl,a 1 _ rfl,a 2 _ rfl⟩
def eN.aG{l:List cV}(h:eN m s l){x:cV}(e:l[k]? =some x):
 ∃a t,ar m a x.args/\nP m t x.bE/\af m s.D (s.off+k*5)=some (vi x.op)/\af m s.D (s.off+k*5+1)=some (vi x.bQ)/\af m s.D (s.off+k*5+2)=some (vi x.bM)/\af m s.D (s.off+k*5+3)=some (O.v a)/\af m s.D (s.off+k*5+4)=some (O.v t):=by
 obtain⟨f,⟨a,t,rfl,c,d⟩,b⟩:=h.iF k x e
 exact⟨a,t,c,d,b 0 _ rfl,b 1 _ rfl,b 2 _ rfl,b 3 _ rfl,b 4 _ rfl⟩
def nP.aG{l:List Bk}(h:nP m s l){x:Bk}(b:l[k]? =some x):
 ∃t,eN m t x.ap/\af m s.D (s.off+k*2)=some (O.v t)/\af m s.D (s.off+k*2+1)=some (vi x.aT):=by
 let⟨f,d,a⟩:=h.iF k x b
 obtain⟨t,rfl,c⟩:=d.aW
 exact⟨t,c,a 0 _ rfl,a 1 _ rfl⟩
def Bk.w:Bk->Nat
 | .mk ap _=>1+(ap.map λs=>1+s.args.length+(s.bE.map Bk.w).sum).sum
decreasing_by
 rename_i s a _ _
 have b:=oV a
 have c:=oV (by assumption:_∈s.bE)
 have d:SizeOf.sizeOf s.bE<SizeOf.sizeOf s:=by cases s;simp;omega
 simp;omega
def MK.w(s:MK Bk):Nat:=1+s.args.length+(s.bE.map Bk.w).sum
def Bk.ZB(b:Bk):b.w=1+(b.ap.map MK.w).sum:=by
 cases b;rw[Bk.w];rfl
def Ex.n:Ex->Nat
 | .mk _ _ bE=>1+(bE.map Ex.n).sum
end Go.Vc
end
section
namespace Go.Vc
variable{S Y S' X:List Nat}{d a c:E}{b k n h tb:Nat}{s x:O}{g cs i:List Ce}{f:List (List Ce)}{K:O->E->Prop}
structure oH{α:Type}(sz:Nat)(R:E->List Ce->α->Prop):Prop where
 le:∀{M M':E}{cs:List Ce}{x:α},Le M M'->R M cs x->R M' cs x
 len:∀{M:E}{cs:List Ce}{x:α},R M cs x->cs.length=sz
def um(_:E)(cs:List Ce)(n:Int):Prop:=U9 cs n
def um.mono:oH 1 um:=⟨λ_ h=>h,λh=>by rw[h];rfl⟩
def BQ.mono:oH 3 BQ:=⟨λh=>BQ.le h,λh=>by obtain⟨s,rfl,_⟩:=h.aW;rfl⟩
def rW.mono:oH 2 rW:=⟨λh=>rW.le h,λh=>by obtain⟨s,rfl,_⟩:=h.aW;rfl⟩
def gQ.mono:oH 5 gQ:=⟨λh=>gQ.le h,λh=>by obtain⟨_,_,rfl,_⟩:=h;rfl⟩
structure Gr{α:Type}(S:List Nat)(d a:E)(b sz:Nat)(R:E->List Ce->α->Prop)(s:O)(l:List α):Prop where
 iY:s≠.nil
 aR:∃f,gY d a b sz s f.flatten/\gE sz (R (bP (s.D::S) a)) f l
def Gr.len{α:Type}{S:List Nat}{d a:E}{b e:Nat}{R:E->List Ce->α->Prop}{s:O}{l:List α}(h:Gr S d a b e R s l)(i:0<e):s.len=l.length:=by
 obtain⟨_,f,g,c⟩:=h;have:=g.len;rw[cp c.size]at this;rw[<-c.len,UP i this]
def Gr.bh{α:Type}{g:Nat}{R:E->List Ce->α->Prop}{l:List α}(h:Gr S d a b g R s l):d.size<=s.D/\s.D<a.size:=by
 let⟨c,f,e,i⟩:=h;exact⟨e.D.resolve_left c,e.lt.resolve_left c⟩
def Gr.new{α:Type}(S:List Nat){d a:E}(h:d.size<=a.size)(b c:Nat)(R:E->List Ce->α->Prop):Gr S d (a.push (.cells (bA []) b)) b c R (.mk a.size 0 0 0) []:=
 ⟨aL,[],(gY.new (J.aA a) b c [] 0 aL).cv h,gE.nil _ _⟩
def Gr.dQ{α:Type}{g:Nat}{R:E->List Ce->α->Prop}{l:List α}(o:oH g R)(h:Gr S d a b g R s l)(j:Fz Y a c)(i:∀e∈Y,e∈S/\e<d.size):Gr S d c b g R s l:=by
 have q:=h.bh;let⟨k,f,m,n⟩:=h;refine⟨k,f,m.congr (j.same _ q.2 λp=>oh ((i _ p).2)),n.mono λcs x=>o.le ?_⟩;exact j.dg λe p=>ai _ (i e p).1
def Gr.NJ{α:Type}{g:Nat}{R:E->List Ce->α->Prop}{l:List α}(n:oH g R)(h:Gr S d a b g R s l)(i:Fz Y a c)(o:∀e∈Y,e∈S)(q:s.D∉Y):Gr S d c b g R s l:=by
 have r:=h.bh;let⟨j,f,k,m⟩:=h;exact⟨j,f,k.congr (i.same _ r.2 q),m.mono λcs x=>n.le (i.dg λe p=>ai _ (o e p))⟩
def Gr.re{α:Type}{h:Nat}{R:E->List Ce->α->Prop}{l:List α}(o:oH h R)(i:Gr S d a b h R s l)(j:Fz Y a c)(q:∀e∈Y,e∈S)(r:s.D∉Y)(p:∀e∈S',e∈S\/a.size<=e):Gr S' d c b h R s l:=by
 have t:=i.bh;let⟨k,f,m,n⟩:=i;refine⟨k,f,m.congr (j.same _ t.2 r),n.mono λcs x=>o.le (j.bP (λe g=>ai _ (q e g)) λe g=>?_)⟩;rcases List.mem_cons.1 g with g|g
 .exact Or.inl (by rw[g];exact aX)
 .exact(p e g).imp (ai _) id
def Gr.ext{α:Type}{e:Nat}{R:E->List Ce->α->Prop}{l:List α}(f:oH e R)(h:Gr S d a b e R s l)(g:J a c):Gr S d c b e R s l:=
 h.dQ f (g.fz []) aL
def Gr.done{α:Type}{c:Nat}{R:E->List Ce->α->Prop}{l:List α}(j:oH c R)(h:Gr S d a b c R s l)(k:∀e∈S,e<d.size)(o:0<c)(n:l.length<=9223372036854775807):eR (bP S a) c (R (bP S a)) s l:=by
 obtain⟨_,f,g,i⟩:=h;exact eR.Rk k g (i.mono λcs x=>j.le (jS a λe m=>ai _ m)) o n
def J.MG(h:k<=a.size):J (a.extract 0 k) a:=by
 refine⟨bJ,λb c=>?_⟩;have d:b<k:=by simp at c;omega
 rw[Array.getElem?_extract];simp;omega
def nY(h:k<=a.size):(a.extract 0 k).size=k:=bJ
def Gr.next{α:Type}{F:Nat}{R:E->List Ce->α->Prop}{C D:List α}(G:oH g.length R)(W:0<g.length)
 (y:Gr S d a b g.length R s C)(H:Fz X d a)(u:x.len=f.length)(T:fX a x.D x.off f.flatten)(n:gE g.length (R (bP (s.D::S) a)) f D)(i:(C.length+D.length)*F<=140737488355328)
 (P:∀r c,Gr S d c b g.length R r (C++D)->Fz X d c->(a.size<=c.size/\(r.D=s.D\/a.size<=r.D))->(∀e,e<a.size->e≠s.D->c[e]? =a[e]?)->K r c):jM a b g F s x K:=by
 have Q:=y.len W
 have hy:=y.bh
 let⟨z,w,O,j⟩:=y
 have q:d.size<=a.size:=H.size
 refine gY.append (g:=a.extract 0 d.size) (c:=g) (h:=f.flatten) (l:=w.flatten) (O.cv (by rw[nY q];exact ad _)) (J.MG q) ?_ T (by rw[Q,u,n.len];exact i) λr c Y k2 k3 Z k5 B=>?_
 .rw[cp n.size,u]
 have A:∀e,e<a.size->e≠s.D->c[e]? =a[e]? :=λe i k=>k5 e i λ_=>k
 have U:r≠.nil:=by
  rcases B with⟨h,_⟩|⟨_,_,h⟩|h
  .exact absurd h z
  .exact h
  .intro b;rw[b]at h;simp at h;omega
 have L:a.size<=c.size:=Z
 have I:Le (bP (s.D::S) a) (bP (r.D::S) c):=pP λe i k=>by
  simp only[aS,ui]at k;refine⟨?_,A e i k.1⟩;simp only[aS,ui];refine⟨?_,k.2⟩;rcases B with⟨h,_⟩|⟨_,h,_⟩|h
  .exact absurd h z
  .rw[h];exact k.1
  .omega
 refine P r c ⟨U,w++f,?_,?_⟩ ⟨bX q L,λe i u=>?_⟩ ⟨L,?_⟩ A
 .rw[qR]
  exact Y.cv (by rw[nY q];exact ad _)
 .refine⟨by simp[j.len,n.len],λm o=>?_,λM m N t v=>?_⟩
  .rcases List.mem_append.1 o with o|o
   .exact j.size m o
   .exact n.size m o
  .rcases aZ M w.length with p|p
   .rw[ax p]at t
    rw[ax (j.len▸p)]at v
    exact G.le I (j.dx M m N t v)
   .rw[aF p]at t
    rw[aF (by rw[<-j.len];exact p),<-j.len]at v
    exact G.le I (n.dx _ m N t v)
 .rw[A e (aO i q) V];exact H.same e i u
 .rcases B with⟨h,_⟩|⟨_,h,_⟩|h
  .exact absurd h z
  .exact Or.inl h
  .exact Or.inr V
def Gr.kL{α:Type}{n:Nat}{R:E->List Ce->α->Prop}{m:List α}{k:α}(i:oH g.length R)(z:0<g.length)
 (q:Gr S d a b g.length R s m)(w:Fz X d a)(p:R (bP (s.D::S) a) cs k)(j:(m.length+1)*n<=140737488355328)
 (x:∀r c,Gr S d c b g.length R r (m++[k])->Fz X d c->(a.size<=c.size/\(r.D=s.D\/a.size<=r.D))->(∀f,f<a.size->f≠s.D->c[f]? =a[f]?)->K r c):jM (a.push (.cells (bA cs) b)) b g n s (.mk a.size 0 1 1) K:=by
 have h:=J.push a (.cells (bA cs) b)
 refine Gr.next (f:=[cs]) (D:=[k]) i z (q.ext i h) (w.then h) rfl ?_ ?_ j λr c t u o v=>x r c t u ⟨bX h.size o.1,o.2.imp id (bX h.size)⟩ λf j y=>(v f (aO j h.size) y).trans (h.same f j)
 .have:=(cw.push a (e:=b) (l:=cs)).iF
  simpa using this
 .have:=gE.yY (gE.nil g.length (R (bP (s.D::S) (a.push (.cells (bA cs) b))))) (i.len p) (i.le (h.dg _) p)
  simpa using this
def eR.Wq{α:Type}{b:Nat}{R:List Ce->α->Prop}{l:List α}(z:∀cs x,R cs x->cs.length=b)(r:eR a b R s l):
 ∃f,s.len=f.length/\fX a s.D s.off f.flatten/\gE b R f l:=by
 let⟨e,k⟩:=r.choose
 have w:∀(c:Nat)(cs:List Ce),((List.range l.length).map e)[c]? =some cs->c<l.length/\cs=e c:=λc cs d=>by
  simp only[cU,jG]at d;let⟨E,o,B⟩:=d;let⟨t,u⟩:=List.getElem?_eq_some_iff.1 o;simp at t u;subst u;exact⟨t,B.symm⟩
 have m:∀cs∈(List.range l.length).map e,cs.length=b:=λcs D=>by
  let⟨c,d⟩:=List.mem_iff_getElem?.1 D;obtain⟨o,rfl⟩:=w c cs d;let⟨x,h⟩:=dZ o;exact z _ _ (k c x h).1
 refine⟨(List.range l.length).map e,by simp[r.len],λi A q=>?_,aL,m,λc cs x d h=>?_⟩
 .rcases j8 b with n|n
  .have g:=az q
   rw[cp m,n]at g;simp at g
  have g:=az q
  rw[cp m]at g
  simp at g
  have d:i/b<l.length:=Nat.div_lt_of_lt_mul (by rw[Nat.mul_comm];exact g)
  let⟨x,h⟩:=dZ d
  have y:i=i/b*b+i%b:=by rw[Nat.mul_comm];exact(Nat.div_add_mod i b).symm
  have H:=Nat.mod_lt i n
  have G:(e (i/b)).length=b:=z _ _ (k _ x h).1
  let⟨F,v⟩:=cK (e (i/b)) (i%b)
  have p:=fV (d:=(List.range l.length).map e) m (b:=i/b) (a:=e (i/b)) (by simp[d]) v
  rw[<-y,q]at p
  simp at p;subst p
  have C:=(k _ x h).2 _ A v
  rw[y,<-dk];exact C
 .obtain⟨_,rfl⟩:=w c cs d
  exact(k c x h).1
def Gr.all{α:Type}{j:Nat}{R:E->List Ce->α->Prop}{l i:List α}(k:oH g.length R)(v:0<g.length)
 (h:Gr S d a b g.length R s l)(t:Fz X d a)(p:eR (bP (s.D::S) a) g.length (R (bP (s.D::S) a)) x i)(q:(l.length+i.length)*j<=140737488355328)
 (u:∀r c,Gr S d c b g.length R r (l++i)->Fz X d c->(a.size<=c.size/\(r.D=s.D\/a.size<=r.D))->(∀e,e<a.size->e≠s.D->c[e]? =a[e]?)->K r c):jM a b g j s x K:=by
 let⟨f,m,n,o⟩:=p.Wq λ_ _ h=>k.len h
 exact Gr.next k v h t m ((bG _ _).iF n) o q u
def Gr.lit{α:Type}{e:Nat}{R:E->List Ce->α->Prop}{l:List α}(j:oH e R)(i:d.size<=a.size)(p:∀g∈S,g<d.size)(k:cs=f.flatten)(m:n=f.length)(h:gE e (R (bP S a)) f l):
 Gr S d (a.push (.cells (bA cs) b)) b e R (.mk a.size 0 n n) l:=by
 subst k m
 refine⟨aL,f,(gY.new (J.aA a) b e f.flatten f.length (cp h.size)).cv i,h.mono λo x=>j.le ?_⟩
 exact(J.push a _).bP λg c=>by
  rcases List.mem_cons.1 c with c|c
  .exact Or.inr (by simp[c])
  .exact Or.inl c
def Gr.nQ{α:Type}{c:Nat}{R:E->List Ce->α->Prop}{l:List α}(m:oH c R)(h:Gr S d a b c R s l)(n:s.D∉S)(q:0<c)(p:l.length<=9223372036854775807):eR (bP S a) c (R (bP S a)) s l:=by
 obtain⟨_,f,e,g⟩:=h;have H:=eR.gK e (g.mono λcs x=>m.le (jS a λj i=>ai s.D i)) q p;exact⟨H.len,H.cap,H.iC,λk x o=>let⟨cs,i,j⟩:=H.iF k x o;⟨cs,i,OH n j⟩⟩
def Gr.ne{α:Type}{p:Nat}{R:E->List Ce->α->Prop}{o:List α}(k:Gr S d a b p R s o)(g:cw a h tb i)(n:tb≠b):s.D≠h:=by
 let⟨l,f,m,w⟩:=k;let⟨q,r,tail,j,t,c,u,v⟩:=m.aG.resolve_left l;intro e;rw[j]at e;simp only[O.jB]at e;subst e;unfold cw at g c;rw[g]at c;simp at c;exact n c.2
def Gr.Lu{α β:Type}{q:E}{r c t:Nat}{R:E->List Ce->α->Prop}{g:E->List Ce->β->Prop}{e:O}{o:List α}{p:List β}(j:Gr S d a b r R s o)(k:Gr S' q a c t g e p)(n:c≠b):s.D≠e.D:=by
 let⟨l,f,m,z⟩:=k;let⟨u,v,tail,h,w,i,x,y⟩:=m.aG.resolve_left l;have:=j.ne i n;rw[h];exact this
def Gr.box{α:Type}{L:List Nat}{j y:Nat}{R:E->List Ce->α->Prop}{u:List α}{w:α}{K:E->Prop}(B:oH g.length R)(U:0<g.length)
 (o:Gr S d a b g.length R s u)(C:Fz X d a)(P:R (bP (s.D::S) a) cs w)(k:(u.length+1)*y<=140737488355328)
 (p:cw a h tb i)(hi:j<i.length)(G:tb≠b)(t:d.size<=h/\h∈S)(A:∀e∈L,e<a.size/\e≠h/\e≠s.D)
 (Q:∀r c,Gr S d c b g.length R r (u++[w])->cw c h tb (js i j [.s r])->Fz X d c->a.size<=c.size->(∀e,e<a.size->e≠s.D->e≠h->c[e]? =a[e]?)->K c):
 af (a.push (.cells (bA cs) b)) h j=af a h j/\
 jM (a.push (.cells (bA cs) b)) b g y s (.mk a.size 0 1 1) λr c=>dY L (a.push (.cells (bA cs) b)) c/\eC c h j 1/\(dY L c (ag c h j [.s r])/\K (ag c h j [.s r])):=by
 have D:=p.lt
 have H:=J.push a (.cells (bA cs) b)
 have hy:=o.bh
 refine⟨aJ (H.same h D) j,Gr.kL B U o C P k λr c z I W v=>?_⟩
 have q:cw c h tb i:=p.congr (v h D (kH (o.ne p G)))
 have T:=z.ne q G
 have n:∀e,e≠h->(ag c h j [.s r])[e]? =c[e]? :=λe k=>bo _ _ _ _ k
 have Z:=C.size
 have Y:=t.1
 refine⟨λe k=>?_,q.eC V,λe k=>n e (A e k).2.1,Q r _ ?_ (cw.ag (m:=c) q) (I.ag (Or.inr t.1) _ _) (by rw[aw];exact W.1) λe l N O=>(n e O).trans (v e l N)⟩
 .have l:=A e k
  rw[v e l.1 l.2.2,H.same e l.1]
 .let⟨M,f,g1,g2⟩:=z
  refine⟨M,f,g1.congr (n _ T),g2.mono λcs x=>B.le ?_⟩
  exact pP λe k F=>⟨F,n e λb=>F (by rw[b];exact ai _ t.2)⟩
def ar.lit(b:Nat)(l:List Int)(d:∀c∈S,c<a.size)(c:cs=l.map Ce.i)(f:n=l.length)(e:l.length<=9223372036854775807):ar (bP S (a.push (.cells (bA cs) b))) (.mk a.size 0 n n) l:=by
 subst c f;have h:=gY.new (J.aA a) b 1 (l.map Ce.i) l.length aL;exact ar.Rk d h e
end Go.Vc
end
section
namespace Go.Vc
variable{x y:Operand}{k:SV->Prop}{l h:List Ce}{f:Int->Prop}{r:List Sh}{a:Int}{g:Array (Nat×Operand)}{e:List Oper}{Q:Exit->Fr->E->Prop}{c:Code}
section
variable{P:Program}{T:TT}{G:List Nat}{n:Nat}{A:Pl}{m q:E}{p u:Fr}{b o j i t:Nat}{s:Sh}{d:Option Nat}{v:Value}
def nc(n:Nat):Int:=n
def nce{n:Nat}:nc n=n:=rfl
def V3:TM T p .len [t] [x] k=match fJ T t,ev p x with
 |some ⟨.slice _,_,_⟩,.c (.s s)=>k (.c (.i (nc s.len)))
 |_,_=>False:=rfl
def V5{l:List Nat}:TM T p .max l [x,y] k=match ev p x,ev p y with
 | .c (.i a),.c (.i b)=>k (.c (.i (if b>a then b else a)))
 |_,_=>False:=rfl
def V6{l:List Nat}:TM T p .min l [x,y] k=match ev p x,ev p y with
 | .c (.i a),.c (.i b)=>k (.c (.i (if b<a then b else a)))
 |_,_=>False:=rfl
def Sf(m:E)(k:E->Prop):ON m k=(let q:=m;k q):=rfl
def pa{α:Type}(x:α)(f:α->Prop):Prop:=f x
def Tk(s:Sh)(f:s.ty->Prop):Prop:=∃x,f x
def Vb(s:Sh)(f:s.ty->Prop):Prop:=∀x,f x
def exI:Tk .I f=∃x,pa x f:=rfl
def exU{k:IntKind}:Tk (.U k) f=∃x,pa x f:=rfl
def exB{f:Bool->Prop}:Tk .T f=∃x,pa x f:=rfl
def YP{f:O->Prop}:Tk .S f=∃x,pa x f:=rfl
def exP{f:Nat×Nat->Prop}:Tk .P f=∃x,pa x f:=rfl
def exF{f:Fn×Array Value×Array Value->Prop}:Tk .F f=∃x,pa x f:=rfl
def exM{f:Nat->Prop}:Tk .M f=∃x,pa x f:=rfl
def alI:Vb .I f=∀x,f x:=rfl
def alU{k:IntKind}:Vb (.U k) f=∀x,f x:=rfl
def alB{f:Bool->Prop}:Vb .T f=∀x,f x:=rfl
def Yz{f:O->Prop}:Vb .S f=∀x,f x:=rfl
def alP{f:Nat×Nat->Prop}:Vb .P f=∀x,f x:=rfl
def alF{f:Fn×Array Value×Array Value->Prop}:Vb .F f=∀x,f x:=rfl
def alM{f:Nat->Prop}:Vb .M f=∀x,f x:=rfl
def cU8{x:Int}:kM (.int .u8 x)=some (.u .u8 x):=rfl
def z0:nE h 0=[]:=rfl
def z1:nE h (n+1)=h++nE h n:=rfl
def tb{a b:Nat}:Nat.testBit a b=(1&&&(a>>>b)!=0):=rfl
def VY{e:Edge}{a:List Edge}:lE (e::a)=bif Region.binds .any e then 2^e.on|||lE a else lE a:=rfl
def b1:Region.binds .any ⟨i,.data⟩=true:=rfl
def b2:Region.binds .any ⟨i,.chain⟩=true:=rfl
def b3:Region.binds .any ⟨i,.guard⟩=true:=rfl
def b4:Region.binds .any ⟨i,.phase⟩=true:=rfl
def b5{x:Departure}:Region.binds .any ⟨i,.gcOnly x⟩=false:=rfl
def b6{x:Departure}:Region.binds .any ⟨i,.textOnly x⟩=false:=rfl
def Sb(c:Ce)(k:List Ce->Prop)(l:List Ce):Prop:=k (c::l)
def Vr(k:SV->Prop)(l:List Ce):Prop:=k (.agg l)
def kld(m:E)(b o j:Nat)(s:Sh)(r:List Sh)(k:List Ce->Prop)(x:s.ty):Prop:=
 af m b (bif j==0 then o else o+j)=some (s.mk x).v/\Wk m b o (j+1) r (Sb (s.mk x) k)
def YK{k:List Ce->Prop}:Wk m b o j (s::r) k=Tk s (kld m b o j s r k):=by
 cases j<;>rfl
def klc(m:E)(b o:Nat)(s:Sh)(k:SV->Prop)(x:s.ty):Prop:=af m b o=some (s.mk x).v/\k (.c (s.mk x))
def T0{t:Nat}:P8 T m t b o k=match fJ T t with
 |some ⟨.struct _,a,_⟩=>Wk m b o 0 a (Vr k)
 |some ⟨.cell,[s],_⟩=>Tk s (klc m b o s k)
 |some ⟨.slice _,[_],_⟩=>∃x:O,af m b o=some x.v/\k (.c (.s x))
 |_=>False:=rfl
def ile{b:Int}:Int.le a b=(a<=b):=rfl
def khi(s:O)(z:Nat)(l:Int)(k:SV->Prop)(h:Int):Prop:=Int.le 0 l/\Int.le l h/\Int.le h (nc s.cap)/\k (.c (.s (s.cut l.toNat h.toNat z)))
def klo(p:Fr)(a:Option Operand)(s:O)(z:Nat)(k:SV->Prop)(l:Int):Prop:=MY p a (nc s.len) (khi s z l k)
def YI{f:Nat}{mk:Nat->SV}:FL T t f o mk k=match fJ T t with
 |some ⟨.struct c,_,_⟩=>match HU c f with
  |some (a,u)=>match fJ T u with
   |some b=>bif b.uQ||Nat.beq b.sh.length 0 then False else bif a==0 then k (mk o)else k (mk (o+a))
   |none=>False
  |none=>False
 |_=>False:=by
 have h:∀a,(bif a==0 then k (mk o)else k (mk (o+a)))=k (mk (o+a)):=λa=>by cases a<;>rfl
 simp only[h];rfl
def V2{s:O}{n:Int}:XC T t s n k=match fJ T t with
 |some ⟨.slice e,_,_⟩=>match fJ T e with
  |some a=>bif a.uQ then False else Int.le 0 n/\n<nc s.len/\k (.c (.p s.D (s.off+n.toNat*a.sh.length)))
  |none=>False
 |_=>False:=rfl
def RY{s:O}{b a:Option Operand}:Rv T p t s b a k=match fJ T t with
 |some ⟨.slice e,_,_⟩=>match fJ T e with
  |some c=>bif c.uQ then False else MY p b 0 (klo p a s c.sh.length k)
  |none=>False
 |_=>False:=rfl
def RU:rd T p m k (.build t g)=match fJ T t with
 |some ⟨.struct a,b,_⟩=>bif vy T a then FF T p a (b.map Sh.zero) g.toList (Vr k)else False
 |_=>False:=rfl
def kxc(s:Sh)(r:List Sh)(k:List Ce->Prop)(x:s.ty):Prop:=UU r (Sb (s.mk x) k)
def V0{k:List Ce->Prop}:UU (s::r) k=Tk s (kxc s r k):=rfl
def YX(a:AV)(k:List AV->Prop)(l:List AV):Prop:=k (a::l)
def kxt(T:TT)(r:List Nat)(k:List AV->Prop)(l:List Ce):Prop:=SI T r (YX (.agg l) k)
def kxs(T:TT)(s:Sh)(r:List Nat)(k:List AV->Prop)(x:s.ty):Prop:=SI T r (YX (.c (s.mk x)) k)
def V1{r:List Nat}{k:List AV->Prop}:SI T (t::r) k=match fJ T t with
 |some ⟨.struct _,a,_⟩=>UU a (kxt T r k)
 |some ⟨.cell,[s],_⟩=>Tk s (kxs T s r k)
 |some ⟨.slice _,[_],_⟩=>∃x:O,SI T r (YX (.c (.s x)) k)
 |_=>False:=rfl
def krt(v:Value)(k:SV->Prop)(l:List AV):Prop:=v=.tuple (l.map AV.v).toArray/\k (.XR l)
def krs(v:Value)(k:SV->Prop)(l:List Ce):Prop:=v=.agg (l.map Ce.v).toArray/\k (.agg l)
def krc(v:Value)(s:Sh)(k:SV->Prop)(x:s.ty):Prop:=v=(s.mk x).v/\k (.c (s.mk x))
def Wb:Qj T t v k=match fJ T t with
 |some ⟨.tuple [],_,_⟩=>k .fZ
 |some ⟨.tuple a,_,_⟩=>SI T a (krt v k)
 |some ⟨.struct _,a,_⟩=>UU a (krs v k)
 |some ⟨.cell,[s],_⟩=>Tk s (krc v s k)
 |some ⟨.slice _,[_],_⟩=>∃x:O,v=x.v/\k (.c (.s x))
 |_=>False:=rfl
def Vs(k:Fr->SV->E->Prop)(p:Fr)(m:E)(x:SV):Prop:=k p x m
def inG(G:List Nat)(g:Nat):Prop:=G.elem g=true
def YV{G:List Nat}{g:Nat}:inG G g=(G.elem g=true):=rfl
def nz(b:Int):Prop:=b≠0
def nze{b:Int}:nz b=(b≠0):=rfl
def V8{b:Int}:sa .quo a b k=(nz b/\k (.c (.i (cR (a.tdiv b))))):=rfl
def Wa{b:Int}:sa .rem a b k=(nz b/\k (.c (.i (a.tmod b)))):=rfl
def TX{c:Nat}{f:Operand}{a:List Operand}{k:Fr->SV->E->Prop}:TP P T G n p m c f a k=match Ub p (a.map (ev p))with
 |none=>False
 |some u=>match ev p f with
  | .c (.fn (.func g) first b)=>bif G.elem g&&a.all (λx=>(ev p x).jI)then
   aM P g (first.toList++(a.map λx=>(ev p x).v)++b.toList) m λv q=>Av (MH n u []) m q (Qj T c v (Vs k u q))
   else False
  | .c (.fv b)=>bif a.all (λx=>(ev p x).jI)then
   ∃g,b.1=.func g/\inG G g/\aM P g (b.2.1.toList++(a.map λx=>(ev p x).v)++b.2.2.toList) m λv q=>Av (MH n u []) m q (Qj T c v (Vs k u q))
   else False
  |_=>False:=rfl
def p3(m:E)(k:Fr->SV->E->Prop)(p:Fr)(x:SV):Prop:=k p x m
def p2(m:E)(k:SV->E->Prop)(x:SV):Prop:=k x m
def T5{k:Fr->SV->E->Prop}:SR n p none m t l k=ON (m.push (.cells (bA l) t)) λq=>p3 q k p (.c (.p m.size 0)):=rfl
def T9{j:Nat}{k:Fr->SV->E->Prop}:SR n p (some j) m t l k=match gZ p (n+j)with
 | .zO _ _ _=>False
 |_=>ON (m.push (.cells (bA l) t)) λq=>p3 q k ((n+j,.box m.size t l)::p) (.c (.bp (n+j) m.size 0)):=rfl
def YN{x:SV}{k:Fr->SV->E->Prop}:Pc n p m x l k=match x with
 | .c (.p b o)=>eC m b o l.length/\ON (ag m b o l) λq=>Av (MH n p []) m q (k p .un q)
 | .c (.bp d b o)=>match gZ p d with
  | .box a e c=>bif Nat.ble (o+l.length) c.length then rX a b (ON (ag m b o l) λq=>p3 q k ((d,.box a e (js c o l))::p) .un)else False
  | .zO _ _ _=>False
  |_=>eC m b o l.length/\ON (ag m b o l) λq=>Av (MH n p []) m q (k p .un q)
 |_=>False:=rfl
def YM{b:Nat}{k:Fr->SV->E->Prop}:wr P T G n p m d b k (.makeSlice t x y)=match fJ T t,ev p x,ev p y with
 |some ⟨.slice e,_,_⟩,.c (.i l),.c (.i c)=>match fJ T e with
  |some a=>bif a.uQ then False else Int.le 0 l/\Int.le l c/\Int.le (nc a.bytes*c) 281474976710656/\Int.le c 9223372036854775807/\
   ON (m.push (.cells (bA (nE (a.sh.map Sh.zero) c.toNat)) e)) λq=>p3 q k p (.c (.s (.mk m.size 0 l.toNat c.toNat)))
  |none=>False
 |_,_,_=>False:=rfl
def YL{a:Nat}{k:Fr->SV->E->Prop}:wr P T G n p m d a k (.makeMap t none)=ON (m.push (.map #[] 0)) λq=>p3 q k p (.c (.mp m.size)):=rfl
def VZ{z:Nat}{s x:O}{k:SV->E->Prop}:Xx m z s x k=∃a:List Ce,a.length=Nat.min x.len s.len*z/\fX m x.D x.off a/\eC m s.D s.off a.length/\
 ON (ag m s.D s.off a) λq=>p2 q k (.c (.i (nc (Nat.min x.len s.len)))):=rfl
def kbs(p:Fr)(m:E)(e a:Nat)(k:Fr->SV->E->Prop)(l:List Ce):Prop:=match FJ p l with
 |some u=>ON (m.push (.cells (bA l) e)) λq=>p3 q k u (.c (.s (.mk m.size 0 a a)))
 |none=>False
def YH{c a:Nat}{k:Fr->SV->E->Prop}:wr P T G n p m d c k (.buildSlice t a g)=match fJ T t with
 |some ⟨.slice e,_,_⟩=>match fJ T e with
  |some b=>bif b.uQ||!(Nat.ble (a*b.sh.length) 16777216)then False else
   xG T p b.sh.length (nE (b.sh.map Sh.zero) a) g.toList (kbs p m e a k)
  |none=>False
 |_=>False:=rfl
def kcp(n:Nat)(p:Fr)(m:E)(k:Fr->SV->E->Prop)(x:SV)(q:E):Prop:=Av (MH n p []) m q (k p x q)
def TY{b:Nat}{u:Nat}{c:List Nat}{k:Fr->SV->E->Prop}:wr P T G n p m d b k (.call ⟨.builtin .copy,⟨[x,y]⟩,⟨u::c⟩⟩)=match fJ T u,ev p x,ev p y with
 |some ⟨.slice e,_,_⟩,.c (.s s),.c (.s z)=>match fJ T e with
  |some a=>bif a.uQ then False else Xx m a.sh.length s z (kcp n p m k)
  |none=>False
 |_,_,_=>False:=rfl
def kw(P:Program)(T:TT)(G:List Nat)(n:Nat)(e:List Oper)(d:Option Nat)(kd:List Oper)(k:Fr->E->Prop)(p:Fr)(x:SV)(m:E):Prop:=sN P T G n e kd (uo p d x) m k
def kr(P:Program)(T:TT)(G:List Nat)(n:Nat)(e:List Oper)(d:Option Nat)(kd:List Oper)(k:Fr->E->Prop)(p:Fr)(m:E)(x:SV):Prop:=sN P T G n e kd (uo p d x) m k
def ky(P:Program)(T:TT)(G:List Nat)(n:Nat)(e:List Oper)(o:Oper)(kd:List Oper)(k:Fr->E->Prop)(m:E)(p:Fr):Prop:=
 bif Lj o.op then wr P T G n p m o.dst o.type (kw P T G n e o.dst kd k) o.op else rd T p m (kr P T G n e o.dst kd k p m) o.op
def kn(P:Program)(T:TT)(G:List Nat)(n:Nat)(e:List Oper)(d:Option Nat)(kd:List Oper)(k:Fr->E->Prop)(m:E)(p:Fr):Prop:=sN P T G n e kd (uo p d .un) m k
def V7{o:Oper}{kd:List Oper}{k:Fr->E->Prop}:sN P T G n e (o::kd) p m k=
 bif sH n o.dst then gd e p o.guard (ky P T G n e o kd k m) (kn P T G n e o.dst kd k m)else False:=rfl
abbrev LL:=List (Nat×List (Nat×Nat))
def dr1(P:Program)(T:TT)(G:List Nat)(n:Nat)(e:List Oper)(c a:List Nat)(b done:Nat)(o:Oper)(i:Nat)(m:E)(L:LL)(k:Fr->E->Prop)(p:Fr)(x:SV):Prop:=
 oU P T G n e c a b (done|||2^i) (uo p o.dst x) m ((i,Tl T p o.op)::L) k
def dry(P:Program)(T:TT)(G:List Nat)(n:Nat)(e:List Oper)(c a:List Nat)(b done:Nat)(o:Oper)(i:Nat)(m:E)(L:LL)(k:Fr->E->Prop)(p:Fr):Prop:=
 rd T p m (dr1 P T G n e c a b done o i m L k p) o.op
def ZK(P:Program)(T:TT)(G:List Nat)(n:Nat)(e:List Oper)(c a:List Nat)(b done:Nat)(o:Oper)(i:Nat)(m:E)(L:LL)(k:Fr->E->Prop)(p:Fr):Prop:=
 oU P T G n e c a b (done|||2^i) (uo p o.dst .un) m L k
def dr2(P:Program)(T:TT)(G:List Nat)(n:Nat)(e:List Oper)(c a:List Nat)(b done:Nat)(o:Oper)(i:Nat)(m:E)(L:LL)(k:Fr->E->Prop)(p:Fr)(x:SV)(q:E):Prop:=
 DF (uv a i) m q L (oU P T G n e c a b (done|||2^i) (uo p o.dst x) q L k)
def dwy(P:Program)(T:TT)(G:List Nat)(n:Nat)(e:List Oper)(c a:List Nat)(b done:Nat)(o:Oper)(i:Nat)(m:E)(L:LL)(k:Fr->E->Prop)(p:Fr):Prop:=
 wr P T G n p m o.dst o.type (dr2 P T G n e c a b done o i m L k) o.op
def dra(P:Program)(T:TT)(G:List Nat)(n:Nat)(e:List Oper)(c a:List Nat)(b done:Nat)(m:E)(L:LL)(k:Fr->E->Prop)(p:Fr)(i:Nat):Prop:=match HU e i with
 |some o=>bif sH n o.dst then gd e p o.guard (dwy P T G n e c a b done o i m L k) (ZK P T G n e c a b done o i m L k)else False
 |none=>False
def TZ{a b:List Nat}{c done:Nat}{L:LL}{k:Fr->E->Prop}:oU P T G n e a b (c+1) done p m L k=match xu done 0 e a with
 |some i=>match HU e i with
  |some o=>bif sH n o.dst then gd e p o.guard (dry P T G n e a b c done o i m L k) (ZK P T G n e a b c done o i m L k)else False
  |none=>False
 |none=>match pV done 0 e a with
  |[]=>k p m
  |d=>Oq d (dra P T G n e a b c done m L k p):=rfl
def TV{f:Nat->Prop}:Oq [i] f=f i:=rfl
def TW{r:List Nat}{f:Nat->Prop}:Oq (i::j::r) f=(f i/\Oq (j::r) f):=rfl
def kq(Q:Exit->Fr->E->Prop)(p:Fr)(m:E):Prop:=Q .normal p m
def V9{e:Array Oper}{a:Bool}:vc P T G n A (.region i e a) p m Q=
 bif a then oU P T G n e.toList (Vz e.toList) (TN [] e.toList) e.toList.length 0 p m [] (kq Q)
 else sN P T G n e.toList e.toList p m (kq Q):=rfl
def kal(t:Nat)(s:Sh)(r:List (Nat×Sh))(I:s.ty->Hw r)(p:Fr)(k:Fr->(E->Prop)->Prop)(x:s.ty):Prop:=PA r (I x) ((t,.c (s.mk x))::p) k
def VW{r:List (Nat×Sh)}{I:s.ty->Hw r}{k:Fr->(E->Prop)->Prop}:PA ((t,s)::r) I p k=Vb s (kal t s r I p k):=rfl
def kam(t:Nat)(s:Sh)(r:List (Nat×Sh))(I:s.ty->Hw r)(μ:s.ty->Ok r)(p:Fr)(k:Fr->(E->Prop)->(E->Nat)->Prop)(x:s.ty):Prop:=PB r (I x) (μ x) ((t,.c (s.mk x))::p) k
def VX{r:List (Nat×Sh)}{I:s.ty->Hw r}{μ:s.ty->Ok r}{k:Fr->(E->Prop)->(E->Nat)->Prop}:PB ((t,s)::r) I μ p k=Vb s (kam t s r I μ p k):=rfl
def ks(P:Program)(T:TT)(G:List Nat)(n:Nat)(A:Pl)(b:Code)(Q:Exit->Fr->E->Prop):Exit->Fr->E->Prop
 | .normal,u,q=>vc P T G n A b u q Q
 |e,u,q=>Q e u q
def kc(A:Pl)(b:Code)(p:Fr)(l:List (Nat×Sh))(K:Hw l)(Q:Exit->Fr->E->Prop):Exit->Fr->E->Prop
 | .normal,u,q=>UT p u (lD A b) (Hy l K u q)
 |e,u,q=>Q e u q
def ki(P:Program)(T:TT)(G:List Nat)(n:Nat)(A:Pl)(b:Code)(Q:Exit->Fr->E->Prop)(u:Fr)(a:E->Prop):Prop:=∀q,a q->vc P T G n A b u q Q
def Wc{a b:Code}:vc P T G n A (.seq a b) p m Q=match Wl A.Vo b with
 |none=>vc P T G n A a p m (ks P T G n A b Q)
 |some l=>bif pZ (oP a) l then∃K:Hw l,vc P T G n A a p m (kc A b p l K Q)/\
  PA l K (nK (oP a) (uJ n (lD A b) p)) (ki P T G n A b Q)else False:=by
 unfold ks kc ki;rfl
def kb(i:Nat)(Q:Exit->Fr->E->Prop):Exit->Fr->E->Prop
 | .exit j,u,q=>bif Nat.beq j i then Q .normal u q else Q (.exit j) u q
 |e,u,q=>Q e u q
def RT:vc P T G n A (.block i c) p m Q=vc P T G n A c p m (kb i Q):=by
 unfold kb;rfl
def ke(A:Pl)(c:Code)(p:Fr)(l:List (Nat×Sh))(I:Hw l)(μ:Ok l)(N:Nat)(Q:Exit->Fr->E->Prop):Exit->Fr->E->Prop
 | .normal,a,b=>UT p a (lD A c) (Ou l I μ a b N)
 |e,a,b=>Q e a b
def kl(P:Program)(T:TT)(G:List Nat)(n:Nat)(A:Pl)(c:Code)(p:Fr)(l:List (Nat×Sh))(I:Hw l)(μ:Ok l)(Q:Exit->Fr->E->Prop)(u:Fr)(a:E->Prop)(μ':E->Nat):Prop:=
 ∀q,a q->vc P T G n A c u q (ke A c p l I μ (μ' q) Q)
def T4:vc P T G n A (.loop c) p m Q=match Wl A.Ui c with
 |none=>False
 |some l=>bif pZ (oP c) l then∃(I:Hw l)(μ:Ok l),Hy l I p m/\
  PB l I μ (nK (oP c) (uJ n (lD A c) p)) (kl P T G n A c p l I μ Q)else False:=by
 unfold kl ke;rfl
def kR(m:E)(R:Value->E->Prop)(l:List SV):Prop:=match l with
 |[x]=>R x.v m
 |l=>R (.tuple (l.map SV.v).toArray) m
def kx(x:SV)(k:List SV->Prop)(l:List SV):Prop:=k (x::l)
def kz(T:TT)(p:Fr)(m:E)(r:List ResultVar)(k:List SV->Prop)(x:SV):Prop:=bif x.jI then Gs T p m r (kx x k)else False
def RW{r:List ResultVar}{k:List SV->Prop}:Gs T p m (.tmp t::r) k=bif (gZ p t).jI then Gs T p m r (kx (gZ p t) k)else False:=rfl
def RX{a:Nat}{r:List ResultVar}{k:List SV->Prop}:Gs T p m (.cell a t::r) k=rd T p m (kz T p m r k) (.load t (.tmp a)):=rfl
def kf(T:TT)(a:List ResultVar)(R:Value->E->Prop):Exit->Fr->E->Prop
 | .normal,p,m=>Gs T p m a (kR m R)
 | .ret,p,m=>Gs T p m a (kR m R)
 |_,_,_=>False
def YJ{b:List ResultVar}{a:List SV}{R:Value->E->Prop}:Th P T G A n b c a m R=vc P T G n A c (uI 0 a) m (kf T b R):=by
 unfold kf kR;rfl
end
def Tg(_:Prop):Type:=Prop
def Tg.p{q:Prop}(t:Tg q):Prop:=t
def Tg.lf(q:Prop):Tg q:=q
def Tg.pm{a b:Prop}{h:Tg a=Tg b}:Tg.p (Eq.mpr h (Tg.lf b))=b:=rfl
def rg1:List.range 1=[0]:=rfl
def rg2:List.range 2=[0,1]:=rfl
def rg3:List.range 3=[0,1,2]:=rfl
def rg4:List.range 4=[0,1,2,3]:=rfl
def rg5:List.range 5=[0,1,2,3,4]:=rfl
def rg6:List.range 6=[0,1,2,3,4,5]:=rfl
def rg7:List.range 7=[0,1,2,3,4,5,6]:=rfl
def Tg.pm2{a b c:Prop}{h:Tg a=Tg b}{d:Tg b=Tg c}:Tg.p (Eq.mpr h (Eq.mpr d (Tg.lf c)))=c:=rfl
def Wi(_ _:Prop):Type:=Unit
def mkT{a X:Prop}(_:Wi a X)(t:Tg a)(_:t.p=X):True:=trivial
end Go.Vc
end
namespace Go.Proofs.YtkoifinbblcbiaaGreat
open Go.Vc
section
noncomputable abbrev cq:=Tryz.prog
def VT:TT:=[(0,⟨.tuple [],[],0⟩),
 (3,⟨.cell,[.I],8⟩),
 (4,⟨.cell,[.T],1⟩),
 (5,⟨.cell,[(.U .u8)],1⟩),
 (22,⟨.slice 5,[.S],24⟩),
 (23,⟨.slice 90,[.S],24⟩),
 (24,⟨.slice 43,[.S],24⟩),
 (26,⟨.struct [(0,23),(1,24)],[.S,.S],48⟩),
 (27,⟨.slice 3,[.S],24⟩),
 (28,⟨.slice 46,[.S],24⟩),
 (29,⟨.slice 38,[.S],24⟩),
 (31,⟨.struct [(0,3),(1,3),(2,3),(3,3),(4,27),(5,28),(6,29)],[.I,.I,.I,.I,.S,.S,.S],104⟩),
 (32,⟨.tuple [26,31],[],0⟩),
 (34,⟨.tuple [31,4],[],0⟩),
 (38,⟨.struct [(0,3),(1,3),(2,3),(3,27),(4,27),(5,27)],[.I,.I,.I,.S,.S,.S],96⟩),
 (40,⟨.struct [(0,3),(1,3),(2,3),(3,3),(4,27),(5,27)],[.I,.I,.I,.I,.S,.S],80⟩),
 (41,⟨.slice 40,[.S],24⟩),
 (43,⟨.struct [(0,27),(1,27),(2,3),(3,3),(4,41)],[.S,.S,.I,.I,.S],88⟩),
 (46,⟨.struct [(0,3),(1,3),(2,27)],[.I,.I,.S],40⟩),
 (49,⟨.tuple [26,31,3],[],0⟩),
 (54,⟨.tuple [26,3],[],0⟩),
 (57,⟨.struct [(0,3),(1,3),(2,3),(3,3),(4,3),(5,3),(6,3),(7,3)],[.I,.I,.I,.I,.I,.I,.I,.I],64⟩),
 (58,⟨.tuple [57,4],[],0⟩),
 (63,⟨.cell,[.P],8⟩),
 (68,⟨.struct [(0,26),(2,3),(3,31)],[.S,.S,.I,.I,.I,.I,.I,.S,.S,.S],160⟩),
 (69,⟨.cell,[.P],8⟩),
 (71,⟨.struct [(0,26),(2,31)],[.S,.S,.I,.I,.I,.I,.S,.S,.S],152⟩),
 (87,⟨.struct [(0,22),(1,3)],[.S,.I],32⟩),
 (88,⟨.slice 218,[.S],24⟩),
 (90,⟨.struct [(0,3),(1,3),(2,88)],[.I,.I,.S],40⟩),
 (94,⟨.cell,[.P],8⟩),
 (95,⟨.cell,[.P],8⟩),
 (101,⟨.cell,[.F],8⟩),
 (107,⟨.slice 163,[.S],24⟩),
 (109,⟨.struct [(0,23),(1,107)],[.S,.S],48⟩),
 (110,⟨.tuple [109,4],[],0⟩),
 (113,⟨.tuple [27,4],[],0⟩),
 (120,⟨.cell,[.P],8⟩),
 (122,⟨.slice 175,[.S],24⟩),
 (124,⟨.struct [(0,23),(1,122)],[.S,.S],48⟩),
 (127,⟨.cell,[.P],8⟩),
 (129,⟨.struct [(0,3),(1,3),(2,3),(3,3),(4,3),(5,3),(6,3),(7,3)],[.I,.I,.I,.I,.I,.I,.I,.I],64⟩),
 (130,⟨.tuple [3,3],[],0⟩),
 (135,⟨.tuple [27,27],[],0⟩),
 (140,⟨.slice 46,[.S],24⟩),
 (163,⟨.struct [(0,27),(1,27),(2,3)],[.S,.S,.I],56⟩),
 (167,⟨.tuple [3,4],[],0⟩),
 (171,⟨.slice 173,[.S],24⟩),
 (173,⟨.struct [(0,3),(1,3),(2,171)],[.I,.I,.S],40⟩),
 (175,⟨.struct [(0,27),(1,3),(2,173)],[.S,.I,.I,.I,.S],72⟩),
 (181,⟨.slice 205,[.S],24⟩),
 (183,⟨.struct [(0,23),(1,181)],[.S,.S],48⟩),
 (188,⟨.cell,[.F],8⟩),
 (189,⟨.cell,[.P],8⟩),
 (191,⟨.slice 4,[.S],24⟩),
 (201,⟨.slice 226,[.S],24⟩),
 (203,⟨.struct [(0,201),(1,3)],[.S,.I],32⟩),
 (205,⟨.struct [(0,27),(1,27),(2,3),(3,203)],[.S,.S,.I,.S,.I],88⟩),
 (206,⟨.cell,[.P],8⟩),
 (208,⟨.struct [(0,41)],[.S],24⟩),
 (218,⟨.struct [(0,27)],[.S],24⟩),
 (220,⟨.map 3 3,[.M],8⟩),
 (222,⟨.tuple [3,218],[],0⟩),
 (224,⟨.slice 203,[.S],24⟩),
 (226,⟨.struct [(0,3),(1,3),(2,3),(3,27),(4,224)],[.I,.I,.I,.S,.S],72⟩),
 (229,⟨.cell,[.P],8⟩),
 (230,⟨.tuple [229,4],[],0⟩),
 (233,⟨.struct [(0,27),(1,27),(2,27),(3,27),(4,27),(5,27),(6,27)],[.S,.S,.S,.S,.S,.S,.S],168⟩),
 (259,⟨.slice 27,[.S],24⟩),
 (275,⟨.cell,[.P],8⟩),
 (277,⟨.struct [(0,201),(1,3)],[.S,.I],32⟩)]
abbrev QB:Nat:=22
abbrev di:Nat:=203
abbrev nD:Nat:=46
abbrev pt:Nat:=218
abbrev jZ:Nat:=90
abbrev bK:Nat:=173
abbrev cL:Nat:=38
abbrev fx:Nat:=175
abbrev eA:Nat:=26
abbrev de:Nat:=40
abbrev nt:Nat:=183
abbrev jy:Nat:=43
abbrev kK:Nat:=124
abbrev jQ:Nat:=205
abbrev fU:Nat:=31
abbrev dj:Nat:=57
abbrev gA:Nat:=226
abbrev eu:Nat:=140
abbrev bg:Nat:=68
abbrev qe:Nat:=163
abbrev mj:Nat:=109
abbrev aD:Nat:=3
abbrev ym:Nat:=27
abbrev xe:Nat:=129
abbrev oF:Nat:=208
abbrev BL:Nat:=233
abbrev lI:Nat:=277
abbrev bS:Nat:=71
abbrev qj:Nat:=87
abbrev UD:Nat:=5
def Mw:uj cq VT:=by
 unfold uj;kernel_rfl
def GL:List Nat:=List.range' 3 337
def Yd:U8 cq GL:=by
 unfold U8;kernel_rfl
def Yi:cq.follows .mixedOrders=true:=by kernel_rfl
def nbq(a b:Nat):Nat.beq a b=(a==b):=by rw[JA];simp
def nbl(a b:Nat):Nat.ble a b=(a -b==0):=by rw[JA];simp;omega
def nbt(a b:Nat):Nat.blt a b=(a+1 -b==0):=by rw[JA];simp[Nat.blt];omega
def gel(g:Nat):List.elem g GL=(3 -g==0&&(g -339==0)):=by rw[JA];simp[GL];omega
section
variable{α β:Type}{a:α}{b:β}
def atl(l:List α):(Array.mk l).toList=l:=rfl
end
section
variable(a b c d e f)
def o1:(Oper.mk a b c d e f).dst=a:=rfl
def o2:(Oper.mk a b c d e f).op=b:=rfl
def o3:(Oper.mk a b c d e f).type=c:=rfl
def o5:(Oper.mk a b c d e f).after=e:=rfl
def o6:(Oper.mk a b c d e f).guard=f:=rfl
end
section
variable(a b c)
def a2:(Pl.mk a b c).Ui=a:=rfl
def a3:(Pl.mk a b c).Vo=b:=rfl
def a4:(Pl.mk a b c).dQ=c:=rfl
def t1:(TI.mk a b c).HN=a:=rfl
def t2:(TI.mk a b c).sh=b:=rfl
def t3:(TI.mk a b c).bytes=c:=rfl
def g1:(Edge.mk a b).on=a:=rfl
def g2:(Edge.mk a b).ground=b:=rfl
end
def A0:Pl:=⟨[],[],[]⟩
def cI(x:Int):SV:=.c (.i x)
def cS(x:O):SV:=.c (.s x)
def cP(x:Nat×Nat):SV:=.c (.p x.1 x.2)
instance:Coe Int SV:=⟨cI⟩
instance:Coe O SV:=⟨cS⟩
instance:Coe (Nat×Nat) SV:=⟨cP⟩
instance:Coe Int Ce:=⟨.i⟩
instance:Coe O Ce:=⟨.s⟩
def nm(n:Nat){x:TI}(h:fJ VT n=some x:=by cbv):fJ VT n=some x:=h
def tg0:=nm 0
def tg3:=nm 3
def tg4:=nm 4
def tg5:=nm 5
def Y8:=nm 22
def Y9:=nm 23
def Za:=nm 24
def Zb:=nm 26
def Zc:=nm 27
def Zd:=nm 28
def Ze:=nm 29
def Zf:=nm 31
def Zg:=nm 32
def Zh:=nm 34
def Zi:=nm 38
def Zj:=nm 40
def Zk:=nm 41
def Zl:=nm 43
def Zm:=nm 46
def Zn:=nm 49
def Zo:=nm 54
def Zp:=nm 57
def Zq:=nm 58
def Zr:=nm 63
def Zs:=nm 68
def Zt:=nm 69
def Zu:=nm 71
def Zv:=nm 87
def Zw:=nm 88
def Zx:=nm 90
def Zy:=nm 94
def Zz:=nm 95
def Ws:=nm 101
def Wt:=nm 107
def Wu:=nm 109
def Wv:=nm 110
def Ww:=nm 113
def Wx:=nm 120
def Wy:=nm 122
def Wz:=nm 124
def WA:=nm 127
def WC:=nm 129
def WD:=nm 130
def WE:=nm 135
def WG:=nm 140
def WH:=nm 163
def WI:=nm 167
def WJ:=nm 171
def WK:=nm 173
def WM:=nm 175
def WN:=nm 181
def WO:=nm 183
def WQ:=nm 188
def WR:=nm 189
def WT:=nm 191
def WU:=nm 201
def WV:=nm 203
def WW:=nm 205
def WY:=nm 206
def WZ:=nm 208
def W0:=nm 218
def W3:=nm 220
def W7:=nm 222
def Xa:=nm 224
def Xb:=nm 226
def Xc:=nm 229
def Xd:=nm 230
def Xe:=nm 233
def Xf:=nm 259
def Xg:=nm 275
def Xh:=nm 277
def cZ(m:E)(R:Value->E->Prop)(A:Pl)(a:List SV){f:FuncId}{b:Go.Func}{X:Prop}{c:Code}{n:Nat}{e:List ResultVar}{g:List Value}(k:cq.funcs[f]? =some b)
 (d:(b.body,b.ntmps,b.results)=(some c,n,Array.mk e):=by cbv)
 (i:a.all SV.jI=true:=by kernel_rfl)(l:Nat.ble a.length n=true:=by kernel_rfl)(hd:qD c=true:=by kernel_rfl)
 (o:a.map SV.v=g:=by dsimp only[List.map,cI,cS,cP,SV.v,Ce.v])
 (w:Wi (Th cq VT GL A n e c a m R) X->True:=by intro w;obtain - :=mkT w (by sym -abstractProof=>simp[gel,A0.eq_1,cI.eq_1,cS.eq_1,cP.eq_1,tg0,tg3,tg4,tg5,Y8,Y9,Za,Zb,Zc,Zd,Ze,Zf,Zg,Zh,Zi,Zj,Zk,Zl,Zm,Zn,Zo,Zp,Zq,Zr,Zs,Zt,Zu,Zv,Zw,Zx,Zy,Zz,Ws,Wt,Wu,Wv,Ww,Wx,Wy,Wz,WA,WC,WD,WE,WG,WH,WI,WJ,WK,WM,WN,WO,WQ,WR,WT,WU,WV,WW,WY,WZ,W0,W3,W7,Xa,Xb,Xc,Xd,Xe,Xf,Xg,Xh,nbq,nbl,nbt,atl,o1,o2,o3,o5,o6,a2,a3,a4,t1,t2,t3,g1,g2,cG,fD,cH,dX,Oe,List.all_nil,aV,eU,List.elem_cons,Od,Bool.false_and,VP,VO,Bool.true_or,Oc,MC,Bool.and_true,oA,Option.map_none,il,jq,mF,List.flatMap_nil,List.isEmpty_cons,List.isEmpty_nil,List.any_cons,QI,qT,Nr,uI.eq_1,uI.eq_2,vc.eq_1,vc.eq_4,vc.eq_6,vc.eq_7,vc.eq_8,uT.eq_def,Y2.eq_def,Wp.eq_def,rc.eq_1,rc.eq_2,LD.eq_def,UT.eq_1,UT.eq_2,uJ.eq_1,Dm.eq_1,Dm.eq_2,lD.eq_1,pZ.eq_1,pZ.eq_2,oP.eq_def,nK.eq_1,nK.eq_2,PB.eq_1,PA.eq_1,Ou.eq_1,Ou.eq_2,Hy.eq_1,Hy.eq_2,Q8.eq_def,Wl.eq_1,Ds.eq_def,lk.eq_1,lk.eq_2,oU.eq_1,DF.eq_1,DF.eq_2,LQ.eq_1,LQ.eq_2,pV.eq_def,xu.eq_def,kO.eq_1,oC.eq_1,oC.eq_2,lE.eq_1,uv.eq_1,uv.eq_2,uv.eq_3,sN.eq_1,zR.eq_1,zR.eq_2,gd.eq_1,gd.eq_2,Lf.eq_1,sH.eq_1,sH.eq_2,Lj.eq_def,wr.eq_1,wr.eq_2,wr.eq_4,wr.eq_6,wr.eq_8,wr.eq_9,wr.eq_10,wr.eq_11,xG.eq_1,xG.eq_2,SI.eq_1,UU.eq_1,MH.eq_def,Av.eq_def,rd.eq_1,rd.eq_2,rd.eq_3,rd.eq_4,rd.eq_5,rd.eq_6,rd.eq_7,rd.eq_8,rd.eq_9,rd.eq_10,rd.eq_11,rd.eq_12,rd.eq_13,rd.eq_15,Tl.eq_def,V3,V5,V6,NE.eq_1,Hg.eq_1,Hg.eq_2,OC.eq_1,MY.eq_1,MY.eq_2,vy.eq_1,vy.eq_2,FF.eq_1,FF.eq_2,mr.eq_1,mr.eq_2,mr.eq_3,mr.eq_4,mr.eq_5,SV.cells.eq_def,ZP.eq_def,Vu.eq_def,Vf.eq_def,sa.eq_1,sa.eq_2,sa.eq_3,sa.eq_6,sa.eq_7,sa.eq_8,sa.eq_9,sa.eq_10,sa.eq_11,sa.eq_12,V8,Wa,Wk.eq_1,HU.eq_1,HU.eq_2,HU.eq_3,lB.eq_def,SV.jI.eq_def,TI.uQ.eq_1,TI.agg.eq_1,Sh.zero.eq_1,Sh.zero.eq_2,Sh.zero.eq_3,Sh.zero.eq_4,Sh.zero.eq_5,Sh.zero.eq_6,Sh.zero.eq_7,ev.eq_1,ev.eq_2,ev.eq_3,ev.eq_4,FI.eq_def,pO.eq_1,pO.eq_2,kM.eq_1,kM.eq_3,kM.eq_4,kM.eq_5,kM.eq_6,kM.eq_7,uo.eq_1,uo.eq_2,SV.nb.eq_def,gZ.eq_1,gZ.eq_2,AV.sv.eq_1,AV.sv.eq_2,SV.v.eq_1,SV.v.eq_2,SV.v.eq_3,SV.v.eq_4,SV.v.eq_5,SV.v.eq_6,SV.v.eq_7,SV.v.eq_8,SV.v.eq_9,AV.v.eq_1,AV.v.eq_2,Ce.v.eq_1,Ce.v.eq_2,Ce.v.eq_3,Ce.v.eq_4,Ce.v.eq_5,Ce.v.eq_6,Ce.v.eq_7,Ce.v.eq_8,Ce.v.eq_9,Ce.v.eq_10,Ce.v.eq_11,Ce.v.eq_12,Ce.v.eq_13,vw.eq_1,vw.eq_2,Ub.eq_1,FJ.eq_def,js.eq_1,js.eq_2,Hw.eq_1,Hw.eq_2,Ok.eq_1,Ok.eq_2,Sh.ty.eq_1,Sh.ty.eq_2,Sh.ty.eq_3,Sh.ty.eq_4,Sh.ty.eq_5,Sh.ty.eq_6,Sh.ty.eq_7,Sh.mk.eq_1,Sh.mk.eq_2,Sh.mk.eq_3,Sh.mk.eq_4,Sh.mk.eq_5,Sh.mk.eq_6,Sh.mk.eq_7,HA.eq_1,SV.Vj.eq_def,AV.Vj.eq_1,AV.Vj.eq_2,Gs.eq_1,Vz.eq_1,Vz.eq_2,TN.eq_1,TN.eq_2,kld.eq_1,klc.eq_1,kxc.eq_1,kxs.eq_1,krc.eq_1,kal.eq_1,kam.eq_1,pa.eq_1,p3.eq_1,p2.eq_1,Sb.eq_1,Vr.eq_1,khi.eq_1,klo.eq_1,YX.eq_1,kxt.eq_1,krt.eq_1,krs.eq_1,Vs.eq_1,kbs.eq_1,kcp.eq_1,kw.eq_1,kr.eq_1,ky.eq_1,kn.eq_1,dr1.eq_1,dry.eq_1,ZK.eq_1,dr2.eq_1,dwy.eq_1,dra.eq_1,kq.eq_1,ks.eq_def,kc.eq_def,ki.eq_1,kb.eq_def,ke.eq_def,kl.eq_1,kR.eq_def,kx.eq_1,kz.eq_1,kf.eq_def,Oq.eq_1,YK,T0,RY,RU,V0,V1,Wb,TX,YH,TY,V7,TZ,TV,TW,V9,Wc,RT,T4,RW,RX,YJ,YI,VW,VX,exI,exU,exB,YP,exP,exF,exM,alI,alU,alB,Yz,alP,alF,alM,cU8,z0,z1,tb,VY,b1,b2,b3,b4,b5,b6,T5,T9,YN,YM,YL,VZ,V2,rg1,rg2,rg3,rg4,rg5,rg6,rg7,jF];exact Tg.lf _) (by refine Tg.pm.trans ?_;dsimp -zeta+instances only[↓Sf,ile,↓YV,nze,nce,Hw,Ok,Sh.ty,Int.cast_ofNat_Int]);trivial)
 (j:X=Th cq VT GL A n e c a m R:=by kernel_rfl)
 :X->aM cq f g m R:=λh=>by
 subst o
 exact qP Mw Yd Yi k (rV Prod.fst d) (rV (λx=>x.2.1) d) (rV (λx=>x.2.2) d) i (lM l) hd (j▸h)
def aaj(m:E)(R:Value->E->Prop)(A:Pl)(a:List SV){f:FuncId}{b:Go.Func}{X:Prop}{c:Code}{n:Nat}{e:List ResultVar}{g:List Value}(k:cq.funcs[f]? =some b)
 (d:(b.body,b.ntmps,b.results)=(some c,n,Array.mk e):=by cbv)
 (i:a.all SV.jI=true:=by kernel_rfl)(l:Nat.ble a.length n=true:=by kernel_rfl)(hd:qD c=true:=by kernel_rfl)
 (o:a.map SV.v=g:=by dsimp only[List.map,cI,cS,cP,SV.v,Ce.v])
 (w:Wi (Th cq VT GL A n e c a m R) X->True:=by intro w;obtain - :=mkT w (by sym -abstractProof=>simp[gel,A0.eq_1,cI.eq_1,cS.eq_1,cP.eq_1,tg0,tg3,tg4,tg5,Y8,Y9,Za,Zb,Zc,Zd,Ze,Zf,Zg,Zh,Zi,Zj,Zk,Zl,Zm,Zn,Zo,Zp,Zq,Zr,Zs,Zt,Zu,Zv,Zw,Zx,Zy,Zz,Ws,Wt,Wu,Wv,Ww,Wx,Wy,Wz,WA,WC,WD,WE,WG,WH,WI,WJ,WK,WM,WN,WO,WQ,WR,WT,WU,WV,WW,WY,WZ,W0,W3,W7,Xa,Xb,Xc,Xd,Xe,Xf,Xg,Xh,nbq,nbl,nbt,atl,o1,o2,o3,o5,o6,a2,a3,a4,t1,t2,t3,g1,g2,cG,fD,cH,dX,Oe,List.all_nil,aV,eU,List.elem_cons,Od,Bool.false_and,VP,VO,Bool.true_or,Oc,MC,Bool.and_true,oA,Option.map_none,il,jq,mF,List.flatMap_nil,List.isEmpty_cons,List.isEmpty_nil,List.any_cons,QI,qT,Nr,uI.eq_1,uI.eq_2,vc.eq_1,vc.eq_4,vc.eq_6,vc.eq_7,vc.eq_8,uT.eq_def,Y2.eq_def,Wp.eq_def,rc.eq_1,rc.eq_2,LD.eq_def,UT.eq_1,UT.eq_2,uJ.eq_1,Dm.eq_1,Dm.eq_2,lD.eq_1,pZ.eq_1,pZ.eq_2,oP.eq_def,nK.eq_1,nK.eq_2,PB.eq_1,PA.eq_1,Ou.eq_1,Ou.eq_2,Hy.eq_1,Hy.eq_2,Q8.eq_def,Wl.eq_1,Ds.eq_def,lk.eq_1,lk.eq_2,oU.eq_1,DF.eq_1,DF.eq_2,pV.eq_def,xu.eq_def,kO.eq_1,oC.eq_1,oC.eq_2,lE.eq_1,uv.eq_1,uv.eq_2,uv.eq_3,sN.eq_1,zR.eq_1,zR.eq_2,gd.eq_1,gd.eq_2,Lf.eq_1,sH.eq_1,sH.eq_2,Lj.eq_def,wr.eq_1,wr.eq_2,wr.eq_4,wr.eq_6,wr.eq_8,wr.eq_9,wr.eq_10,wr.eq_11,xG.eq_1,xG.eq_2,SI.eq_1,UU.eq_1,MH.eq_def,Av.eq_def,rd.eq_1,rd.eq_2,rd.eq_3,rd.eq_4,rd.eq_5,rd.eq_6,rd.eq_7,rd.eq_8,rd.eq_9,rd.eq_10,rd.eq_11,rd.eq_12,rd.eq_13,rd.eq_15,Tl.eq_def,V3,V5,V6,NE.eq_1,Hg.eq_1,Hg.eq_2,OC.eq_1,MY.eq_1,MY.eq_2,vy.eq_1,vy.eq_2,FF.eq_1,FF.eq_2,mr.eq_1,mr.eq_2,mr.eq_3,mr.eq_4,mr.eq_5,SV.cells.eq_def,ZP.eq_def,Vu.eq_def,Vf.eq_def,sa.eq_1,sa.eq_2,sa.eq_3,sa.eq_6,sa.eq_7,sa.eq_8,sa.eq_9,sa.eq_10,sa.eq_11,sa.eq_12,V8,Wa,Wk.eq_1,HU.eq_1,HU.eq_2,HU.eq_3,lB.eq_def,SV.jI.eq_def,TI.uQ.eq_1,TI.agg.eq_1,Sh.zero.eq_1,Sh.zero.eq_2,Sh.zero.eq_3,Sh.zero.eq_4,Sh.zero.eq_5,Sh.zero.eq_6,Sh.zero.eq_7,ev.eq_1,ev.eq_2,ev.eq_3,ev.eq_4,FI.eq_def,pO.eq_1,pO.eq_2,kM.eq_1,kM.eq_3,kM.eq_4,kM.eq_5,kM.eq_6,kM.eq_7,uo.eq_1,uo.eq_2,SV.nb.eq_def,gZ.eq_1,gZ.eq_2,AV.sv.eq_1,AV.sv.eq_2,SV.v.eq_1,SV.v.eq_2,SV.v.eq_3,SV.v.eq_4,SV.v.eq_5,SV.v.eq_6,SV.v.eq_7,SV.v.eq_8,SV.v.eq_9,AV.v.eq_1,AV.v.eq_2,Ce.v.eq_1,Ce.v.eq_2,Ce.v.eq_3,Ce.v.eq_4,Ce.v.eq_5,Ce.v.eq_6,Ce.v.eq_7,Ce.v.eq_8,Ce.v.eq_9,Ce.v.eq_10,Ce.v.eq_11,Ce.v.eq_12,Ce.v.eq_13,vw.eq_1,vw.eq_2,Ub.eq_1,FJ.eq_def,js.eq_1,js.eq_2,Hw.eq_1,Hw.eq_2,Ok.eq_1,Ok.eq_2,Sh.ty.eq_1,Sh.ty.eq_2,Sh.ty.eq_3,Sh.ty.eq_4,Sh.ty.eq_5,Sh.ty.eq_6,Sh.ty.eq_7,Sh.mk.eq_1,Sh.mk.eq_2,Sh.mk.eq_3,Sh.mk.eq_4,Sh.mk.eq_5,Sh.mk.eq_6,Sh.mk.eq_7,HA.eq_1,SV.Vj.eq_def,AV.Vj.eq_1,AV.Vj.eq_2,Gs.eq_1,Vz.eq_1,Vz.eq_2,TN.eq_1,TN.eq_2,kld.eq_1,klc.eq_1,kxc.eq_1,kxs.eq_1,krc.eq_1,kal.eq_1,kam.eq_1,pa.eq_1,p3.eq_1,p2.eq_1,Sb.eq_1,Vr.eq_1,khi.eq_1,klo.eq_1,YX.eq_1,kxt.eq_1,krt.eq_1,krs.eq_1,Vs.eq_1,kbs.eq_1,kcp.eq_1,kw.eq_1,kr.eq_1,ky.eq_1,kn.eq_1,dr1.eq_1,dry.eq_1,ZK.eq_1,dr2.eq_1,dwy.eq_1,dra.eq_1,kq.eq_1,ks.eq_def,kc.eq_def,ki.eq_1,kb.eq_def,ke.eq_def,kl.eq_1,kR.eq_def,kx.eq_1,kz.eq_1,kf.eq_def,Oq.eq_1,YK,T0,RY,RU,V0,V1,Wb,TX,YH,TY,V7,TZ,TV,TW,V9,Wc,RT,T4,RW,RX,YJ,YI,VW,VX,exI,exU,exB,YP,exP,exF,exM,alI,alU,alB,Yz,alP,alF,alM,cU8,z0,z1,tb,VY,b1,b2,b3,b4,b5,b6,T5,T9,YN,YM,YL,VZ,V2];simp[cG,fD,jF,LQ.eq_1,LQ.eq_2,rg1,rg2,rg3,rg4,rg5,rg6,rg7];exact Tg.lf _) (by refine Tg.pm2.trans ?_;dsimp -zeta+instances only[↓Sf,ile,↓YV,nze,nce,Hw,Ok,Sh.ty,Int.cast_ofNat_Int]);trivial)
 (j:X=Th cq VT GL A n e c a m R:=by kernel_rfl)
 :X->aM cq f g m R:=λh=>by
 subst o
 exact qP Mw Yd Yi k (rV Prod.fst d) (rV (λx=>x.2.1) d) (rV (λx=>x.2.2) d) i (lM l) hd (j▸h)
end
section
open Tryz
variable{m:E}{R:Value->E->Prop}
variable{a b c d e f g h p q r u v w x y:O}{i j k l n o s t z A B C D F G H:Int}
def Cn(a:O):=cZ m R ⟨[(5,[(9,.I)])],[(4,[(8,.P)])],[(4,[50,48,47]),(5,[50,48,47])]⟩ [.agg [a,b],.agg [i,j,k,l,c,d,e],n] func19
end
section
open Tryz
variable{m:E}{R:Value->E->Prop}
variable{a b c d e f g h p q r u v w x y:O}{i j k l n o s t z A B C D F G H:Int}
def yN(a:O):=cZ m R A0 [.agg [a,b],.agg [i,j,k,l,c,d,e]] func21
def zZ(a:O):=cZ m R A0 [a] func22
def xJ(a:O):=cZ m R A0 [a] func24
def Es(a:O):=cZ m R A0 [.agg [a,b],i] func26
def yL(a:O):=cZ m R A0 [.agg [a,b],i] func28
def Bf(a:O):=cZ m R A0 [a] func30
def Cq(a:O):=cZ m R ⟨[(3,[(3,.I),(8,.I)])],[],[]⟩ [a] func31
def yP(i:Int):=cZ m R ⟨[(3,[(20,.I)])],[],[(3,[52,53])]⟩ [.agg [i,j,k,l,a,b,c]] func32
def wm(p:Nat×Nat):=cZ m R ⟨[],[(5,[(4,.T)])],[(5,[91])]⟩ [p] func33
def wR(p:Nat×Nat):=cZ m R A0 [p] func36
def zn(p:Nat×Nat):=cZ m R A0 [p,a] func39
def xX(p:Nat×Nat):=cZ m R A0 [p,i] func40
end
section
open Tryz
variable{m:E}{R:Value->E->Prop}
variable{a b c d e f g h p q r u v w x y:O}{i j k l n o s t z A B C D F G H:Int}
def EK(i:Int):=cZ m R A0 [i,j,k] func41
def yM(a:O):=cZ m R ⟨[(5,[(20,.I)]),(13,[(66,.I)])],[(12,[])],[(5,[82,80]),(12,[85,82,80]),(13,[85,82,80])]⟩ [.agg [a,b]] func43
def yV(a:O):=cZ m R ⟨[(10,[(95,.I)]),(20,[(158,.I)])],[(3,[]),(16,[]),(24,[])],[(3,[191,190]),(10,[191,190]),(16,[197,191,190]),(20,[191,190]),(24,[191,190])]⟩ [.agg [a,b],.agg [i,j,k,l,c,d,e]] func44
def Ab(a:O):=cZ m R A0 [a] func45
def Ai(a:O):=cZ m R ⟨[(3,[(3,.I),(8,.I)])],[],[]⟩ [a] func46
def uw(a:O):=cZ m R A0 [a] func47
def yU(a:O):=cZ m R A0 [.agg [a,b],i] func48
def Aa(p:Nat×Nat):=cZ m R ⟨[(4,[(31,.I)])],[],[(4,[49])]⟩ [p,.agg [i,j,k,l,a,b,c]] func49
def xA(s:Nat×Nat)(a:Int)(jO:Bool):=cZ m R A0 [s,a,.c (.t jO)] func50
def zt(a:O):=cZ m R ⟨[(4,[(3,.I)])],[],[(4,[30])]⟩ [.agg [a,b]] func51
def Fa(a:O):=cZ m R ⟨[(3,[])],[],[(3,[73,71])]⟩ [.agg [a,b],i] func52
def Cw(p:Nat×Nat):=cZ m R A0 [p] func53
def tQ(a:O):=cZ m R A0 [a] func56
def Ae(a:O):=cZ m R ⟨[(3,[(10,.I)])],[],[]⟩ [a] func57
def mL(a:O):=cZ m R A0 [a] func58
end
section
open Tryz
variable{m:E}{R:Value->E->Prop}
variable{a b c d e f g h p q r u v w x y:O}{i j k l n o s t z A B C D F G H:Int}
def xE(p q:Nat×Nat):=cZ m R ⟨[(4,[(28,.I)]),(14,[(65,.I)])],[(13,[])],[(4,[212,211]),(13,[212,211]),(14,[212,211])]⟩ [p,q,.agg [i,j,k,l,a,b]] func59
def yS(p q:Nat×Nat):=cZ m R ⟨[(3,[(24,.I)])],[],[(3,[353])]⟩ [p,q,.agg [i,j,k,l,a,b]] func60
def nJ(a:O):=cZ m R A0 [a] func66
def GK(i:Int):=cZ m R A0 [i] func68
def CX(i:Int):=cZ m R ⟨[(3,[(6,.I)])],[],[(3,[42])]⟩ [.agg [i,j,k,a,b,c],d] func69
def Fc(a:O):=cZ m R ⟨[(4,[(5,.S),(6,.I)])],[(3,[(30,.T)])],[(3,[70,69]),(4,[70,69])]⟩ [.agg [a,b],.agg [i,j,k,l,c,d]] func70
def uD(p:Nat×Nat):=cZ m R ⟨[],[(3,[])],[(3,[226,225])]⟩ [p,.agg [i,j,k,a,b,c],.agg [l,n,o,s,d,e],f] func71
def tW(p:Nat×Nat):=cZ m R A0 [p,.agg [i,j,k,a,b,c],.agg [l,n,o,s,d,e]] func72
def Ah(a:O):=cZ m R ⟨[(5,[(18,.I)])],[],[(5,[43,42])]⟩ [.agg [a,b]] func74
def pR(a:O):=cZ m R ⟨[(6,[(88,.I)])],[(5,[])],[(5,[147,146,145,144]),(6,[147,146,145,144])]⟩ [.agg [a,b],.agg [c,d,i,j,e],k,.agg [l,n,o,s,f,g]] func75
def HK(i:Int):=cZ m R A0 [i] func76
end
section
open Tryz
variable{m:E}{R:Value->E->Prop}
variable{a b c d e f g h p q r u v w x y:O}{i j k l n o s t z A B C D F G H:Int}
def xD(a:O):=cZ m R ⟨[(3,[(26,.I)]),(8,[(37,.I)]),(21,[(12,.S),(73,.I)]),(28,[(12,.S),(13,.I)]),(33,[(12,.S),(127,.I)])],[(17,[])],[(8,[165]),(33,[175])]⟩ [a] func77
def px(s:O)(f:Fn×Array Value×Array Value):=cZ m R A0 [s,.c (.fv f)] func78
def wy(i:Int):=cZ m R A0 [i] func79
def yQ(a:O):=cZ m R ⟨[(7,[(63,.I)])],[],[(7,[97,95,94])]⟩ [.agg [a,b],.agg [i,j,k,c,d,e]] func80
def xy(i:Int):=cZ m R ⟨[(2,[(17,.I)])],[(9,[])],[(2,[82]),(9,[82])]⟩ [.agg [i,j,k,a,b,c],d,e,f] func81
def De(p:Nat×Nat):=cZ m R A0 [p] func82
def Cs(a:O):=cZ m R A0 [.agg [a,b],i,j] func83
def BC(a:O):=cZ m R ⟨[(4,[(3,.I)])],[],[(4,[65])]⟩ [.agg [a,b]] func84
def yd(a:O):=cZ m R ⟨[(3,[(4,.I)])],[],[(3,[37,36])]⟩ [.agg [a,b]] func85
def BA(a:O):=cZ m R ⟨[(5,[(6,.I)])],[],[(5,[62,61])]⟩ [.agg [a,b],.agg [c,d,i,j,e]] func86
def zr(a:O):=cZ m R A0 [.agg [a,b],i] func87
def vA(p q:Nat×Nat):=cZ m R A0 [p,q] func88
def vB(p q:Nat×Nat):=cZ m R A0 [p,q,i,j] func89
def AT(p:Nat×Nat):=cZ m R A0 [p] func90
def AF(p:Nat×Nat):=cZ m R ⟨[(3,[(6,.I)])],[],[(3,[57,56,55])]⟩ [p,.agg [a,b]] func91
def zp(p:Nat×Nat):=cZ m R A0 [p,.agg [a,b],i] func92
def tf(p:Nat×Nat):=cZ m R A0 [p,a] func93
def nj(a:O):=cZ m R A0 [a] func94
end
section
open Tryz
variable{m:E}{R:Value->E->Prop}
variable{a b c d e f g h p q r u v w x y:O}{i j k l n o s t z A B C D F G H:Int}
def sT(p:Nat×Nat):=cZ m R ⟨[(15,[(4,.S),(5,.S),(31,.I)])],[],[(15,[62])]⟩ [p,.agg [i,j,k,l,a,b]] func95
def wu(i:Int):=cZ m R A0 [i] func96
def uq(p:Nat×Nat):=cZ m R A0 [p,i] func97
def vu(p:Nat×Nat):=cZ m R A0 [i,p] func98
def DZ(a:O):=cZ m R A0 [a] func99
def sV(p q:Nat×Nat):=cZ m R A0 [p,q,.agg [i,j,k,l,a,b]] func100
def rD(p q:Nat×Nat):=cZ m R ⟨[(14,[(10,.S),(74,.I)])],[],[(14,[125,121])]⟩ [p,q,.agg [i,j,k,l,a,b]] func101
def tC(p q:Nat×Nat):=cZ m R A0 [p,q,.agg [i,j,k,l,a,b]] func102
def zY(p:Nat×Nat):=cZ m R A0 [p,i,j,k] func103
def sk(p q:Nat×Nat):=cZ m R A0 [p,q,.agg [i,j,k,l,a,b]] func104
def vr(p:Nat×Nat):=cZ m R A0 [p,i,a] func105
def xz(p:Nat×Nat):=cZ m R ⟨[(3,[(13,.I)])],[],[]⟩ [p,a] func106
def Af(p:Nat×Nat):=cZ m R ⟨[(1,[(4,.S)])],[],[]⟩ [p,i] func107
def wj(p q:Nat×Nat):=cZ m R ⟨[(5,[(39,.I)])],[],[(5,[58])]⟩ [p,q,.agg [i,j,k,l,a,b]] func108
def wt(i:Int):=cZ m R A0 [i] func109
def tS(a:O):=cZ m R ⟨[(2,[(8,.I)])],[],[]⟩ [a,i] func110
def FY(a:O):=cZ m R ⟨[(6,[(6,.S),(28,.I)])],[],[]⟩ [a,i] func111
def wi(p:Nat×Nat):=cZ m R ⟨[(9,[(63,.I)])],[(7,[(9,.I)])],[(7,[111]),(9,[114,111])]⟩ [p,i,a,.agg [j,k,l,n,b,c]] func112
end
section
open Tryz
variable{m:E}{R:Value->E->Prop}
variable{a b c d e f g h p q r u v w x y:O}{i j k l n o s t z A B C D F G H:Int}
def vt(a:Nat×Nat)(w:Int)(dQ:Bool):=cZ m R ⟨[(13,[(69,.I)])],[(5,[])],[]⟩ [a,w,.c (.t dQ)] func113
def sU(p:Nat×Nat):=cZ m R A0 [p,i] func114
def AY(i:Int):=cZ m R A0 [i] func119
def sK(i:Int):=cZ m R A0 [i] func121
def EP(a:O):=cZ m R A0 [.agg [a,b],.agg [i,j,k,l,c,d],n] func122
def wT(a:O):=cZ m R ⟨[(2,[(3,.I)])],[],[]⟩ [a] func123
def Kf(i:Int):=cZ m R A0 [i] func124
def y8(i:Int):=cZ m R ⟨[(2,[(5,.I)])],[],[(2,[26,25])]⟩ [.agg [i,j,k,a,b,c],.agg [l,n,o,s,d,e]] func125
def tc(p:Nat×Nat):=cZ m R A0 [p,.agg [i,j,k,a,b,c],.agg [l,n,o,s,d,e]] func126
def sZ(p:Nat×Nat):=cZ m R ⟨[(2,[(7,.I)])],[],[(2,[51,50])]⟩ [p,.agg [i,j,k,a,b,c],.agg [l,n,o,s,d,e]] func127
def Ew(a:O):=cZ m R ⟨[(2,[(3,.I)])],[],[]⟩ [a] func128
def ta(p:Nat×Nat):=cZ m R A0 [p,i] func129
def GM(a:O):=cZ m R A0 [a,i] func130
end
section
open Tryz
variable{m:E}{R:Value->E->Prop}
variable{a b c d e f g h p q r u v w x y:O}{i j k l n o s t z A B C D F G H:Int}
def uA(p:Nat×Nat):=cZ m R A0 [p,i] func131
def tV(p:Nat×Nat):=cZ m R A0 [p,.agg [i,j,k,a,b,c],.agg [l,n,o,s,d,e]] func132
def JZ(a:O):=cZ m R ⟨[(2,[(5,.I)])],[],[]⟩ [a,i] func133
def uW(a:O):=cZ m R ⟨[(5,[(5,.S),(6,.I)])],[],[]⟩ [a,i] func134
def uF(p:Nat×Nat):=cZ m R A0 [p,i,j] func135
def Kc(i:Int):=cZ m R A0 [i,j,k] func136
def sC(p:Nat×Nat):=cZ m R ⟨[],[(5,[(8,.I)])],[(5,[75,74])]⟩ [p,.agg [i,j,k,a,b,c],.agg [l,n,o,s,d,e],t] func137
def CD(a:O):=cZ m R ⟨[(3,[(3,.I),(4,.I)])],[],[]⟩ [a] func138
def vG(p:Nat×Nat):=cZ m R ⟨[],[(10,[(6,.I),(7,.S)])],[(10,[128,127])]⟩ [p,.agg [i,j,k,a,b,c],.agg [l,n,o,s,d,e]] func139
def vH(p:Nat×Nat):=cZ m R A0 [p,.agg [i,j,k,a,b,c],l] func140
def vI(p:Nat×Nat):=cZ m R ⟨[(1,[(4,.I)])],[],[]⟩ [p,a] func141
def pp(p:Nat×Nat):=cZ m R A0 [p,i] func142
def AP(a:O):=cZ m R ⟨[(2,[(5,.S)])],[],[]⟩ [a,b] func143
def td(p:Nat×Nat):=cZ m R ⟨[(4,[(8,.I)])],[],[(4,[111,110])]⟩ [p,.agg [i,j,k,a,b,c],.agg [l,n,o,s,d,e]] func144
def uE(p:Nat×Nat):=cZ m R A0 [p,i,j] func145
def CJ(a:O):=cZ m R ⟨[(3,[(5,.I),(6,.I)])],[],[]⟩ [a,i] func146
def Aj(a:O):=cZ m R ⟨[(4,[(39,.I)]),(9,[(64,.I)])],[],[(9,[108])]⟩ [a,b] func147
def oN(p q:Nat×Nat):=cZ m R A0 [i,p,q] func148
end
section
open Tryz
variable{m:E}{R:Value->E->Prop}
variable{a b c d e f g h p q r u v w x y:O}{i j k l n o s t z A B C D F G H:Int}
def oO(p:Nat×Nat):=cZ m R A0 [i,p] func149
def qJ(b c:O)(d e f g:Int)(h i:O)(a:Fn×Array Value×Array Value):=cZ m R A0 [.agg [b,c],.agg [d,e,f,g,h,i],.c (.fv a)] func150
def sq(a:O):=cZ m R A0 [.agg [a,b],.agg [i,j,k,l,c,d]] func151
def Ad(a:O):=cZ m R ⟨[(6,[(48,.I)])],[(5,[])],[(5,[69]),(6,[69])]⟩ [a,.agg [i,j,b]] func152
def Gd(a:O):=cZ m R A0 [a,i] func153
def qL(s:O)(f:Fn×Array Value×Array Value):=cZ m R ⟨[(2,[(8,.I)])],[],[]⟩ [s,.c (.fv f)] func154
def zA(a:O):=cZ m R ⟨[(4,[(3,.I)])],[],[]⟩ [a] func155
def Cu(a:O):=cZ m R ⟨[(2,[(5,.I)])],[],[]⟩ [a,b] func156
def Bz(a:O):=cZ m R ⟨[(2,[(5,.I)])],[],[]⟩ [a,b] func157
def zw(a:O):=cZ m R ⟨[(4,[(9,.I)])],[(10,[])],[(4,[241,238,237]),(10,[241,238,237])]⟩ [.agg [a,b],.agg [c,d,i,j,e],k] func158
def EI(a:O):=cZ m R A0 [.agg [a,b],i,j,c,d] func159
def Bc(a:O):=cZ m R ⟨[(3,[(3,.I),(4,.I)])],[],[]⟩ [a] func160
def vD(a:O):=cZ m R ⟨[(3,[(5,.I),(6,.I)])],[],[]⟩ [a,i] func161
def EH(a:O):=cZ m R ⟨[(3,[(4,.I)])],[],[(3,[75,74])]⟩ [.agg [a,b]] func162
def wG(p:Nat×Nat):=cZ m R ⟨[],[(4,[]),(6,[]),(9,[]),(11,[])],[(4,[37]),(6,[37]),(9,[37]),(11,[37])]⟩ [p] func163
def Bu(a:O):=cZ m R ⟨[(3,[(4,.I)])],[],[(3,[45,44])]⟩ [.agg [a,b]] func164
def AL(a:O):=cZ m R ⟨[(3,[(4,.I)]),(8,[(6,.S),(7,.I)])],[],[(3,[62,61]),(8,[65,62,61])]⟩ [.agg [a,b]] func165
def AE(p:Nat×Nat):=cZ m R A0 [p,.agg [i,j,k,l,a,b]] func166
end
end Go.Proofs.YtkoifinbblcbiaaGreat
