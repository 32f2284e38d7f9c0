/- Part of a proof. -/
import Derived.KernelRfl
import Derived.Laws.Append
import Derived.Laws.Cells
import Derived.Laws.Entries
import Derived.Laws.IdiomCopy
import Derived.Orders
import Derived.OrdersHeld
import Derived.Still
import Derived.Tactics
import Derived.Test.YtdalfjkmdekijaaGreatProg
set_option linter.all false
set_option maxHeartbeats 8000000
set_option maxRecDepth 100000
namespace Go.Vc
def ad:=@Nat.le_refl
def ae:=@if_neg
def ah:=@List.mem_cons_of_mem
def ao:=@if_pos
def ap:=@beq_eq_false_iff_ne
def aq:=@decide_eq_true_eq
def ay:=@List.getElem?_append_left
def aI:=@List.getElem?_append_right
def aL:=@Nat.lt_of_lt_of_le
def aO:=@beq_iff_eq
def aU:=@List.length_append
def aW:=@List.mem_cons
def aX:=@Nat.lt_or_ge
def aY:=@List.length_cons
def aZ:=@List.mem_cons_self
def br:=@Nat.eq_of_beq_eq_true
def bz:=@List.mem_append_left
def bD:=@decide_eq_false_iff_not
def bG:=@Nat.zero_add
def bJ:=@Nat.le_trans
def bK:=@Bool.and_eq_true
def bT:=@List.getElem?_map
def bV:=@List.getElem?_eq_none
def bW:=@Bool.or_eq_false_iff
def cA:=@List.map_cons
def cD:=@Bool.or_eq_true
def cE:=@List.length_nil
def cO:=@List.mem_or_eq_of_mem_set
def cT:=@Nat.mul_one
def db:=@List.cons_append
def dh:=@Int.le_refl
def dq:=@List.mem_of_mem_take
def dt:=@Nat.mul_le_mul_right
def dw:=@List.mem_append_right
def dx:=@List.take_append_drop
def dy:=@Nat.zero_le
def dz:=@List.getElem?_take_of_lt
def dD:=@List.take_of_length_le
def dP:=@List.length_map
def dQ:=@List.getElem?_set_self
def dR:=@Nat.add_assoc
def dT:=@List.getElem?_set_ne
def dX:=@List.nil_append
def eJ:=@List.length_take
def eL:=@List.append_nil
def eM:=@List.ext_getElem?
def eU:=@Classical.byContradiction
def eX:=@List.map_append
def fe:=@List.append_assoc
def fg:=@List.map_nil
def ft:=@Bool.false_eq_true
def fy:=@Classical.choose_spec
def fP:=@List.mem_singleton
def fW:=@Nat.not_lt_zero
def fZ:=@Nat.add_mul
def gC:=@Bool.not_eq_true'
def gJ:=@List.getElem?_cons_succ
def gX:=@Classical.em
def gY:=@List.take_length
def ig:=@bne_eq_false_iff_eq
def ik:=@List.getElem?_set
def il:=@List.length_filter_le
def iE:=@List.dropLast_concat_getLast
def iF:=@List.length_set
def iQ:=@List.set_cons_succ
def iR:=@List.set_cons_zero
def iS:=@Nat.eq_zero_or_pos
def iV:=@List.mem_of_getElem?
def iW:=@List.not_mem_nil
def iX:=@gt_iff_lt
def jk:=@List.flatten_cons
def jm:=@List.getD_eq_getElem?_getD
def jo:=@Nat.add_zero
def jq:=@Option.map_eq_some_iff
def jr:=@cond_true
def jv:=@Nat.min_eq_left
def jC:=@Array.getElem?_setIfInBounds_ne
def kE:=@Ne.symm
def kW:=@Array.getElem?_modify
def kX:=@List.getElem?_toArray
def kY:=@Nat.le_of_ble_eq_true
def lC:=@List.drop_eq_getElem_cons
def lD:=@Bool.eq_iff_iff
def lE:=@List.mem_append
def lF:=@Option.map_some
def lG:=@Option.some.inj
def lO:=@List.flatMap_cons
def lV:=@cond_false
def mF:=@List.map_toArray
def mG:=@if_false
def mM:=@List.getLast?_eq_some_getLast
def mN:=@List.take_append_of_le_length
def mS:=@List.getElem?_take
def mT:=@Nat.lt_of_le_of_lt
def nT:=@List.sizeOf_lt_of_mem
def om:=@Int.toNat_natCast
def ou:=@Nat.le_succ_of_le
def pv:=@Int.tdiv_eq_ediv_of_nonneg
def pB:=@Nat.le_of_eq
def pC:=@Nat.succ_mul
def pD:=@Option.getD_some
def pZ:=@List.length_take_le
def p7:=@List.replicate_succ
def rj:=@List.getElem?_drop
def rI:=@List.getElem?_cons_zero
def tg:=@Int.lt_or_le
def th:=@List.drop_of_length_le
def tj:=@List.map_set
def tm:=@congrArg
def uH:=@bne_iff_ne
def uI:=@ge_iff_le
def uJ:=@not_or
def xA:=@Array.getElem?_push
def xB:=@List.flatten_append
def xC:=@List.getElem?_range
def yy:=@Array.getD_eq_getD_getElem?
def AF:=@Array.ext_getElem?
def AG:=@or_false
def CJ:=@Iff.rfl
def CK:=@List.size_toArray
def CL:=@Option.some.injEq
def Ee:=@List.set_eq_of_length_le
def Ge:=@Nat.add_sub_cancel_left
def Gf:=@Nat.le_of_not_lt
def HT:=@Array.getElem?_eq_none
def Js:=@List.concat_eq_append
def Jt:=@List.eq_nil_or_concat
def Lt:=@Bool.not_false
def Lu:=@List.take_take
def Ly:=@if_true
def Mq:=@List.length_reverse
def Mr:=@List.take_succ_cons
def Ms:=@Nat.testBit_two_pow
def Nh:=@Bool.not_true
def Ni:=@Bool.true_and
def Nj:=@List.all_cons
def Nk:=@List.map_take
def Nl:=@Prod.mk.injEq
def Ot:=@List.filter_append
def Oz:=@List.set_eq_take_append_cons_drop
def PK:=@List.any_nil
def PL:=@List.findIdx_lt_length_of_exists
def PM:=@Nat.le_of_lt
def PN:=@Nat.zero_mul
def Se:=@List.range_succ
def Sk:=@dif_pos
def Un:=@List.mapM_cons
def Uo:=@Nat.eq_of_mul_eq_mul_right
def Up:=@Nat.mul_le_mul
def Uq:=@Nat.testBit_or
def Ux:=@Array.mapM_eq_mapM_toList
def Vv:=@Array.getElem?_replicate
def Vw:=@Bool.false_or
def Vx:=@Bool.or_false
def Vy:=@List.eq_of_mem_replicate
def Xf:=@List.map_map
def Xg:=@List.mem_map
def Xh:=@Nat.sub_zero
def Xt:=@Array.getElem?_mapIdx
def Xu:=@Array.getElem?_toList
def Xv:=@List.set_append_right
def Xw:=@Nat.ble_eq_true_of_le
def Y7:=@Int.add_mul
def Y8:=@List.mem_of_mem_drop
def Y9:=@List.set_append_left
def Zo:=@Array.length_toList
def Zp:=@Array.toList_zipIdx
def Zq:=@List.map_congr_left
def aag:=@Array.foldl_toList
def aah:=@Bool.not_eq_false'
def aai:=@decide_eq_true_iff
theorem dit{p A B:Prop}{i:Decidable p}(f:p->A)(g:¬p->B):(decide p=true->A)/\(decide p=false->B):=⟨λh=>f (of_decide_eq_true h),λh=>g (of_decide_eq_false h)⟩
theorem V{p:Prop}(h:p:=by omega):p:=h
theorem aJ{p:Prop}(h:p:=by simp):p:=h
theorem bo{p:Prop}(h:p:=by decide):p:=h
theorem bS{p:Prop}(h:p:=by simp;omega):p:=h
end Go.Vc
section
namespace Go.Vc
variable{n:Nat}{a:Act}
abbrev E:=Array Obj
def af(m:E)(b o:Nat):Option Value:=
 match m[b]? with
 |some (.cells c _ _)=>c[o]?
 |_=>none
def uT(m:E)(b o:Nat):Bool:=
 match m[b]? with
 |some (.cells _ _ (c,a))=>c<=o&&o<a
 |_=>false
def qE(m:E)(b o:Nat)(v:Value):E:=
 m.modify b λ
  | .cells c e f=>.cells (c.setIfInBounds o v) e f
  |x=>x
def yI(w:World)(b o:Nat):w.cell? ⟨b,o,none⟩=af w.heap b o:=by
 simp only[World.cell?,af];cases h:w.heap[b]? with
 |none=>rfl
 |some x=>cases x<;>simp
def Qe(w:World)(b o:Nat):w.frozen? ⟨b,o,none⟩=uT w.heap b o:=by
 simp only[World.frozen?,uT];cases h:w.heap[b]? with
 |none=>rfl
 |some x=>cases x<;>simp
def NY(w:World)(b o:Nat)(v:Value):(w.setCell ⟨b,o,none⟩ v).heap=qE w.heap b o v:=by
 simp only[World.setCell,qE];congr 1
structure oI(w w':World):Prop where
 os:w'.os=w.os
 tape:w'.tape=w.tape
 output:w'.output=w.output
def oI.aH(w:World):oI w w:=⟨rfl,rfl,rfl⟩
def oI.trans{a b c:World}(h:oI a b)(k:oI b c):oI a c:=⟨k.os.trans h.os,k.tape.trans h.tape,k.output.trans h.output⟩
def aP(P:Program)(f:FuncId)(b:List Value)(m:E)(K:Value->E->Prop):Prop:=
 ∀w:World,w.heap=m->Calls P f b.toArray w λe a=>∃v,e=.returned v/\oI w a/\K v a.heap
def aP.mono{P:Program}{f:FuncId}{b:List Value}{m:E}{K a:Value->E->Prop}(h:aP P f b m K)
 (e:∀v c,K v c->a v c):aP P f b m a:=
 λw i=>(h w i).mono λ_ _⟨v,d,g,c⟩=>⟨v,d,g,e _ _ c⟩
inductive O where
 |nil
 |mk (b o len cap:Nat)
 |CS (b o sp:Nat)
def O.v:O->Value
 | .nil=>.slice none 0 0
 | .mk b o l c=>.slice (some ⟨b,o,none⟩) l c
 | .CS b o a=>.slice (some ⟨b,o,some a⟩) 0 0
def O.len:O->Nat
 | .nil=>0
 | .mk _ _ l _=>l
 | .CS _ _ _=>0
def O.cap:O->Nat
 | .nil=>0
 | .mk _ _ _ c=>c
 | .CS _ _ _=>0
def O.aC:O->Nat
 | .nil=>0
 | .mk b _ _ _=>b
 | .CS b _ _=>b
def O.off:O->Nat
 | .nil=>0
 | .mk _ o _ _=>o
 | .CS _ o _=>o
@[simp] theorem O.Re (b o sp:Nat):(O.CS b o sp).len=0:=rfl
@[simp] theorem O.UO (b o sp:Nat):(O.CS b o sp).cap=0:=rfl
@[simp] theorem O.NN:O.nil.len=0:=rfl
@[simp] theorem O.UP:O.nil.cap=0:=rfl
@[simp] theorem O.Ze:O.nil.aC=0:=rfl
@[simp] theorem O.Zk:O.nil.off=0:=rfl
@[simp] theorem O.dU (b o l c:Nat):(O.mk b o l c).len=l:=rfl
@[simp] theorem O.ND (b o l c:Nat):(O.mk b o l c).cap=c:=rfl
@[simp] theorem O.fO (b o l c:Nat):(O.mk b o l c).aC=b:=rfl
@[simp] theorem O.jg (b o l c:Nat):(O.mk b o l c).off=o:=rfl
def O.EM:O->Bool
 | .nil=>true
 | .mk _ _ _ _=>false
 | .CS _ _ _=>false
@[simp] theorem O.Xo:O.nil.EM=true:=rfl
@[simp] theorem O.Xn (b o sp:Nat):(O.CS b o sp).EM=false:=rfl
@[simp] theorem O.Yo (b o l c:Nat):(O.mk b o l c).EM=false:=rfl
def O.cL:O->Option Addr
 | .nil=>none
 | .mk b o _ _=>some ⟨b,o,none⟩
 | .CS b o a=>some ⟨b,o,some a⟩
def O.Xd(s:O):s.v=.slice s.cL s.len s.cap:=by cases s<;>rfl
inductive Ce where
 |i (n:Int)
 |u (k:IntKind) (n:Int)
 |t (x:Bool)
 |s (x:O)
 |p (b o:Nat)
 |pn
 |fn (f:Fn) (first captured:Array Value)
 |fv (q:Fn×Array Value×Array Value)
 |nf
 |str (x:ByteArray)
 |mp (b:Nat)
 |mn
 |bp (k b o:Nat)
def Ce.v:Ce->Value
 | .i n=>.int .i64 n
 | .u k n=>.int k n
 | .t x=>.bool x
 | .s x=>x.v
 | .p b o=>.pointer (some ⟨b,o,none⟩)
 | .pn=>.pointer none
 | .fn f a c=>.func f a c
 | .fv q=>.func q.1 q.2.1 q.2.2
 | .nf=>.nilFunc
 | .str x=>.string x
 | .mp b=>.map (some b)
 | .mn=>.map none
 | .bp _ b o=>.pointer (some ⟨b,o,none⟩)
inductive AV where
 |c (x:Ce)
 |agg (l:List Ce)
def AV.v:AV->Value
 | .c x=>x.v
 | .agg l=>.agg (l.map Ce.v).toArray
inductive SV where
 |c (x:Ce)
 |tt
 |ff
 |agg (l:List Ce)
 |Xc (l:List AV)
 |un
 |iP
 |box (b e:Nat) (l:List Ce)
 |yG (b e:Nat) (l:List Ce)
def SV.v:SV->Value
 | .c x=>x.v
 | .tt=>.bool true
 | .ff=>.bool false
 | .agg l=>.agg (l.map Ce.v).toArray
 | .Xc l=>.tuple (l.map AV.v).toArray
 | .un=>undef
 | .iP=>undef
 | .box _ _ _=>undef
 | .yG _ _ _=>undef
def SV.Is:SV->Value->Prop
 | .iP,_=>True
 | .box _ _ _,_=>True
 | .yG _ _ _,_=>True
 |s,v=>v=s.v
def AV.sv:AV->SV
 | .c x=>.c x
 | .agg l=>.agg l
def AV.aae(x:AV):x.sv.v=x.v:=by cases x<;>rfl
abbrev Fr:=List (Nat×SV)
def gK:Fr->Nat->SV
 |[],_=>.iP
 |(u,x)::r,t=>bif Nat.beq u t then x else gK r t
def SV.nb:SV->SV
 | .box _ _ _=>.iP
 | .yG _ _ _=>.iP
 |x=>x
def tr(a:Fr)(d:Option Nat)(x:SV):Fr:=
 match d with
 |some d=>(d,x.nb)::a
 |none=>a
def SV.TM{x:SV}{v:Value}(h:x.Is v):x.nb.Is v:=by
 cases x<;>first|exact h|trivial
def Ce.lj(x:Ce):x.v.cells=#[x.v]:=by
 cases x with
 |s y=>cases y<;>rfl
 |_=>rfl
def jV:Value->Option Ce
 | .int .i64 n=>some (.i n)
 | .int k n=>some (.u k n)
 | .bool x=>some (.t x)
 | .slice none 0 0=>some (.s .nil)
 | .pointer none=>some .pn
 | .nilFunc=>some .nf
 | .string x=>some (.str x)
 |_=>none
def MG{x:Value}{c:Ce}(h:jV x=some c):c.v=x:=by
 unfold jV at h;split at h<;>simp at h<;>subst h<;>rfl
def oO:List Value->Option (List Ce)
 |[]=>some []
 |v::b=>match jV v,oO b with
  |some c,some a=>some (c::a)
  |_,_=>none
def JY:∀{b:List Value}{a:List Ce},oO b=some a->a.map Ce.v=b
 |[],_,h=>by simp[oO]at h;subst h;rfl
 |v::b,a,h=>by
  simp only[oO]at h;split at h
  .rename_i e f c d;simp at h;subst h;simp[MG c,JY d]
  .simp at h
def Es:Value->SV
 | .bool true=>.tt
 | .bool false=>.ff
 | .agg a=>match oO a.toList with
  |some l=>.agg l
  |none=>.iP
 | .tuple a=>bif a.toList.isEmpty then .un else .iP
 |v=>match jV v with
  |some c=>.c c
  |none=>.iP
def P2(x:Value):(Es x).Is x:=by
 unfold Es;split
 .rfl
 .rfl
 .rename_i a;split
  .rename_i l b;show Value.agg a=.agg (l.map Ce.v).toArray;rw[JY b]
  .trivial
 .rename_i a;cases h:a.toList.isEmpty
  .trivial
  .show Value.tuple a=undef;have:a=#[]:=by simpa using h
   rw[this];rfl
 .split
  .rename_i c a;exact(MG a).symm
  .trivial
def ev(a:Fr):Operand->SV
 | .tmp t=>(gK a t).nb
 | .const v=>Es v
 | .global g=>.c (.p g 0)
 | .func f=>.c (.fn (.func f) #[] #[])
structure jM(n:Nat)(fr:Fr)(a:Act):Prop where
 size:a.tmps.size=n
 defers:a.defers=[]
 aQ:∀t,(gK fr t).Is (a.tmps.getD t undef)
def jM.ev{b:Fr}(h:jM n b a)(x:Operand):(ev b x).Is (a.eval x):=by
 cases x with
 |tmp t=>exact SV.TM (h.aQ t)
 |const v=>exact P2 v
 |global g=>rfl
 |func f=>rfl
def jM.put{n:Nat}{b:Fr}{a:Act}(h:jM n b a){d:Option Nat}{x:SV}{v:Value}(g:x.Is v)(hd:∀t,d=some t->t<n):
 jM n (tr b d x) (a.put d v):=by
 cases d with
 |none=>exact h
 |some d=>
  refine⟨by simpa[Act.put]using h.size,h.defers,λt=>?_⟩
  have f:d<a.tmps.size:=by rw[h.size];exact hd d rfl
  simp only[tr,gK,Act.put]
  by_cases e:d=t
  .subst e
   simp only[Nat.beq_refl,jr]
   simpa[f]using SV.TM g
  .have:Nat.beq d t=false:=by
    cases c:Nat.beq d t
    .rfl
    .exact absurd (br c) e
   simp only[this,lV]
   have:=h.aQ t
   simpa[jC e]using this
def jM.cons{b:Fr}(h:jM n b a)(t:Nat){x:SV}(c:∀v,x.Is v):jM n ((t,x)::b) a:=by
 refine⟨h.size,h.defers,λu=>?_⟩;simp only[gK];cases d:Nat.beq t u
 .exact h.aQ u
 .exact c _
def jM.iP{b:Fr}(h:jM n b a)(t:Nat):jM n ((t,.iP)::b) a:=by
 refine⟨h.size,h.defers,λu=>?_⟩;simp only[gK];cases c:Nat.beq t u
 .exact h.aQ u
 .trivial
end Go.Vc
end
section
namespace Go.Vc
variable{P:Program}{t b e:Nat}
inductive Sh where
 |I
 |U (k:IntKind)
 |T
 |S
 |P
 |F
 |M
 deriving DecidableEq
abbrev Sh.ty:Sh->Type
 | .I=>Int
 | .U _=>Int
 | .T=>Bool
 | .S=>O
 | .P=>Nat×Nat
 | .F=>Fn×Array Value×Array Value
 | .M=>Nat
abbrev Sh.mk:(s:Sh)->s.ty->Ce
 | .I,n=>.i n
 | .U k,n=>.u k n
 | .T,x=>.t x
 | .S,x=>.s x
 | .P,q=>.p q.1 q.2
 | .F,v=>.fv v
 | .M,b=>.mp b
def Sh.zero:Sh->Ce
 | .I=>.i 0
 | .U k=>.u k 0
 | .T=>.t false
 | .S=>.s .nil
 | .P=>.pn
 | .F=>.nf
 | .M=>.mn
inductive TK where
 |cell
 |slice (elem:Nat)
 |struct (offs:List (Nat×Nat))
 |tuple (ts:List Nat)
 |map (key elem:Nat)
structure TI where
 GH:TK
 sh:List Sh
 bytes:Nat
abbrev TT:=List (Nat×TI)
def fx:TT->Nat->Option TI
 |[],_=>none
 |(u,x)::r,t=>bif Nat.beq u t then some x else fx r t
def N3:Sh->Value->Bool
 | .I,.int .i64 0=>true
 | .U k,.int a 0=>decide (k=a)
 | .T,.bool false=>true
 | .S,.slice none 0 0=>true
 | .P,.pointer none=>true
 | .F,.nilFunc=>true
 | .M,.map none=>true
 |_,_=>false
def N4{s:Sh}{v:Value}(h:N3 s v=true):v=s.zero.v:=by
 unfold N3 at h;split at h<;>first|rfl|(simp at h;subst h;rfl)|simp at h
def Ed:List Value->List Sh->Bool
 |[],[]=>true
 |v::b,s::a=>N3 s v&&Ed b a
 |_,_=>false
def AE:∀{b:List Value}{a:List Sh},Ed b a=true->b=a.map λs=>s.zero.v
 |[],[],_=>rfl
 |v::b,s::a,h=>by
  simp only[Ed,bK]at h;simp[N4 h.1,AE h.2]
 |[],_::_,h=>by simp[Ed]at h
 |_::_,[],h=>by simp[Ed]at h
def MP:List Field->List (Nat×Nat)->Bool
 |[],[]=>true
 |f::a,(o,t)::r=>Nat.beq f.offset o&&Nat.beq f.type t&&MP a r
 |_,_=>false
def Ku:∀{a:List Field}{b:List (Nat×Nat)},MP a b=true->a.map (λf=>(f.offset,f.type))=b
 |[],[],_=>rfl
 |f::a,(o,t)::r,h=>by
  simp only[MP,bK]at h;simp[br h.1.1,br h.1.2,Ku h.2]
 |[],_::_,h=>by simp[MP]at h
 |_::_,[],h=>by simp[MP]at h
def yZ:TypeDesc->List Sh->Bool
 | .bool,[.T]=>true
 | .int .i64,[.I]=>true
 | .int k,[.U k']=>decide (k=k')
 | .pointer _,[.P]=>true
 | .func ..,[.F]=>true
 |_,_=>false
def AN(i:TypeInfo)(a:TI)(b:Bool):Bool:=
 Nat.beq i.size a.sh.length&&Nat.beq i.bytes a.bytes&&
 (match i.zero with
  |some (.agg c)=>b&&Ed c.toList a.sh
  |some z=>!b&&Ed [z] a.sh
  |none=>false)
def Yz(t:Nat):Nat:=t+1000000
def UR(P:Program)(t:Nat):Bool:=
 match P.underlying t with
 |some (.struct a)=>a.toList.all (λf=>f.name != "_")&&!P.stoodInHeld t&&!P.eqGuardType P.depth t
 |_=>false
def xy(P:Program)(t:Nat)(a:TI):Bool:=
 match a.GH with
 | .tuple _=>if t<1000000 then true else UR P (t -1000000)
 | .slice e=>match P.info? t,P.underlying t with
  |some i,some (.slice b)=>Nat.beq e b&&AN i a false
  |_,_=>false
 | .struct d=>match P.info? t,P.underlying t with
  |some i,some (.struct c)=>MP c.toList d&&AN i a true
  |_,_=>false
 | .map k e=>match P.info? t,P.underlying t with
  |some i,some (.map c b)=>Nat.beq k c&&Nat.beq e b&&AN i a false
  |_,_=>false
 | .cell=>match P.info? t,P.underlying t with
  |some i,some d=>yZ d a.sh&&AN i a false
  |_,_=>false
def tI(P:Program)(T:TT):Prop:=T.all (λx=>xy P x.1 x.2)=true
def Pz:∀{T:TT}{t:Nat}{b:TI},fx T t=some b->(t,b)∈T
 |[],_,_,h=>by simp[fx]at h
 |(u,x)::r,t,b,h=>by
  simp only[fx]at h;cases a:Nat.beq u t
  .rw[a]at h;exact ah _ (Pz h)
  .rw[a]at h;have:=br a;simp at h;subst h;subst this;exact aZ
def tI.xy{T:TT}(h:tI P T){a:TI}(b:fx T t=some a):xy P t a=true:=
 List.all_eq_true.1 h _ (Pz b)
def tI.cmp{T:TT}(h:tI P T){l:List Nat}{c:List Sh}(a:fx T (Yz t)=some ⟨.tuple l,c,b⟩):UR P t=true:=by
 have:=h.xy a;simp only[Go.Vc.xy]at this;rw[ae (by unfold Yz;omega),show Yz t -1000000=t by unfold Yz;omega]at this;exact this
structure JK(P:Program)(t:Nat)(ti:TI)(agg:Bool):Prop where
 aal:∃i,P.info? t=some i/\i.size=ti.sh.length/\i.bytes=ti.bytes/\
  ∃z,i.zero=some z/\z.cells.toList=(ti.sh.map λs=>s.zero.v)/\(agg=false->∀cs,z≠.agg cs)
def rO{g:TI}{i:TypeInfo}{c:Bool}(j:P.info? t=some i)(h:AN i g c=true):JK P t g c:=by
 simp only[AN,bK]at h;refine⟨i,j,br h.1.1,br h.1.2,?_⟩;have a:=h.2;split at a
 .rename_i d b;simp only[bK]at a;exact⟨_,b,by simpa[Value.cells]using AE a.2,λf=>by rw[f]at a;simp at a⟩
 .rename_i z f b;simp only[bK]at a;refine⟨_,b,?_,λ_ d e=>f d (by rw[e])⟩;have:=AE a.2;rw[<-this];cases z<;>first|rfl|exact(f _ rfl).elim
 .simp at a
def jO{a:List Sh}(h:xy P t ⟨.slice e,a,b⟩=true):P.underlying t=some (.slice e)/\JK P t ⟨.slice e,a,b⟩ false:=by
 simp only[xy]at h;split at h
 .rename_i i f c d;simp only[bK]at h;have:=br h.1;subst this;exact⟨d,rO c h.2⟩
 .simp at h
def AX{k:Nat}{a:List Sh}(h:xy P t ⟨.map k e,a,b⟩=true):P.underlying t=some (.map k e)/\JK P t ⟨.map k e,a,b⟩ false:=by
 simp only[xy]at h;split at h
 .rename_i j l i f g;simp only[bK]at h;have c:=br h.1.1;have d:=br h.1.2;subst c;subst d;exact⟨g,rO f h.2⟩
 .simp at h
def mB{c:List (Nat×Nat)}{d:List Sh}(h:xy P t ⟨.struct c,d,b⟩=true):
 (∃a,P.underlying t=some (.struct a)/\a.toList.map (λf=>(f.offset,f.type))=c)/\JK P t ⟨.struct c,d,b⟩ true:=by
 simp only[xy]at h
 split at h
 .rename_i i a e f
  simp only[bK]at h
  exact⟨⟨a,f,Ku h.1⟩,rO e h.2⟩
 .simp at h
def np{a:List Sh}(h:xy P t ⟨.cell,a,b⟩=true):
 (∃d,P.underlying t=some d/\yZ d a=true)/\JK P t ⟨.cell,a,b⟩ false:=by
 simp only[xy]at h
 split at h
 .rename_i i d c e
  simp only[bK]at h
  exact⟨⟨d,e,h.1⟩,rO c h.2⟩
 .simp at h
def TI.agg(a:TI):Bool:=match a.GH with| .struct _=>true|_=>false
def TI.tS(a:TI):Bool:=match a.GH with| .tuple _=>true|_=>false
def jQ{T:TT}(f:tI P T){d:TI}(g:fx T t=some d)(j:d.tS=false)(w:World):
 (sizeOf t).run P w=.ok d.sh.length w:=by
 have h:=f.xy g
 obtain⟨GH,k,b⟩:=d
 have:∃i,P.info? t=some i/\i.size=k.length:=by
  cases GH with
  |cell=>obtain⟨_,⟨i,a,c,_⟩⟩:=np h;exact⟨i,a,c⟩
  |slice e=>obtain⟨_,⟨i,a,c,_⟩⟩:=jO h;exact⟨i,a,c⟩
  |map l e=>obtain⟨_,⟨i,a,c,_⟩⟩:=AX h;exact⟨i,a,c⟩
  |struct o=>obtain⟨_,⟨i,a,c,_⟩⟩:=mB h;exact⟨i,a,c⟩
  |tuple l=>simp[TI.tS]at j
 obtain⟨i,a,c⟩:=this
 simp[sizeOf,typeInfo,a,c]
def EV{T:TT}(g:tI P T){f:TI}(j:fx T t=some f)(k:f.tS=false):
 ∃i,i.bytes=f.bytes/\i.size=f.sh.length/\(∀w,(typeInfo t).run P w=.ok i w)/\P.info? t=some i:=by
 have h:=g.xy j
 obtain⟨GH,l,b⟩:=f
 have:∃i,P.info? t=some i/\i.size=l.length/\i.bytes=b:=by
  cases GH with
  |cell=>obtain⟨_,⟨i,a,c,d,_⟩⟩:=np h;exact⟨i,a,c,d⟩
  |slice e=>obtain⟨_,⟨i,a,c,d,_⟩⟩:=jO h;exact⟨i,a,c,d⟩
  |map m e=>obtain⟨_,⟨i,a,c,d,_⟩⟩:=AX h;exact⟨i,a,c,d⟩
  |struct o=>obtain⟨_,⟨i,a,c,d,_⟩⟩:=mB h;exact⟨i,a,c,d⟩
  |tuple m=>simp[TI.tS]at k
 obtain⟨i,a,c,d⟩:=this
 exact⟨i,d,c,λw=>by simp[typeInfo,a],a⟩
def vh{T:TT}(m:tI P T){k:TI}(n:fx T t=some k)(o:k.tS=false):
 ∃z,z.cells.toList=k.sh.map (λs=>s.zero.v)/\(∀w,(zeroValue t).run P w=.ok z w)/\(k.agg=false->∀a,z≠.agg a):=by
 have h:=m.xy n
 obtain⟨GH,l,b⟩:=k
 have:∃i,P.info? t=some i/\∃z,i.zero=some z/\z.cells.toList=(l.map λs=>s.zero.v)/\((TI.mk GH l b).agg=false->∀a,z≠.agg a):=by
  cases GH with
  |cell=>obtain⟨_,⟨i,a,g,j,z,c,d,f⟩⟩:=np h;exact⟨i,a,z,c,d,λ_=>f rfl⟩
  |slice e=>obtain⟨_,⟨i,a,g,j,z,c,d,f⟩⟩:=jO h;exact⟨i,a,z,c,d,λ_=>f rfl⟩
  |map p e=>obtain⟨_,⟨i,a,g,j,z,c,d,f⟩⟩:=AX h;exact⟨i,a,z,c,d,λ_=>f rfl⟩
  |struct p=>obtain⟨_,⟨i,a,g,j,z,c,d,f⟩⟩:=mB h;exact⟨i,a,z,c,d,λh=>by simp[TI.agg]at h⟩
  |tuple d=>simp[TI.tS]at o
 obtain⟨i,a,z,g,j,c⟩:=this
 exact⟨z,j,λw=>by simp[zeroValue,typeInfo,a,g],c⟩
def G6{T:TT}(d:tI P T){a:TI}(f:fx T t=some a)(g:a.tS=false)(w:World):
 (isAgg t).run P w=.ok a.agg w:=by
 have h:=d.xy f
 obtain⟨GH,j,b⟩:=a
 cases GH with
 |cell=>
  obtain⟨⟨i,hd,c⟩,_⟩:=np h
  unfold yZ at c
  split at c<;>first|(simp at c;done)|simp[isAgg,run_underlying hd,TI.agg]
 |slice e=>obtain⟨hd,_⟩:=jO h;simp[isAgg,run_underlying hd,TI.agg]
 |map k e=>obtain⟨hd,_⟩:=AX h;simp[isAgg,run_underlying hd,TI.agg]
 |struct o=>obtain⟨⟨c,hd,_⟩,_⟩:=mB h;simp[isAgg,run_underlying hd,TI.agg]
 |tuple c=>simp[TI.tS]at g
end Go.Vc
end
section
namespace Go.Vc
def kN:SV->Option Bool
 | .tt=>some true
 | .ff=>some false
 | .c (.t x)=>some x
 |_=>none
def SV.ju:SV->Bool
 | .iP=>false
 | .box _ _ _=>false
 | .yG _ _ _=>false
 |_=>true
def cQ(n:Int):Int:=IntKind.i64.wrap n
def GN{α:Type}:List α->Nat->Option α
 |[],_=>none
 |x::_,0=>some x
 |_::r,n+1=>GN r n
def oV{α:Type}:∀(l:List α)(n:Nat),GN l n=l[n]?
 |[],_=>by simp[GN]
 |x::_,0=>by simp[GN]
 |_::r,n+1=>by simp[GN,oV r n]
def VW(m:E)(b o:Nat):Nat->List Sh->(List Ce->Prop)->Prop
 |_,[],k=>k []
 |j,s::r,k=>∃x:s.ty,af m b (o+j)=some (s.mk x).v/\VW m b o (j+1) r λl=>k (s.mk x::l)
def Vt(a b:Int):Int:=cQ ((a%18446744073709551616).toNat^^^(b%18446744073709551616).toNat:Nat)
def qS(c:BinOp)(a b:Int)(k:SV->Prop):Prop:=
 match c with
 | .add=>k (.c (.i (cQ (a+b))))
 | .sub=>k (.c (.i (cQ (a -b))))
 | .mul=>k (.c (.i (cQ (a*b))))
 | .quo=>b≠0/\k (.c (.i (cQ (a.tdiv b))))
 | .rem=>b≠0/\k (.c (.i (a.tmod b)))
 | .xor=>k (.c (.i (Vt a b)))
 | .eql=>k (.c (.t (a==b)))
 | .neq=>k (.c (.t (a !=b)))
 | .lss=>k (.c (.t (decide (a<b))))
 | .leq=>k (.c (.t (decide (a<=b))))
 | .gtr=>k (.c (.t (decide (a>b))))
 | .geq=>k (.c (.t (decide (a>=b))))
 |_=>False
def UL(c:BinOp)(a b:Bool)(k:SV->Prop):Prop:=
 match c with
 | .eql=>k (.c (.t (a==b)))
 | .neq=>k (.c (.t (!(a==b))))
 |_=>False
def U8(a:BinOp)(s:O)(k:SV->Prop):Prop:=
 match a with
 | .eql=>k (.c (.t s.EM))
 | .neq=>k (.c (.t (!s.EM)))
 |_=>False
def Zn(a:UnOp)(x:SV)(k:SV->Prop):Prop:=
 match a,x with
 | .not,.tt=>k .ff
 | .not,.ff=>k .tt
 | .not,.c (.t b)=>k (.c (.t (!b)))
 | .neg,.c (.i n)=>k (.c (.i (cQ (0 -n))))
 |_,_=>False
def O.cut(x:O)(a d e:Nat):O:=
 match x with
 | .nil=>.nil
 | .mk b o _ c=>.mk b (if c=a then o else o+a*e) (d -a) (c -a)
 | .CS b o c=>.CS b o c
def SV.cells:SV->Option (List Ce)
 | .c x=>some [x]
 | .tt=>some [.t true]
 | .ff=>some [.t false]
 | .agg l=>some l
 |_=>none
def lI(l:List Ce)(b:Nat)(a:List Ce):List Ce:=
 match b,l with
 |0,l=>match a,l with
  |[],l=>l
  |n::a,_::l=>n::lI l 0 a
  |_::_,[]=>[]
 |b+1,x::l=>x::lI l b a
 |_+1,[]=>[]
termination_by structural l
def Ep(T:TT)(c:Fr)(e:List (Nat×Nat)):List Ce->List (Nat×Operand)->(List Ce->Prop)->Prop
 |a,[],k=>k a
 |a,(i,x)::r,k=>
  match GN e i,(ev c x).cells with
  |some (d,t),some b=>
   match fx T t with
   |some f=>bif !f.tS&&Nat.beq b.length f.sh.length&&Nat.ble (d+b.length) a.length then Ep T c e (lI a d b) r k else False
   |none=>False
  |_,_=>False
def uw(T:TT):List (Nat×Nat)->Bool
 |[]=>true
 |(_,t)::r=>(match fx T t with|some a=>!a.tS|none=>false)&&uw T r
def LX(a:Fr)(x:Option Operand)(d:Int)(k:Int->Prop):Prop:=
 match x with
 |none=>k d
 |some x=>match ev a x with
  | .c (.i n)=>k n
  |_=>False
def WQ(T:TT)(t:Nat)(s:O)(n:Int)(k:SV->Prop):Prop:=
 match fx T t with
 |some ⟨.slice e,_,_⟩=>match fx T e with
  |some a=>bif a.tS then False else 0<=n/\n<(s.len:Int)/\k (.c (.p s.aC (s.off+n.toNat*a.sh.length)))
  |none=>False
 |_=>False
def Pe(T:TT)(m:E)(t b o:Nat)(k:SV->Prop):Prop:=
 match fx T t with
 |some ⟨.struct _,a,_⟩=>VW m b o 0 a λl=>k (.agg l)
 |some ⟨.cell,[s],_⟩=>∃x:s.ty,af m b o=some (s.mk x).v/\k (.c (s.mk x))
 |some ⟨.slice _,[_],_⟩=>∃x:O,af m b o=some x.v/\k (.c (.s x))
 |_=>False
def QC(T:TT)(a:Fr)(t:Nat)(s:O)(d c:Option Operand)(k:SV->Prop):Prop:=
 match fx T t with
 |some ⟨.slice e,_,_⟩=>match fx T e with
  |some b=>bif b.tS then False else
   LX a d 0 λl=>LX a c (s.len:Int) λh=>0<=l/\l<=h/\h<=(s.cap:Int)/\k (.c (.s (s.cut l.toNat h.toNat b.sh.length)))
  |none=>False
 |_=>False
def NL(T:TT)(t f:Nat)(l:List Ce)(k:SV->Prop):Prop:=
 match fx T t with
 |some ⟨.struct c,_,_⟩=>match GN c f with
  |some (b,u)=>match fx T u with
   |some a=>bif a.tS then False else bif a.agg then k (.agg ((l.drop b).take a.sh.length))else(match GN l b with|some x=>k (.c x)|none=>False)
   |none=>False
  |none=>False
 |_=>False
def Ew(T:TT)(t f o:Nat)(mk:Nat->SV)(k:SV->Prop):Prop:=
 match fx T t with
 |some ⟨.struct c,_,_⟩=>match GN c f with
  |some (b,u)=>match fx T u with
   |some a=>bif a.tS||Nat.beq a.sh.length 0 then False else k (mk (o+b))
   |none=>False
  |none=>False
 |_=>False
def NJ(a b:Nat)(k:Prop):Prop:=a=b/\k
def aG(b:Nat)(k:Prop):NJ b b k=k:=by simp[NJ]
def FX:List Ce->Nat->Nat->Option (List Ce)
 |_,_,0=>some []
 |l,o,n+1=>match GN l o,FX l (o+1) n with
  |some c,some r=>some (c::r)
  |_,_=>none
def ME(T:TT)(t:Nat)(a:List Ce)(o:Nat)(k:SV->Prop):Prop:=
 match fx T t with
 |some ⟨.struct _,b,_⟩=>match FX a o b.length with
  |some l=>k (.agg l)
  |none=>False
 |some ⟨.cell,[_],_⟩=>match GN a o with
  |some c=>k (.c c)
  |none=>False
 |some ⟨.slice _,[_],_⟩=>match GN a o with
  |some c=>k (.c c)
  |none=>False
 |some ⟨.map _ _,[_],_⟩=>match GN a o with
  |some c=>k (.c c)
  |none=>False
 |_=>False
def SN(T:TT)(c:Fr)(d:Builtin)(e:List Nat)(f:List Operand)(k:SV->Prop):Prop:=
 match d,e,f with
 | .len,[t],[x]=>match fx T t,ev c x with
  |some ⟨.slice _,_,_⟩,.c (.s s)=>k (.c (.i (s.len:Int)))
  |_,_=>False
 | .max,_,[x,y]=>match ev c x,ev c y with
  | .c (.i a),.c (.i b)=>k (.c (.i (if b>a then b else a)))
  |_,_=>False
 | .min,_,[x,y]=>match ev c x,ev c y with
  | .c (.i a),.c (.i b)=>k (.c (.i (if b<a then b else a)))
  |_,_=>False
 |_,_,_=>False
def Xm(T:TT):Nat->List (Nat×Nat)->List Ce->List Ce->Option Bool
 |_,[],[],[]=>some true
 |i,(o,u)::c,.i a::l,.i b::r=>bif Nat.beq o i then match fx T u,Xm T (i+1) c l r with
  |some ⟨.cell,[.I],_⟩,some z=>some (a==b&&z)
  |_,_=>none else none
 |_,_,_,_=>none
def eqA(T:TT)(t:Nat)(l r:List Ce)(k:SV->Prop):Prop:=
 match fx T (Yz t),fx T t with
 |some ⟨.tuple _,_,_⟩,some ⟨.struct a,_,_⟩=>match Xm T 0 a l r with
  |some z=>k (.c (.t z))
  |none=>False
 |_,_=>False
def rd(T:TT)(a:Fr)(m:E)(k:SV->Prop):Op->Prop
 | .move x| .assign x=>k (ev a x)
 | .pick d c b=>match ev a d with
  | .tt=>k (ev a c)
  | .ff=>k (ev a b)
  | .c (.t x)=>match kN (ev a c),kN (ev a b)with
   |some y,some z=>k (.c (.t (bif x then y else z)))
   |_,_=>False
  |_=>False
 | .nilCheck x=>match ev a x with
  | .c (.p b o)=>k (.c (.p b o))
  | .c (.bp q b o)=>k (.c (.bp q b o))
  | .c (.fn (.func f) c d)=>k (.c (.fn (.func f) c d))
  | .c (.fv q)=>∃g,q.1=.func g/\k (.c (.fv q))
  |_=>False
 | .binOp d t x y _=>match ev a x,ev a y with
  | .c (.i c),.c (.i b)=>qS d c b k
  | .c (.s s),.c (.s .nil)=>match fx T t with
   |some ⟨.slice _,_,_⟩=>U8 d s k
   |_=>False
  | .agg l,.agg r=>match d with
   | .eql=>eqA T t l r k
   |_=>False
  |sx,e=>match fx T t,kN sx,kN e with
   |some ⟨.cell,[.T],_⟩,some c,some b=>UL d c b k
   |_,_,_=>False
 | .unOp d _ x=>Zn d (ev a x) k
 | .convert s t x=>match fx T s,fx T t,ev a x with
  |some ⟨.cell,[_],_⟩,some ⟨.cell,[.I],_⟩,.c (.u _ n)=>k (.c (.i (cQ n)))
  |_,_,_=>False
 | .fieldAddr t x f=>match ev a x with
  | .c (.p b o)=>Ew T t f o (λo=>.c (.p b o)) k
  | .c (.bp q b o)=>Ew T t f o (λo=>.c (.bp q b o)) k
  |_=>False
 | .field t x f=>match ev a x with
  | .agg l=>NL T t f l k
  |_=>False
 | .indexAddr t x i=>match ev a x,ev a i with
  | .c (.s s),.c (.i n)=>WQ T t s n k
  |_,_=>False
 | .load t x=>match ev a x with
  | .c (.p b o)=>Pe T m t b o k
  | .c (.bp q b o)=>match gK a q with
   | .box c _ d=>NJ c b (ME T t d o k)
   | .yG c _ d=>NJ c b (ME T t d o k)
   |_=>Pe T m t b o k
  |_=>False
 | .extract x i=>match ev a x with
  | .Xc l=>match GN l i with
   |some y=>k y.sv
   |none=>False
  |_=>False
 | .slice t x c b none=>match ev a x with
  | .c (.s s)=>QC T a t s c b k
  |_=>False
 | .build t c=>match fx T t with
  |some ⟨.struct b,d,_⟩=>bif uw T b then Ep T a b (d.map Sh.zero) c.toList λl=>k (.agg l)else False
  |_=>False
 | .call ⟨.builtin c,b,d⟩=>SN T a c d.toList b.toList k
 |_=>False
def lg(a:Fr)(q b e:Nat)(l:List Ce):Prop:=gK a q=.box b e l\/gK a q=.yG b e l
structure Bx(n:Nat)(fr:Fr)(m:E):Prop where
 aC:∀q b e l,lg fr q b e l->m[b]? =some (.cells (l.map Ce.v).toArray e)
 NE:∀q q' b e l b' e' l',q≠q'->lg fr q b e l->lg fr q' b' e' l'->b≠b'
 key:∀q b e l,lg fr q b e l->n<=q
def Si(T:TT)(c:Fr):Op->List (Nat×Nat)
 | .load t x=>match ev c x,fx T t with
  | .c (.p b o),some a=>(List.range a.sh.length).map λj=>(b,o+j)
  | .c (.bp _ b o),some a=>(List.range a.sh.length).map λj=>(b,o+j)
  |_,_=>[]
 |_=>[]
end Go.Vc
end
section
namespace Go.Vc
variable{s:SV}{b:Bool}
def SV.Is.eq{v:Value}(h:s.Is v)(a:s.ju=true):v=s.v:=by
 cases s<;>first|exact h|simp[SV.ju]at a
def na(s:SV):s.Is s.v:=by cases s<;>first|rfl|trivial
def jM.eq{n:Nat}{b:Fr}{a:Act}(h:jM n b a){x:Operand}{s:SV}(c:Vc.ev b x=s)(d:s.ju=true):a.eval x=s.v:=by
 have:=h.ev x;rw[c]at this;exact this.eq d
def vQ(h:kN s=some b):s.ju=true/\s.v=.bool b:=by
 unfold kN at h;split at h<;>simp_all [SV.ju,SV.v,Ce.v]
def jM.Zh{n:Nat}{c:Fr}{a:Act}(h:jM n c a){x:Operand}(d:kN (Vc.ev c x)=some b):a.eval x=.bool b:=by
 rw[h.eq rfl (vQ d).1,(vQ d).2]
def uR(b o n:Nat):(⟨b,o,none⟩:Addr).add n=⟨b,o+n,none⟩:=by
 unfold Addr.add;split
 .rename_i h;subst h;rfl
 .rfl
def AU:∀(l:List Ce)(a:Nat)(b:List Ce)(i:Nat),a+b.length<=l.length->
 (lI l a b)[i]? =if a<=i/\i<a+b.length then b[i -a]? else l[i]?
 |[],0,[],i,_=>by simp[lI]
 |[],0,_::_,_,h=>by simp at h
 |[],_+1,_,_,h=>by simp at h
 |x::l,0,[],i,_=>by simp[lI]
 |x::l,0,n::b,i,h=>by
  simp only[lI];cases i with
  |zero=>simp
  |succ i=>
   have:=AU l 0 b i (by simp at h;omega);simp only[gJ,this];simp
 |x::l,a+1,b,i,h=>by
  simp only[lI];cases i with
  |zero=>simp
  |succ i=>
   have:=AU l a b i (by simp at h;omega);simp only[gJ,this];have e:(i+1 -(a+1))=i -a:=V;simp only[e];congr 1;simp;omega
def MJ(c:List Value):∀(k a:Nat)(b:Array Value)(i:Nat),
 ((c.zipIdx k).foldl (λ(d:Array Value)(p:Value×Nat)=>d.setIfInBounds (a+p.2) p.1) b)[i]? =
  if a+k<=i/\i<a+k+c.length/\i<b.size then c[i -(a+k)]? else b[i]? :=by
 induction c with
 |nil=>intro k a b i;simp;intro h;omega
 |cons v c g=>
  intro k a b i
  simp only[List.zipIdx_cons,List.foldl_cons,g,Array.size_setIfInBounds,aY]
  by_cases d:i=a+k
  .subst d
   by_cases e:a+k<b.size
   .simp[e];try omega
   .simp[e];try omega
  .have:¬(a+k=i):=λf=>d f.symm
   rw[jC this]
   by_cases e:a+k<=i/\i<a+k+(c.length+1)/\i<b.size
   .rw[ao e,ao V]
    have:i -(a+k)=(i -(a+(k+1)))+1:=V
    rw[this,gJ]
   .rw[ae e,ae V]
def oN{l:List Ce}(h:s.cells=some l):s.ju=true/\s.v.cells=(l.map Ce.v).toArray:=by
 cases s with
 |c x=>simp[SV.cells]at h;subst h;exact⟨rfl,by simp[SV.v,Ce.lj]⟩
 |tt=>simp[SV.cells]at h;subst h;exact⟨rfl,rfl⟩
 |ff=>simp[SV.cells]at h;subst h;exact⟨rfl,rfl⟩
 |agg a=>simp[SV.cells]at h;subst h;exact⟨rfl,rfl⟩
 |Xc _=>simp[SV.cells]at h
 |un=>simp[SV.cells]at h
 |iP=>simp[SV.cells]at h
 |box _ _ _=>simp[SV.cells]at h
 |yG _ _ _=>simp[SV.cells]at h
end Go.Vc
end
section
namespace Go.Vc
variable{x y:Operand}{c:TypeId}{h b f o:Nat}{g:List Ce}
variable{e:Program}{T:TT}
def nX(e:Program)(T:TT)(b:Fr)(m:E)(a:Act)(o:Oper)(k:SV->Prop):Prop:=
 ∃x v,k x/\x.Is v/\∀w:World,(∀q∈Si T b o.op,af w.heap q.1 q.2=af m q.1 q.2)->(execOp a.eval o).run e w=.ok (.value v) w
section
variable{n:Nat}{i:Fr}{a:Act}{j:E}{k:SV->Prop}{q:Option Tmp}{v:TypeId}{u:String}{p:Array Edge}{r:Option (Nat×Bool)}
def Tt(b:jM n i a)(h:k (ev i x)):nX e T i j a ⟨q,.move x,v,u,p,r⟩ k:=
 ⟨_,_,h,b.ev x,λw _=>by simp[execOp]⟩
def RK(b:jM n i a)(h:k (ev i x)):nX e T i j a ⟨q,.assign x,v,u,p,r⟩ k:=
 ⟨_,_,h,b.ev x,λw _=>by simp[execOp]⟩
def Qj(c:jM n i a){f:Operand}(h:rd T i j k (.pick f x y)):nX e T i j a ⟨q,.pick f x y,v,u,p,r⟩ k:=by
 simp only[rd]at h;split at h
 .rename_i d;exact⟨_,_,h,c.ev x,λw _=>by simp[execOp,c.eq d rfl,SV.v,asBool]⟩
 .rename_i d;exact⟨_,_,h,c.ev y,λw _=>by simp[execOp,c.eq d rfl,SV.v,asBool]⟩
 .rename_i b d;split at h
  .rename_i m o g l;refine⟨_,_,h,na _,λw _=>?_⟩;simp[execOp,c.eq d rfl,SV.v,Ce.v,asBool,c.Zh g,c.Zh l];try (cases b<;>rfl)
  .exact h.elim
 .exact h.elim
def Kc(d:jM n i a)(h:rd T i j k (.nilCheck x)):nX e T i j a ⟨q,.nilCheck x,v,u,p,r⟩ k:=by
 simp only[rd]at h;split at h
 .rename_i b o c;exact⟨_,_,h,na _,λw _=>by simp[execOp,d.eq c rfl,SV.v,Ce.v]⟩
 .rename_i m b o c;exact⟨_,_,h,na _,λw _=>by simp[execOp,d.eq c rfl,SV.v,Ce.v]⟩
 .rename_i f g l c;exact⟨_,_,h,na _,λw _=>by simp[execOp,d.eq c rfl,SV.v,Ce.v]⟩
 .rename_i m c;obtain⟨s,g,l⟩:=h;exact⟨_,_,l,na _,λw _=>by simp[execOp,d.eq c rfl,SV.v,Ce.v,g]⟩
 .exact h.elim
def UM{a:BinOp}{x y:Int}(h:qS a x y k):∃s v,k s/\s.Is v/\∀w:World,(binOp a c (.int .i64 x) (.int .i64 y)).run e w=.ok v w:=by
 cases a<;>simp only[qS]at h
 case quo=>exact⟨_,_,h.2,na _,λw=>by simp[binOp,Op.intDiv,h.1,SV.v,Ce.v,cQ]⟩
 case rem=>exact⟨_,_,h.2,na _,λw=>by simp[binOp,Op.intDiv,h.1,SV.v,Ce.v]⟩
 case xor=>exact⟨_,_,h,na _,λw=>by simp[binOp,Op.intBits,SV.v,Ce.v,cQ,Vt,IntKind.bits];rfl⟩
 all_goals exact⟨_,_,h,na _,λw=>by simp[binOp,Op.intArith,Op.intCmp,SV.v,Ce.v,cQ]⟩
def OV(a:BinOp)(c:TypeId)(d f:Operand)(b:IntKind)(x:Int)(y:Value)(w:World):(eqGuard a c d f (.int b x) y).run e w=.ok () w:=by
 cases a<;>simp[eqGuard]
def NI(a:BinOp)(c:TypeId)(b d:Operand)(x:Bool)(y:Value)(w:World):(eqGuard a c b d (.bool x) y).run e w=.ok () w:=by
 cases a<;>simp[eqGuard]
def P8(hd:e.underlying c=some .bool)(x y:Bool)(w:World):(Op.equal c (.bool x) (.bool y)).run e w=.ok (x==y) w:=by
 have:Op.equal c (.bool x) (.bool y)=Op.equalIn (9999+1) c (.bool x) (.bool y):=rfl;rw[this];generalize 9999=h;simp[Op.equalIn,run_underlying hd]
def IC{a:TypeId}(hd:e.underlying c=some (.slice a))(s:O)(w:World):(Op.equal c s.v (.slice none 0 0)).run e w=.ok s.EM w:=by
 have:Op.equal c s.v (.slice none 0 0)=Op.equalIn (9999+1) c s.v (.slice none 0 0):=rfl;rw[this];generalize 9999=h;cases s<;>simp[Op.equalIn,run_underlying hd,O.v]
def OW(hd:e.underlying c=some (.int .i64))(x y:Int)(w:World):(Op.equalIn (h+1) c (.int .i64 x) (.int .i64 y)).run e w=.ok (x==y) w:=by
 simp[Op.equalIn,run_underlying hd]
def Ph(d:tI e T){u:Nat}(f:fx T u=some ⟨.cell,[.I],b⟩){a:Array Value}{c:Nat}{v:Value}(h:a[c]? =some v)(w:World):(part u a c).run e w=.ok v w:=by
 simp[part,G6 d f rfl,TI.agg,h]
def Tm(n:tI e T){X Y:Array Value}(A:World):∀(j:List Field)(i:Nat)(l:List (Nat×Nat))(g r:List Ce)(z:Bool),j.map (λf=>(f.offset,f.type))=l->(∀f∈j,f.name≠ "_")->
 (∀k d,g[k]? =some d->X[i+k]? =some d.v)->(∀k d,r[k]? =some d->Y[i+k]? =some d.v)->Xm T i l g r=some z->
 (forIn (m:=Sem) j ((none,()):Option Bool×PUnit) λf _=>do
  if f.name≠ "_" then
   if !(<-Op.equalIn (h+1) f.type (<-part f.type X f.offset) (<-part f.type Y f.offset))then pure (.done (some false,()))else pure (.yield (none,()))
  else pure (.yield (none,()))).run e A=.ok (if z=true then(none,())else(some false,())) A:=by
 intro j
 induction j with
 |nil=>
  intro i l g r z u v p q c
  subst u
  cases g<;>cases r<;>simp[Xm]at c
  subst c
  simp
 |cons f j K=>
  intro i l g r z u v p q c
  subst u
  simp only[cA]at c
  unfold Xm at c
  split at c
  .simp at*
  .rename_i i _ _ _ _ o N l a g b r C
   obtain⟨⟨rfl,rfl⟩,rfl⟩:=by simpa using C
   cases s:Nat.beq f.offset i
   .rw[s]at c;simp at c
   .rw[s]at c;simp only[jr]at c
    have x:=br s
    split at c
    .rename_i M L w J
     simp only[CL]at c
     obtain⟨⟨B,D,y⟩,_⟩:=np (n.xy w)
     have F:B=.int .i64:=by unfold yZ at y;split at y<;>simp_all
     subst F
     have H:X[f.offset]? =some (.int .i64 a):=by have:=p 0 (.i a) rfl;rw[x];exact this
     have I:Y[f.offset]? =some (.int .i64 b):=by have:=q 0 (.i b) rfl;rw[x];exact this
     have G:=K (i+1) _ g r L rfl (λt E=>v t (ah _ E)) (λk d t=>by have:=p (k+1) d (by simpa using t);rw[<-this];congr 1;omega) (λk d t=>by have:=q (k+1) d (by simpa using t);rw[<-this];congr 1;omega) J
     rw[List.forIn_cons,Sem.run_bind,ao (v f aZ)]
     simp only[Sem.run_bind,Ph n w H,Ph n w I,Result.andThen_ok,OW D]
     cases t:(a==b)
     .rw[t]at c;subst c;simp
     .rw[t]at c;simp only[Ni]at c;subst c
      simp only[Nh,ft,mG,Sem.run_pure,Result.andThen_ok]
      exact G
    .simp at c
  .simp at c
def NK(j:tI e T){a:Array Field}(p:e.underlying c=some (.struct a))(o:e.stoodInHeld c=false)(n:∀f∈a.toList,f.name≠ "_"){r:List Ce}{z:Bool}
 (l:Xm T 0 (a.toList.map λf=>(f.offset,f.type)) g r=some z)(w:World):(Op.equal c (.agg (g.map Ce.v).toArray) (.agg (r.map Ce.v).toArray)).run e w=.ok z w:=by
 have:Op.equal c (.agg (g.map Ce.v).toArray) (.agg (r.map Ce.v).toArray)=Op.equalIn (9998+1+1) c (.agg (g.map Ce.v).toArray) (.agg (r.map Ce.v).toArray):=rfl
 rw[this]
 generalize 9998=h
 rw[Op.equalIn]
 simp only[Sem.run_bind,run_underlying p,Result.andThen_ok]
 have m:=Tm j (h:=h) (X:=(g.map Ce.v).toArray) (Y:=(r.map Ce.v).toArray) w a.toList 0 _ g r z rfl n (λk i b=>by simp[b]) (λk i b=>by simp[b]) l
 have b:(program:Sem Program).run e w=.ok e w:=rfl
 rw[b,Result.andThen_ok,ae (by simp[o]),Sem.run_bind,<-Array.forIn_toList,m]
 cases z<;>rfl
def RE(h:UR e c=true):∃a,e.underlying c=some (.struct a)/\(∀f∈a.toList,f.name≠ "_")/\e.stoodInHeld c=false/\e.eqGuardType e.depth c=false:=by
 unfold UR at h;split at h
 .rename_i a b;simp only[bK,List.all_eq_true,uH,gC]at h;exact⟨a,b,h.1.1,h.1.2,h.2⟩
 .cases h
def OU(h:e.eqGuardType e.depth c=false)(f g:Operand)(a b:Array Value)(w:World):(eqGuard .eql c f g (.agg a) (.agg b)).run e w=.ok () w:=by
 have d:(program:Sem Program).run e w=.ok e w:=rfl;simp only[eqGuard,Sem.run_bind];simp[d,h]
def LH(a:BinOp)(c:TypeId)(b d:Operand)(s:O)(y:Value)(w:World):(eqGuard a c b d s.v y).run e w=.ok () w:=by
 cases s<;>cases a<;>simp[eqGuard,O.v]
def OZ(m:tI e T)(d:jM n i a){z:BinOp}{D:TypeId}(b:rd T i j k (.binOp z c x y D)):nX e T i j a ⟨q,.binOp z c x y D,v,u,p,r⟩ k:=by
 simp only[rd]at b;split at b
 .rename_i L M f l;obtain⟨s,E,A,w,C⟩:=UM (e:=e) (c:=c) b;refine⟨s,E,A,w,λB _=>?_⟩;simp only[execOp,d.eq f rfl,d.eq l rfl,SV.v,Ce.v,Sem.run_bind];simp[OV,C]
 .rename_i s f l;split at b
  .rename_i I J H A;have w:=(jO (m.xy A)).1;have F:a.eval x=s.v:=d.eq f rfl;have G:a.eval y=.slice none 0 0:=d.eq l rfl;cases z<;>simp only[U8]at b
   all_goals
    first
    |exact b.elim
    |exact⟨_,_,b,na _,λB _=>by
     have C:∀o:BinOp,o=.eql\/o=.neq->binOp o c s.v (.slice none 0 0)=(if o=.eql then(do pure (.bool (<-Op.equal c s.v (.slice none 0 0))))else(do pure (.bool (!(<-Op.equal c s.v (.slice none 0 0)))))):=by
      intro o E;rcases E with rfl|rfl<;>cases s<;>rfl
     simp only[execOp,F,G,Sem.run_bind,LH,Result.andThen_ok];rw[C _ aJ];simp[IC w,SV.v,Ce.v]⟩
  .exact b.elim
 .rename_i g N f l;split at b
  .unfold eqA at b;split at b
   .rename_i G A;split at b
    .rename_i R C;obtain⟨O,w,J,K,H⟩:=RE (m.cmp G);obtain⟨⟨Q,s,I⟩,_⟩:=mB (m.xy A);rw[w]at s;obtain rfl:=(TypeDesc.struct.inj (lG s));rw[<-I]at C;refine⟨_,_,b,na _,λB _=>?_⟩;have E:a.eval x=.agg (g.map Ce.v).toArray:=d.eq f rfl;have F:a.eval y=.agg (N.map Ce.v).toArray:=d.eq l rfl;simp only[execOp,E,F,Sem.run_bind,OU H,Result.andThen_ok,binOp,NK m w K J C];rfl
    .exact b.elim
   .exact b.elim
  .exact b.elim
 .split at b
  .rename_i L M w f l;obtain⟨⟨h,hd,A⟩,_⟩:=np (m.xy w);have s:h=.bool:=by
    cases h<;>simp_all [yZ]
   subst s;cases z<;>simp only[UL]at b
   all_goals
    first
    |exact b.elim
    |exact⟨_,_,b,na _,λB _=>by
     simp only[execOp,d.Zh f,d.Zh l,Sem.run_bind,NI,Result.andThen,binOp,P8 hd];rfl⟩
  .exact b.elim
def LJ(d:tI e T)(l:jM n i a){s:TypeId}(b:rd T i j k (.convert s c x)):nX e T i j a ⟨q,.convert s c x,v,u,p,r⟩ k:=by
 simp only[rd]at b;split at b
 .rename_i B b1 b2 z A t w y;obtain⟨⟨h,hd,_⟩,_⟩:=np (d.xy t);obtain⟨⟨g,m,f⟩,_⟩:=np (d.xy w);have o:g=.int .i64:=by unfold yZ at f;split at f<;>simp_all
  subst o;exact⟨_,_,b,na _,λC _=>by
   simp only[execOp,l.eq y rfl,SV.v,Ce.v,Sem.run_bind];simp[convert,run_underlying hd,run_underlying m,Conv.intToInt,cQ]⟩
 .exact b.elim
def Qk(b:jM n i a){f:UnOp}(h:rd T i j k (.unOp f c x)):nX e T i j a ⟨q,.unOp f c x,v,u,p,r⟩ k:=by
 simp only[rd]at h;generalize d:ev i x=sx at h;unfold Zn at h;split at h
 .exact⟨_,_,h,na _,λw _=>by simp[execOp,b.eq d rfl,SV.v,Op.unary]⟩
 .exact⟨_,_,h,na _,λw _=>by simp[execOp,b.eq d rfl,SV.v,Op.unary]⟩
 .exact⟨_,_,h,na _,λw _=>by simp[execOp,b.eq d rfl,SV.v,Ce.v,Op.unary]⟩
 .exact⟨_,_,h,na _,λw _=>by simp[execOp,b.eq d rfl,SV.v,Ce.v,Op.unary,Op.intArith,cQ]⟩
 .exact h.elim
def Cs(l:tI e T)(L:jM n i a){mk:Nat->SV}(E:∀o,(mk o).v=.pointer (some ⟨b,o,none⟩))(J:a.eval x=.pointer (some ⟨b,o,none⟩))(h:Ew T c f o mk k):
 nX e T i j a ⟨q,.fieldAddr c x f,v,u,p,r⟩ k:=by
 unfold Ew at h
 split at h
 .rename_i N O K H
  split at h
  .rename_i M P s
   split at h
   .rename_i g I
    cases d:(g.tS||Nat.beq g.sh.length 0)
    .rw[d]at h
     simp only[bW]at d
     obtain⟨⟨z,C,D⟩,_⟩:=mB (l.xy H)
     rw[oV,<-D,bT]at s
     obtain⟨y,A,m⟩:=Option.map_eq_some_iff.1 s
     simp only[Nl]at m
     obtain⟨rfl,rfl⟩:=m
     have G:=λw=>jQ l I d.1 w
     have F:g.sh.length≠0:=λt=>by rw[t]at d;simp at d
     refine⟨_,_,h,na _,λw _=>?_⟩
     have B:z[f]? =some y:=by simpa using A
     rw[E]
     simp[execOp,Instr.fieldAt,J,run_underlying C,B,Instr.sureAddr,fieldPlace,G,F,uR]
    .rw[d]at h;exact h.elim
   .exact h.elim
  .exact h.elim
 .exact h.elim
def IE(l:tI e T)(d:jM n i a)(h:rd T i j k (.fieldAddr c x f)):nX e T i j a ⟨q,.fieldAddr c x f,v,u,p,r⟩ k:=by
 simp only[rd]at h;split at h
 .rename_i b o g;exact Cs l d (λo=>rfl) (d.eq g rfl) h
 .rename_i m b o g;exact Cs l d (λo=>rfl) (d.eq g rfl) h
 .exact h.elim
def O1(l:tI e T)(m:jM n i a)(h:rd T i j k (.field c x f)):nX e T i j a ⟨q,.field c x f,v,u,p,r⟩ k:=by
 simp only[rd]at h;split at h
 .rename_i g C;unfold NL at h;split at h
  .rename_i N O L K;split at h
   .rename_i M P A;split at h
    .rename_i E B;cases b:E.tS
     .rw[b]at h;obtain⟨⟨G,z,I⟩,_⟩:=mB (l.xy K);rw[oV,<-I,bT]at A;obtain⟨F,H,s⟩:=Option.map_eq_some_iff.1 A;simp only[Nl]at s;obtain⟨rfl,rfl⟩:=s;have J:=λw=>jQ l B b w;have o:=λw=>G6 l B b w;have t:G[f]? =some F:=by simpa using H
      cases d:E.agg
      .simp only[d,lV]at h;split at h
       .rename_i y D;refine⟨_,_,h,na _,λw _=>?_⟩;rw[oV]at D;simp[execOp,Instr.field,m.eq C rfl,SV.v,run_underlying z,t,asAgg,part,o,d,D]
       .exact h.elim
      .simp only[d,lV,jr]at h;refine⟨_,_,h,na _,λw _=>?_⟩;simp[execOp,Instr.field,m.eq C rfl,SV.v,run_underlying z,t,asAgg,part,o,d,J,List.map_drop,Nk]
     .rw[b]at h;exact h.elim
    .exact h.elim
   .exact h.elim
  .exact h.elim
 .exact h.elim
def IF(l:tI e T)(g:jM n i a)(h:rd T i j k (.indexAddr c x y)):nX e T i j a ⟨q,.indexAddr c x y,v,u,p,r⟩ k:=by
 simp only[rd]at h;split at h
 .rename_i E J C D;unfold WQ at h;split at h
  .rename_i I L G A;split at h
   .rename_i F t;cases f:F.tS
    .rw[f]at h;obtain⟨m,d,s⟩:=h;have B:=(jO (l.xy A)).1;have z:=λw=>jQ l t f w;cases E with
     |nil=>simp[O.len]at d;omega
     |CS _ _ _=>simp[O.len]at d;omega
     |mk b o K H=>
      refine⟨_,_,s,na _,λw _=>?_⟩;simp only[O.len]at d;simp[execOp,Instr.indexAt,g.eq C rfl,g.eq D rfl,SV.v,Ce.v,O.v,asIntOf,run_underlying B,m,d,z,uR,O.aC,O.off]
    .rw[f]at h;exact h.elim
   .exact h.elim
  .exact h.elim
 .exact h.elim
def Pc:∀(d:List Sh)(b o a:Nat)(k:List Ce->Prop),VW j b o a d k->∃g,k g/\g.length=d.length/\∀i,i<d.length->af j b (o+a+i)=(g[i]?).map Ce.v
 |[],_,_,_,_,h=>⟨[],h,rfl,λi c=>by simp at c⟩
 |s::r,b,o,a,k,h=>by
  obtain⟨x,n,h⟩:=h;obtain⟨g,l,m,f⟩:=Pc r b o (a+1) _ h;refine⟨s.mk x::g,l,by simp[m],λi c=>?_⟩;cases i with
  |zero=>simpa using n
  |succ i=>
   have:=f i (by simpa using c);have e:o+(a+1)+i=o+a+(i+1):=V;rw[e]at this;simpa using this
def mj(B:tI e T)(S:jM n i a)(I:a.eval x=.pointer (some ⟨b,o,none⟩)){f:TI}(H:fx T c=some f)(G:f.tS=false)
 (K:∀d,d<f.sh.length->(b,o+d)∈Si T i (.load c x))(E:g.length=f.sh.length)(L:∀z,z<f.sh.length->af j b (o+z)=(g[z]?).map Ce.v)
 {s:SV}(U:s.ju=true)(O:(f.agg=true/\s.v=.agg (g.map Ce.v).toArray)\/(f.agg=false/\∃m,g=[m]/\s.v=m.v))(N:k s):
 nX e T i j a ⟨q,.load c x,v,u,p,r⟩ k:=by
 refine⟨s,s.v,N,na _,λl R=>?_⟩
 have Q:=jQ B H G l
 have C:=G6 B H G l
 have D:∀d,d<f.sh.length->af l.heap b (o+d)=(g[d]?).map Ce.v:=λd h=>by rw[R (b,o+d) (K d h),L d h]
 rcases O with⟨t,y⟩|⟨t,m,y,J⟩
 .have F:=run_loadCells_list (P:=e) (w:=l) ⟨b,o,none⟩ (g.map Ce.v) (λd V h=>by
   rw[uR,yI];have M:d<f.sh.length:=by
    rcases aX d f.sh.length with A|A
    .exact A
    .rw[bV bS]at h;simp at h
   rw[D d M,<-bT,h])
  simp only[dP]at F
  simp only[execOp,Instr.loadAt,I,Instr.sureAddr,loadVar,Sem.run_bind,Sem.run_pure,C,t,Result.andThen_ok,Q,Ly]
  simp[<-E,F,y]
 .subst y
  have A:=D 0 (by rw[<-E];simp)
  simp at A
  simp only[execOp,Instr.loadAt,I,Instr.sureAddr,loadVar,Sem.run_bind,Sem.run_pure,C,t,Result.andThen_ok]
  simp[yI,A,J]
def Ib(C:tI e T)(B:jM n i a)(D:a.eval x=.pointer (some ⟨b,o,none⟩))
 (A:∀d f,fx T c=some d->f<d.sh.length->(b,o+f)∈Si T i (.load c x))(h:Pe T j c b o k):nX e T i j a ⟨q,.load c x,v,u,p,r⟩ k:=by
 unfold Pe at h
 split at h
 .rename_i H I F d
  obtain⟨g,w,G,E⟩:=Pc _ _ _ _ _ h
  exact mj C B D d rfl (λf t=>A _ f d t) G (λz m=>by simpa using E z m) (s:=.agg g) rfl (Or.inl ⟨rfl,rfl⟩) w
 .rename_i G F d
  obtain⟨y,E,w⟩:=h
  exact mj C B D d rfl (λf t=>A _ f d t) (g:=[G.mk y]) rfl (λz m=>by
   have:z=0:=by simpa using m
   subst this;exact E) (s:=.c (G.mk y)) rfl (Or.inr ⟨rfl,_,rfl,rfl⟩) w
 .rename_i G H F d
  obtain⟨y,E,w⟩:=h
  exact mj C B D d rfl (λf t=>A _ f d t) (g:=[.s y]) rfl (λz m=>by
   have:z=0:=by simpa using m
   subst this;exact E) (s:=.c (.s y)) rfl (Or.inr ⟨rfl,_,rfl,rfl⟩) w
 .exact h.elim
def Lm:∀{a:List Ce}{b o:Nat}{g:List Ce},FX a o b=some g->g.length=b/\∀i,i<b->a[o+i]? =g[i]?
 |a,0,o,g,h=>by simp[FX]at h;subst h;simp
 |a,b+1,o,g,h=>by
  simp only[FX]at h;split at h
  .rename_i j r c f;simp at h;subst h;obtain⟨d,e⟩:=Lm f;refine⟨by simp[d],λi k=>?_⟩;cases i with
   |zero=>rw[oV]at c;simpa using c
   |succ i=>
    have:=e i V;rw[show o+(i+1)=o+1+i by omega];simpa using this
  .simp at h
def Ia(C:tI e T)(B:jM n i a){H:Nat}{G:List Ce}(E:a.eval x=.pointer (some ⟨b,o,none⟩))
 (A:∀d m,fx T c=some d->m<d.sh.length->(b,o+m)∈Si T i (.load c x))(I:j[b]? =some (.cells (G.map Ce.v).toArray H))(h:ME T c G o k):
 nX e T i j a ⟨q,.load c x,v,u,p,r⟩ k:=by
 have D:∀f,af j b f=(G[f]?).map Ce.v:=λf=>by simp[af,I]
 unfold ME at h
 split at h
 .rename_i K L F d
  split at h
  .rename_i g J
   obtain⟨t,w⟩:=Lm J
   exact mj C B E d rfl (λm z=>A _ m d z) t (λf y=>by rw[D,w f y]) (s:=.agg g) rfl (Or.inl ⟨rfl,rfl⟩) h
  .exact h.elim
 .rename_i J F d
  split at h
  .rename_i t w
   rw[oV]at w
   exact mj C B E d rfl (λm z=>A _ m d z) (g:=[t]) rfl (λf y=>by
    have:f=0:=by simpa using y
    subst this;rw[D];simp[w]) (s:=.c t) rfl (Or.inr ⟨rfl,_,rfl,rfl⟩) h
  .exact h.elim
 .rename_i H J F d
  split at h
  .rename_i t w
   rw[oV]at w
   exact mj C B E d rfl (λm z=>A _ m d z) (g:=[t]) rfl (λf y=>by
    have:f=0:=by simpa using y
    subst this;rw[D];simp[w]) (s:=.c t) rfl (Or.inr ⟨rfl,_,rfl,rfl⟩) h
  .exact h.elim
 .rename_i L K J F d
  split at h
  .rename_i t w
   rw[oV]at w
   exact mj C B E d rfl (λm z=>A _ m d z) (g:=[t]) rfl (λf y=>by
    have:f=0:=by simpa using y
    subst this;rw[D];simp[w]) (s:=.c t) rfl (Or.inr ⟨rfl,_,rfl,rfl⟩) h
  .exact h.elim
 .exact h.elim
def Qi(l:tI e T)(d:jM n i a)(B:Bx n i j)(h:rd T i j k (.load c x)):nX e T i j a ⟨q,.load c x,v,u,p,r⟩ k:=by
 simp only[rd]at h;split at h
 .rename_i b o f;exact Ib l d (d.eq f rfl) (λm g A z=>by simp only[Si,f,A];exact List.mem_map.2 ⟨g,List.mem_range.2 z,rfl⟩) h
 .rename_i C b o f;have w:∀m g,fx T c=some m->g<m.sh.length->(b,o+g)∈Si T i (.load c x):=λm g A z=>by simp only[Si,f,A];exact List.mem_map.2 ⟨g,List.mem_range.2 z,rfl⟩
  split at h
  .rename_i D t s y;obtain⟨rfl,h⟩:=h;exact Ia l d (d.eq f rfl) w (B.aC C _ t s (Or.inl y)) h
  .rename_i D t s y;obtain⟨rfl,h⟩:=h;exact Ia l d (d.eq f rfl) w (B.aC C _ t s (Or.inr y)) h
  .exact Ib l d (d.eq f rfl) w h
 .exact h.elim
end
end Go.Vc
end
section
namespace Go.Vc
variable{x:Operand}{t:TypeId}
variable{P:Program}{T:TT}
section
variable{n:Nat}{b:Fr}{a:Act}{m:E}{k:SV->Prop}{d:Option Tmp}{g:TypeId}{f:String}{c:Array Edge}{e:Option (Nat×Bool)}
def LN(l:jM n b a){j:Nat}(h:rd T b m k (.extract x j)):nX P T b m a ⟨d,.extract x j,g,f,c,e⟩ k:=by
 simp only[rd]at h;split at h
 .rename_i p o;split at h
  .rename_i y i;refine⟨_,_,h,na _,λw _=>?_⟩;rw[oV]at i;rw[AV.aae];have:a.eval x=.tuple (p.map AV.v).toArray:=l.eq o rfl;simp[execOp,Instr.extract,this,i]
  .exact h.elim
 .exact h.elim
def MQ(c:jM n b a){x:Option Operand}{d:Int}{k:Int->Prop}(h:LX b x d k):
 (x=none/\k d)\/∃y i,x=some y/\a.eval y=.int .i64 i/\k i:=by
 unfold LX at h
 split at h
 .exact Or.inl ⟨rfl,h⟩
 .rename_i y
  split at h
  .rename_i i e
   exact Or.inr ⟨y,i,rfl,c.eq e rfl,h⟩
  .exact h.elim
def oY(k:IntKind)(i:Int)(y:Nat)(c:BoundsCode)(a:0<=i)(b:i<=y)(w:World):(Instr.sliceBound (.int k i) y c).run P w=.ok i.toNat w:=by
 simp[Instr.sliceBound,asIntOf,a,b]
def XZ(b o l c a d e:Nat):(O.cut (.mk b o l c) a d e).v=.slice (if c=a then some ⟨b,o,none⟩else(some (⟨b,o,none⟩:Addr)).map (·.add (a*e))) (d -a) (c -a):=by
 show Value.slice _ _ _=_;simp only[uR,lF];split<;>rfl
def O2(J:tI P T)(r:jM n b a){A y:Option Operand}(i:rd T b m k (.slice t x A y none)):nX P T b m a ⟨d,.slice t x A y none,g,f,c,e⟩ k:=by
 simp only[rd]at i;split at i
 .rename_i s G;unfold QC at i;split at i
  .rename_i v N M L;split at i
   .rename_i B K;cases D:B.tS
    .rw[D]at i;have F:=(jO (J.xy L)).1;have E:=λw=>jQ J K D w;have z:∀(l h:Int),0<=l->l<=h->h<=(s.cap:Int)->
      (∀w:World,(Instr.sliceBounds true s.len s.cap (A.map a.eval) (y.map a.eval) none).run P w=.ok (l.toNat,h.toNat,s.cap) w)->
      ∀w:World,(execOp a.eval ⟨d,.slice t x A y none,g,f,c,e⟩).run P w=.ok (.value (Ce.s (s.cut l.toNat h.toNat B.sh.length)).v) w:=by
      intro l h o p j q w
      cases s with
      |nil=>
       simp only[O.cap,O.len]at q j
       have:h=0:=V
       have:l=0:=V
       subst this;subst h
       simp[execOp,Instr.sliceAt,r.eq G rfl,SV.v,Ce.v,O.v,run_underlying F,Instr.slice,q,E,O.cut]
      |CS u C H=>
       simp only[O.cap,O.len]at q j
       have:h=0:=V
       have:l=0:=V
       subst this;subst h
       simp[execOp,Instr.sliceAt,r.eq G rfl,SV.v,Ce.v,O.v,run_underlying F,Instr.slice,q,E,O.cut]
      |mk u I H C=>
       simp only[O.cap,O.len]at q
       have v:(Ce.s ((O.mk u I H C).cut l.toNat h.toNat B.sh.length)).v=_:=XZ u I H C l.toNat h.toNat B.sh.length
       rw[v]
       have:a.eval x=.slice (some ⟨u,I,none⟩) H C:=r.eq G rfl
       simp[execOp,Instr.sliceAt,this,run_underlying F,Instr.slice,q,E]
     simp only[lV]at i;rcases MQ r i with⟨rfl,C⟩|⟨Q,l,rfl,H,C⟩<;>rcases MQ r C with⟨rfl,o,p,j,u⟩|⟨R,h,rfl,I,o,p,j,u⟩
     .exact⟨_,_,u,na _,λw _=>z _ _ o p j (λw=>by simp[Instr.sliceBounds]) w⟩
     .exact⟨_,_,u,na _,λw _=>z _ _ o p j (λw=>by simp[Instr.sliceBounds,I,oY _ _ _ _ (by omega:0<=h) j]) w⟩
     .exact⟨_,_,u,na _,λw _=>z _ _ o p j (λw=>by simp[Instr.sliceBounds,H,oY _ _ _ _ o p]) w⟩
     .exact⟨_,_,u,na _,λw _=>z _ _ o p j (λw=>by
       have v:l<=(h.toNat:Int):=V;simp[Instr.sliceBounds,I,H,oY _ _ _ _ (by omega:0<=h) j,oY _ _ _ _ o v]) w⟩
    .rw[D]at i;exact i.elim
   .exact i.elim
  .exact i.elim
 .exact i.elim
def JT(w:tI P T)(q:jM n b a)(p:List (Nat×Nat))(lX:Nat->Option (Nat×Nat))
 (r:∀i d t f,GN p i=some (d,t)->fx T t=some f->f.tS=false->lX i=some (d,f.sh.length)):
 ∀(s:List (Nat×Operand))(c:List Ce)(k:List Ce->Prop),Ep T b p c s k->
  ∃l,k l/\Instr.fill lX (c.map Ce.v).toArray (s.map λe=>(e.1,a.eval e.2))=some (l.map Ce.v).toArray
 |[],c,k,h=>⟨c,h,rfl⟩
 |(i,x)::H,c,k,h=>by
  simp only[Ep]at h;split at h
  .rename_i d t e E D;split at h
   .rename_i f F;cases g:(!f.tS&&Nat.beq e.length f.sh.length&&Nat.ble (d+e.length) c.length)
    .rw[g]at h;exact h.elim
    .rw[g]at h;simp only[bK,gC]at g;obtain⟨⟨y,m⟩,o⟩:=g;have m:=br m;have o:=kY o;obtain⟨l,A,C⟩:=JT w q p lX r H (lI c d e) k h;refine⟨l,A,?_⟩;obtain⟨B,z⟩:=oN D;have G:a.eval x=(ev b x).v:=q.eq rfl B;simp only[cA,Instr.fill,r i d t f E F y,G,z,CK,dP,m];rw[ae bS,<-C];congr 1;apply AF;intro j;have u:=MJ (e.map Ce.v) 0 d (c.map Ce.v).toArray j;rw[<-aag,Zp];have v:=AU c d e j o;rw[show((List.map Ce.v (lI c d e)).toArray)[j]? =((lI c d e)[j]?).map Ce.v by simp,v];rw[u];simp;split<;>split<;>first|rfl|(exfalso;omega)|(congr 1;omega)
   .exact h.elim
  .exact h.elim
def Yy(T:TT)(t:Nat):Nat:=match fx T t with|some a=>a.sh.length|none=>0
def Ih(c:tI P T)(w:World):∀(a:List Field),(∀f∈a,∃b,fx T f.type=some b/\b.tS=false)->
 (a.mapM (λf=>do pure (f.offset,<-sizeOf f.type):Field->Sem (Nat×Nat))).run P w=.ok (a.map λf=>(f.offset,Yy T f.type)) w
 |[],_=>aJ
 |f::a,h=>by
  obtain⟨b,d,j⟩:=h f aJ;have e:=Ih c w a (λg i=>h g (by simp[i]));simp only[Un,Sem.run_bind,jQ c d j,Result.andThen_ok,Sem.run_pure]at e⊢;rw[e];simp[Yy,d]
def Ij:∀{d:List (Nat×Nat)},uw T d=true->∀p∈d,∃a,fx T p.2=some a/\a.tS=false
 |[],_,_,h=>by simp at h
 |(o,t)::r,h,p,c=>by
  simp only[uw,bK]at h;rcases List.mem_cons.1 c with rfl|c
  .have b:=h.1;split at b
   .rename_i a e;exact⟨a,e,by simpa using b⟩
   .simp at b
  .exact Ij h.2 p c
def O0(l:tI P T)(z:jM n b a){o:Array (Nat×Operand)}(i:rd T b m k (.build t o)):nX P T b m a ⟨d,.build t o,g,f,c,e⟩ k:=by
 simp only[rd]at i;split at i
 .rename_i y K M v;cases q:uw T y
  .rw[q]at i;exact i.elim
  rw[q]at i;obtain⟨⟨j,D,s⟩,_⟩:=mB (l.xy v);obtain⟨L,I,J,Q⟩:=vh l v rfl;have A:∀h∈j.toList,∃r,fx T h.type=some r/\r.tS=false:=λh B=>
   Ij q (h.offset,h.type) (by rw[<-s];exact List.mem_map.2 ⟨h,B,rfl⟩)
  have G:∀w:World,(j.mapM (λh=>do pure (h.offset,<-sizeOf h.type):Field->Sem (Nat×Nat))).run P w=.ok (j.toList.map λh=>(h.offset,Yy T h.type)).toArray w:=by
   intro w;rw[Ux,Sem.run_map,Ih l w j.toList A];rfl
  obtain⟨R,E,F⟩:=JT l z y (λx=>((j.toList.map λh=>(h.offset,Yy T h.type)).toArray)[x]?) (λx S t r u H O=>by
   rw[oV,<-s,bT]at u;obtain⟨N,C,p⟩:=Option.map_eq_some_iff.1 u;simp only[Nl]at p;obtain⟨rfl,rfl⟩:=p;simp only[kX,bT,C,lF,Yy,H]) _ _ _ i
  refine⟨_,_,E,na _,λw _=>?_⟩;have u:L.cells=((K.map Sh.zero).map Ce.v).toArray:=by
   apply Array.toList_inj.1;simp[I]
  have C:(o.map λp=>(p.1,a.eval p.2)).toList=o.toList.map λp=>(p.1,a.eval p.2):=aJ;simp only[execOp,Instr.build,Sem.run_bind,J,Result.andThen_ok,run_underlying D,G,u,C,F];simp[SV.v]
 .exact i.elim
def AO(d:jM n b a):∀{c:List Operand},c.all (λx=>(ev b x).ju)=true->c.map a.eval=c.map λx=>(ev b x).v
 |[],_=>rfl
 |x::c,h=>by
  simp only[Nj,bK]at h;simp only[cA,d.eq rfl h.1,AO d h.2]
def LI(v:tI P T)(l:jM n b a){s:Builtin}{i:Array Operand}{r:Array TypeId}(h:rd T b m k (.call ⟨.builtin s,i,r⟩)):
 nX P T b m a ⟨d,.call ⟨.builtin s,i,r⟩,g,f,c,e⟩ k:=by
 simp only[rd]at h
 unfold SN at h
 split at h
 .rename_i t x z p
  split at h
  .rename_i D E C q y o
   refine⟨_,_,h,na _,λw _=>?_⟩
   have A:=(jO (v.xy y)).1
   have u:r=#[t]:=Array.toList_inj.1 (by simpa using z)
   have j:i=#[x]:=Array.toList_inj.1 (by simpa using p)
   subst u;subst j
   have B:a.eval x=q.v:=l.eq o rfl
   cases q<;>simp[execOp,resolve,invoke,builtin,Builtin.len_,run_underlying A,B,O.v,goInt,SV.v,Ce.v,O.len]
  .exact h.elim
 .rename_i x y p
  split at h
  .rename_i u z o q
   refine⟨_,_,h,na _,λw _=>?_⟩
   have j:i=#[x,y]:=Array.toList_inj.1 (by simpa using p)
   subst j
   simp[execOp,resolve,invoke,builtin,Builtin.max_,Builtin.max2,l.eq o rfl,l.eq q rfl,SV.v,Ce.v]
  .exact h.elim
 .rename_i x y p
  split at h
  .rename_i u z o q
   refine⟨_,_,h,na _,λw _=>?_⟩
   have j:i=#[x,y]:=Array.toList_inj.1 (by simpa using p)
   subst j
   simp[execOp,resolve,invoke,builtin,Builtin.min_,Builtin.min2,l.eq o rfl,l.eq q rfl,SV.v,Ce.v]
  .exact h.elim
 .exact h.elim
def Kz(j:tI P T)(i:jM n b a)(s:Bx n b m)(o:Oper)(h:rd T b m k o.op):nX P T b m a o k:=by
 obtain⟨d,l,g,f,c,e⟩:=o;cases l with
 |move x=>exact Tt i h
 |assign x=>exact RK i h
 |pick p x y=>exact Qj i h
 |nilCheck x=>exact Kc i h
 |binOp l t x y q=>exact OZ j i h
 |unOp l t x=>exact Qk i h
 |convert q t x=>exact LJ j i h
 |fieldAddr t x q=>exact IE j i h
 |field t x q=>exact O1 j i h
 |indexAddr t x y=>exact IF j i h
 |load t x=>exact Qi j i s h
 |extract x r=>exact LN i h
 |slice t x v u r=>cases r with
  |none=>exact O2 j i h
  |some y=>exact h.elim
 |build t r=>exact O0 j i h
 |call p=>
  obtain⟨r,u,w⟩:=p;cases r with
  |builtin v=>exact LI j i h
  |value q=>exact h.elim
  |invoke v q=>exact h.elim
 |_=>exact h.elim
end
end Go.Vc
end
section
namespace Go.Vc
variable{m m':E}{b o e n q:Nat}{l:List Ce}
def aj(m:E)(b o:Nat):List Ce->E
 |[]=>m
 |c::r=>aj (qE m b o c.v) b (o+1) r
def fq(m:E)(b o n:Nat):Prop:=∀j,j<n->(af m b (o+j)).isSome=true/\uT m b (o+j)=false
def gN(m:E)(b o:Nat)(l:List Ce):Prop:=∀(i:Nat)(c:Ce),l[i]? =some c->af m b (o+i)=some c.v
def mf(a:List Ce)(n:Nat):List Ce:=(List.replicate n a).flatten
def bE(l:List Ce):Array Value:=(l.map Ce.v).toArray
def QA(m:E)(b o:Nat)(v:Value):(qE m b o v).size=m.size:=by simp[qE]
def KI(m:E)(b o:Nat)(v:Value){j:Nat}(h:j≠b):(qE m b o v)[j]? =m[j]? :=by
 simp only[qE,kW];rw[ae (λe=>h e.symm)]
def aD:∀(l:List Ce)(m:E)(b o:Nat),(aj m b o l).size=m.size
 |[],_,_,_=>rfl
 |c::r,m,b,o=>by simp only[aj];rw[aD r,QA]
def bh:∀(l:List Ce)(m:E)(b o:Nat){j:Nat},j≠b->(aj m b o l)[j]? =m[j]?
 |[],_,_,_,_,_=>rfl
 |c::r,m,b,o,j,h=>by simp only[aj];rw[bh r _ _ _ h,KI m b o _ h]
def lH{v:Value}(h:af m b o=some v):b<m.size:=by
 rcases aX b m.size with a|a
 .exact a
 .simp[af,HT a]at h
def aM(h:m'[b]? =m[b]?)(o:Nat):af m' b o=af m b o:=by simp only[af,h]
def cB(m:E)(b:Nat)(e:Nat)(l:List Ce):Prop:=m[b]? =some (.cells (bE l) e)
def Ug(l:List Ce)(i:Nat):(bE l)[i]? =(l[i]?).map Ce.v:=by simp[bE]
def cB.cK(h:cB m b e l)(o:Nat):af m b o=(l[o]?).map Ce.v:=by
 have a:m[b]? =some (.cells (bE l) e (0,0)):=h;simp only[af,a,Ug]
def cB.jD(h:cB m b e l):gN m b 0 l:=λi c a=>by rw[h.cK,bG,a];rfl
def cB.lt(h:cB m b e l):b<m.size:=(Array.getElem?_eq_some_iff.1 h).1
def cB.uT{m:E}{b e:Nat}{l:List Ce}(h:cB m b e l)(o:Nat):uT m b o=false:=by
 have a:m[b]? =some (.cells (bE l) e (0,0)):=h;simp[Vc.uT,a]
def cB.fq(h:cB m b e l)(c:o+n<=l.length):fq m b o n:=λj a=>by
 refine⟨?_,h.uT _⟩;rw[h.cK];simp;omega
def cB.push(m:E)(l:List Ce)(e:Nat):cB (m.push (.cells (bE l) e)) m.size e l:=by simp[cB]
def cB.congr(a:cB m b e l)(h:m'[b]? =m[b]?):cB m' b e l:=by
 unfold cB at*;rw[h];exact a
def cB.qE{m:E}{b e:Nat}{l:List Ce}(h:cB m b e l)(o:Nat)(c:Ce):cB (qE m b o c.v) b e (l.set o c):=by
 have d:m[b]? =some (.cells (bE l) e (0,0)):=h;have f:=h.lt;simp only[cB,Vc.qE,kW,Ly,d,lF];congr 2;apply AF;intro i;simp only[bE,Array.getElem?_setIfInBounds,kX,bT,ik,CK,dP];by_cases e:o=i
 .subst e;by_cases a:o<l.length
  .simp[a]
  .simp[a]
 .simp[e]
def iO(l:List Ce)(o:Nat):List Ce->List Ce
 |[]=>l
 |c::r=>iO (l.set o c) (o+1) r
def ln:∀(r l:List Ce)(o:Nat),(iO l o r).length=l.length
 |[],_,_=>rfl
 |c::r,l,o=>by simp only[iO];rw[ln r];simp
def kU:∀(r l:List Ce)(o i:Nat),(iO l o r)[i]? =if o<=i/\i<o+r.length/\i<l.length then r[i -o]? else l[i]?
 |[],l,o,i=>by simp[iO];intro h;omega
 |c::r,l,o,i=>by
  simp only[iO];rw[kU r,ik];simp only[iF,aY];by_cases b:o=i
  .subst b;by_cases a:o<l.length
   .simp[a];try omega
   .simp[a];try omega
  .by_cases a:o<=i/\i<o+(r.length+1)/\i<l.length
   .rw[ao a,ao V,show i -o=(i -(o+1))+1 by omega,gJ]
   .rw[ae a,ae V];simp[b]
def cB.aj{m:E}{b e:Nat}:∀{r l:List Ce}{m:E}{o:Nat},cB m b e l->cB (aj m b o r) b e (iO l o r)
 |[],_,_,_,h=>h
 |c::r,l,m,o,h=>by
  simp only[Vc.aj,iO];exact cB.aj (m:=m) (h.qE o c)
def uv(t:Nat):List Nat->Bool
 |[]=>false
 |u::r=>Nat.beq u t||uv t r
def GK{t:Nat}:∀{M:List Nat},uv t M=true->t∈M
 |[],h=>by simp[uv]at h
 |u::r,h=>by
  simp only[uv,cD]at h;rcases h with h|h
  .rw[br h];exact aZ
  .exact ah _ (GK h)
def Lv(n:Nat):Fr->List Nat->List Nat
 |[],_=>[]
 |(q,x)::r,a=>bif Nat.ble n q&&!uv q a then
  match x with
  | .box b _ _=>b::Lv n r (q::a)
  | .yG b _ _=>b::Lv n r (q::a)
  |_=>Lv n r (q::a)
  else Lv n r a
def eF(l:List Nat)(m m':E):Prop:=∀b∈l,m'[b]? =m[b]?
def zd(l:List Nat)(m m':E)(k:Prop):Prop:=
 match l with
 |[]=>k
 |_=>eF l m m'/\k
def lP{l:List Nat}{k:Prop}(h:zd l m m' k):eF l m m'/\k:=by
 unfold zd at h;split at h
 .exact⟨(λb a=>by cases a),h⟩
 .exact h
def Ga{n:Nat}{q b e:Nat}{l:List Ce}(c:n<=q):∀{j:Fr}{a:List Nat},q∉a->lg j q b e l->b∈Lv n j a
 |[],a,_,h=>by rcases h with h|h<;>simp[gK]at h
 |(u,x)::r,a,g,h=>by
  simp only[Lv];cases f:Nat.beq u q
  .have k:u≠q:=λe=>by subst e;simp at f
   have d:lg r q b e l:=by
    unfold lg at h⊢;simpa only[gK,f,lV]using h
   have i:q∉u::a:=by
    simp only[aW,uJ];exact⟨λe=>k e.symm,g⟩
   cases(Nat.ble n u&&!uv u a)
   .exact Ga c g d
   .simp only[jr];split
    .exact ah _ (Ga c i d)
    .exact ah _ (Ga c i d)
    .exact Ga c i d
  .have:=br f;subst this;have i:uv u a=false:=by
    cases k:uv u a
    .rfl
    .exact absurd (GK k) g
   have d:Nat.ble n u=true:=Xw c;simp only[i,d,Lt,Bool.and_self,jr];unfold lg at h;simp only[gK,f,jr]at h;rcases h with h|h<;>rw[h]<;>exact aZ
def Bx.iP{c:Fr}(h:Bx n c m){x:SV}(i:∀b e l,x≠.box b e l/\x≠.yG b e l):Bx n ((q,x)::c) m:=by
 have d:∀{u b e l},lg ((q,x)::c) u b e l->lg c u b e l:=by
  intro u b e l a;unfold lg at a⊢;simp only[gK]at a;cases g:Nat.beq q u
  .rw[g]at a;exact a
  .rw[g]at a;rcases a with a|a
   .exact absurd a (i b e l).1
   .exact absurd a (i b e l).2
 exact⟨λq b e l f=>h.aC q b e l (d f),λq t b e l j k s r o p=>h.NE q t b e l j k s r (d o) (d p),λq b e l f=>h.key q b e l (d f)⟩
def SV.Ys(x:SV)(b e:Nat)(l:List Ce):x.nb≠.box b e l/\x.nb≠.yG b e l:=by
 cases x<;>exact⟨by simp[SV.nb],by simp[SV.nb]⟩
def Bx.put{a:Fr}(h:Bx n a m)(d:Option Nat)(x:SV):Bx n (tr a d x) m:=by
 cases d with
 |none=>exact h
 |some d=>exact h.iP (SV.Ys x)
def Bx.de{a:Fr}(h:Bx n a m)(d:eF (Lv n a []) m m'):Bx n a m':=
 ⟨λq b e l c=>by rw[d b (Ga (h.key q b e l c) aJ c)];exact h.aC q b e l c,h.NE,h.key⟩
def Bx.push{a:Fr}(h:Bx n a m)(o:Obj):Bx n a (m.push o):=
 ⟨λq b e l d=>by
  have c:=h.aC q b e l d;have f:=(Array.getElem?_eq_some_iff.1 c).1;rw[xA,ae V];exact c,h.NE,h.key⟩
def Bx.new{d:Fr}(h:Bx n d m)(x:n<=q)(t:Nat)(l:List Ce):Bx n ((q,.box m.size t l)::d) (m.push (.cells (bE l) t)):=by
 have w:=h.push (.cells (bE l) t);have p:∀{u b e l},lg d u b e l->b<m.size:=λa=>(Array.getElem?_eq_some_iff.1 (h.aC _ _ _ _ a)).1;have g:∀{u b e c},lg ((q,.box m.size t l)::d) u b e c->(u=q/\b=m.size/\e=t/\c=l)\/(u≠q/\lg d u b e c):=by
  intro u b e c a;unfold lg at a⊢;simp only[gK]at a;cases f:Nat.beq q u
  .rw[f]at a;exact Or.inr ⟨λe=>by subst e;simp at f,a⟩
  .rw[f]at a;have:=br f;subst this;rcases a with a|a
   .simp at a;exact Or.inl ⟨rfl,a.1.symm,a.2.1.symm,a.2.2.symm⟩
   .simp at a
 refine⟨λu b e c a=>?_,λu B b e z r s A o v k=>?_,λu b e c a=>?_⟩
 .rcases g a with⟨rfl,rfl,rfl,rfl⟩|⟨_,a⟩
  .simp[bE]
  .exact w.aC u b e c a
 .rcases g v with⟨rfl,rfl,rfl,rfl⟩|⟨f,j⟩
  .rcases g k with⟨rfl,rfl,rfl,rfl⟩|⟨y,i⟩
   .exact absurd rfl o
   .have:=p i;omega
  .rcases g k with⟨rfl,rfl,rfl,rfl⟩|⟨y,i⟩
   .have:=p j;omega
   .exact h.NE u B b e z r s A o j i
 .rcases g a with⟨rfl,rfl,rfl,rfl⟩|⟨_,a⟩
  .exact x
  .exact h.key u b e c a
def Bx.vM{j:Fr}(h:Bx n j m){f:List Ce}(E:gK j q=.box b e f)(o:Nat)(l:List Ce):Bx n ((q,.box b e (iO f o l))::j) (aj m b o l):=by
 have k:lg j q b e f:=Or.inl E;have D:cB m b e f:=h.aC q b e f k;have p:∀{u c d g},lg ((q,.box b e (iO f o l))::j) u c d g->(u=q/\c=b/\d=e/\g=iO f o l)\/(u≠q/\lg j u c d g):=by
  intro u c d g a;unfold lg at a⊢;simp only[gK]at a;cases i:Nat.beq q u
  .rw[i]at a;exact Or.inr ⟨λe=>by subst e;simp at i,a⟩
  .rw[i]at a;have:=br i;subst this;rcases a with a|a
   .simp at a;exact Or.inl ⟨rfl,a.1.symm,a.2.1.symm,a.2.2.symm⟩
   .simp at a
 refine⟨λu c d g a=>?_,λu s b1 t A b2 v B y C x=>?_,λu c d g a=>?_⟩
 .rcases p a with⟨rfl,rfl,rfl,rfl⟩|⟨i,a⟩
  .exact cB.aj (m:=m) D
  .rw[bh l m b o (h.NE u q c d g b e f i a k)];exact h.aC u c d g a
 .rcases p C with⟨rfl,rfl,rfl,rfl⟩|⟨i,w⟩
  .rcases p x with⟨rfl,rfl,rfl,rfl⟩|⟨z,r⟩
   .exact absurd rfl y
   .exactλe=>h.NE s u b2 v B _ _ _ z r k e.symm
  .rcases p x with⟨rfl,rfl,rfl,rfl⟩|⟨z,r⟩
   .exact h.NE u s b1 t A _ _ _ i w k
   .exact h.NE u s b1 t A b2 v B y w r
 .rcases p a with⟨rfl,rfl,rfl,rfl⟩|⟨_,a⟩
  .exact h.key u c d f k
  .exact h.key u c d g a
def Eu(a:Fr):List Ce->Option Fr
 |[]=>some a
 | .bp q _ _::r=>match gK a q with
  | .yG _ _ _=>none
  |_=>Eu ((q,.iP)::a) r
 |_::r=>Eu a r
def AV.UQ:AV->List Ce
 | .c x=>[x]
 | .agg l=>l
def SV.UQ:SV->List Ce
 | .c x=>[x]
 | .agg l=>l
 | .Xc l=>l.flatMap AV.UQ
 |_=>[]
def Tn(a:Fr)(l:List SV):Option Fr:=Eu a (l.flatMap SV.UQ)
def pN{n:Nat}{f:Act}{m:E}:∀{l:List Ce}{a c:Fr},Eu a l=some c->jM n a f->Bx n a m->jM n c f/\Bx n c m
 |[],a,c,h,e,d=>by simp[Eu]at h;subst h;exact⟨e,d⟩
 |g::r,a,c,h,e,d=>by
  cases g with
  |bp q b o=>
   simp only[Eu]at h;split at h
   .simp at h
   .exact pN h (e.iP q) (d.iP aJ)
  |_=>exact pN (l:=r) (by simpa[Eu]using h) e d
end Go.Vc
end
section
namespace Go.Vc
variable{P:Program}{T:TT}
def NQ(m:E)(k:E->Prop):Prop:=k m
def jb(m:E)(f:Nat)(b:List Ce)(e:Nat)(s x:O)(k:O->E->Prop):Prop:=
 ∃a:List Ce,a.length=x.len*b.length/\gN m x.aC x.off a/\
  (s.len+x.len<=s.cap->fq m s.aC (s.off+s.len*b.length) a.length/\
   k (match s with| .nil=>.nil| .mk d o l c=>.mk d o (l+x.len) c| .CS d o g=>.CS d o g) (aj m s.aC (s.off+s.len*b.length) a))/\
  (s.cap<s.len+x.len->(s.len+x.len)*e<=140737488355328/\∃old:List Ce,old.length=s.len*b.length/\gN m s.aC s.off old/\
   ∀c,s.len+x.len<=c->k (.mk m.size 0 (s.len+x.len) c) (m.push (.cells (bE (old++a++mf b (c -(s.len+x.len)))) f)))
def WH(m:E)(c:Nat)(s x:O)(k:SV->E->Prop):Prop:=
 ∃a:List Ce,a.length=Nat.min x.len s.len*c/\gN m x.aC x.off a/\fq m s.aC s.off a.length/\
  NQ (aj m s.aC s.off a) λb=>k (.c (.i (Nat.min x.len s.len:Nat))) b
def Uw:List Sh->(List Ce->Prop)->Prop
 |[],k=>k []
 |s::r,k=>∃x:s.ty,Uw r λl=>k (s.mk x::l)
def RH(T:TT):List Nat->(List AV->Prop)->Prop
 |[],k=>k []
 |t::r,k=>match fx T t with
  |some ⟨.struct _,b,_⟩=>Uw b λl=>RH T r λa=>k (.agg l::a)
  |some ⟨.cell,[s],_⟩=>∃x:s.ty,RH T r λa=>k (.c (s.mk x)::a)
  |some ⟨.slice _,[_],_⟩=>∃x:O,RH T r λa=>k (.c (.s x)::a)
  |_=>False
def Pm(T:TT)(t:Nat)(v:Value)(k:SV->Prop):Prop:=
 match fx T t with
 |some ⟨.tuple [],_,_⟩=>k .iP
 |some ⟨.tuple a,_,_⟩=>RH T a λl=>v=.tuple (l.map AV.v).toArray/\k (.Xc l)
 |some ⟨.struct _,a,_⟩=>Uw a λl=>v=.agg (l.map Ce.v).toArray/\k (.agg l)
 |some ⟨.cell,[s],_⟩=>∃x:s.ty,v=(s.mk x).v/\k (.c (s.mk x))
 |some ⟨.slice _,[_],_⟩=>∃x:O,v=x.v/\k (.c (.s x))
 |_=>False
def SW(P:Program)(T:TT)(G:List Nat)(n:Nat)(a:Fr)(m:E)(e:Nat)(h:Operand)(b:List Operand)(k:Fr->SV->E->Prop):Prop:=
 match Tn a (b.map (ev a))with
 |none=>False
 |some d=>match ev a h with
  | .c (.fn (.func g) first f)=>bif G.elem g&&b.all (λx=>(ev a x).ju)then
   aP P g (first.toList++(b.map λx=>(ev a x).v)++f.toList) m λv c=>zd (Lv n d []) m c (Pm T e v λx=>k d x c)
   else False
  | .c (.fv q)=>bif b.all (λx=>(ev a x).ju)then
   ∃g,q.1=.func g/\G.elem g=true/\aP P g (q.2.1.toList++(b.map λx=>(ev a x).v)++q.2.2.toList) m λv c=>zd (Lv n d []) m c (Pm T e v λx=>k d x c)
   else False
  |_=>False
def TJ(m:E)(b:Nat)(l:List (Int×Int)):Prop:=
 ∃a c,m[b]? =some (.map a c)/\a.toList.map (λe=>(e.key,e.val))=l.map λp=>(Value.int .i64 p.1,Value.int .i64 p.2)
def NR(l:List (Int×Int))(k:Int):Int:=
 match l with
 |[]=>0
 |(j,v)::r=>if k=j then v else NR r k
def Qr(l:List (Int×Int))(k v:Int):List (Int×Int):=
 match l with
 |[]=>[(k,v)]
 |(j,u)::r=>if k=j then(j,v)::r else(j,u)::Qr r k v
def wh(T:TT)(d:Fr)(b:Nat):List Ce->List (Nat×Operand)->(List Ce->Prop)->Prop
 |a,[],k=>k a
 |a,(i,x)::r,k=>
  match(ev d x).cells with
  |some c=>bif Nat.beq c.length b&&Nat.ble (i*b+c.length) a.length then wh T d b (lI a (i*b) c) r k else False
  |none=>False
def RP(n:Nat)(b:Fr)(d:Option Nat)(m:E)(t:Nat)(l:List Ce)(k:Fr->SV->E->Prop):Prop:=
 match d with
 |some a=>match gK b (n+a)with
  | .yG _ _ _=>False
  |_=>NQ (m.push (.cells (bE l) t)) λc=>k ((n+a,.box m.size t l)::b) (.c (.bp (n+a) m.size 0)) c
 |none=>NQ (m.push (.cells (bE l) t)) λc=>k b (.c (.p m.size 0)) c
def Od(n:Nat)(c:Fr)(m:E)(x:SV)(l:List Ce)(k:Fr->SV->E->Prop):Prop:=
 match x with
 | .c (.p b o)=>fq m b o l.length/\NQ (aj m b o l) λa=>zd (Lv n c []) m a (k c .un a)
 | .c (.bp q b o)=>match gK c q with
  | .box d f e=>bif Nat.ble (o+l.length) e.length then NJ d b (NQ (aj m b o l) λa=>k ((q,.box d f (iO e o l))::c) .un a)else False
  | .yG _ _ _=>False
  |_=>fq m b o l.length/\NQ (aj m b o l) λa=>zd (Lv n c []) m a (k c .un a)
 |_=>False
def wr(P:Program)(T:TT)(G:List Nat)(n:Nat)(a:Fr)(m:E)(h:Option Nat)(o:Nat)(k:Fr->SV->E->Prop):Op->Prop
 | .alloc t=>match fx T t with
  |some f=>bif f.tS then False else RP n a h m t (f.sh.map Sh.zero) k
  |none=>False
 | .box t x=>match(ev a x).cells with
  |some l=>match Eu a l with
   |some d=>RP n d h m t l k
   |none=>False
  |none=>False
 | .buildSlice t g i=>match fx T t with
  |some ⟨.slice e,_,_⟩=>match fx T e with
   |some c=>bif c.tS||!(Nat.ble (g*c.sh.length) 16777216)then False else
    wh T a c.sh.length (mf (c.sh.map Sh.zero) g) i.toList λl=>match Eu a l with
     |some d=>NQ (m.push (.cells (bE l) e)) λb=>k d (.c (.s (.mk m.size 0 g g))) b
     |none=>False
   |none=>False
  |_=>False
 | .store t x y=>match(ev a y).cells,fx T t with
  |some l,some f=>bif f.tS||!(Nat.beq l.length f.sh.length)then False else match Eu a l with
   |some d=>Od n d m (ev a x) l k
   |none=>False
  |_,_=>False
 | .makeSlice t x y=>match fx T t,ev a x,ev a y with
  |some ⟨.slice e,_,_⟩,.c (.i l),.c (.i f)=>match fx T e with
   |some c=>bif c.tS then False else 0<=l/\l<=f/\(c.bytes:Int)*f<=281474976710656/\f<=9223372036854775807/\
    NQ (m.push (.cells (bE (mf (c.sh.map Sh.zero) f.toNat)) e)) λb=>k a (.c (.s (.mk m.size 0 l.toNat f.toNat))) b
   |none=>False
  |_,_,_=>False
 | .makeFunc g first f=>bif first.toList.all (λx=>(ev a x).ju)&&f.toList.all (λx=>(ev a x).ju)then
  match Tn a (first.toList.map (ev a)++f.toList.map (ev a))with
  |some d=>k d (.c (.fn g (first.toList.map λx=>(ev a x).v).toArray (f.toList.map λx=>(ev a x).v).toArray)) m
  |none=>False
  else False
 | .makeMap _ none=>NQ (m.push (.map #[] 0)) λb=>k a (.c (.mp m.size)) b
 | .lookup t x y false=>match fx T t,ev a x,ev a y with
  |some ⟨.map f g,_,_⟩,.c (.mp d),.c (.i n)=>match fx T f,fx T g with
   |some ⟨.cell,[.I],_⟩,some ⟨.cell,[.I],_⟩=>∃l,TJ m d l/\k a (.c (.i (NR l n))) m
   |_,_=>False
  |_,_,_=>False
 | .mapUpdate t x y z=>match fx T t,ev a x,ev a y,ev a z with
  |some ⟨.map f _,_,_⟩,.c (.mp d),.c (.i g),.c (.i v)=>match fx T f with
   |some ⟨.cell,[.I],_⟩=>∃l,TJ m d l/\∀b,TJ b d (Qr l g v)->b.size=m.size->(∀j,j≠d->b[j]? =m[j]?)->zd (Lv n a []) m b (k a .un b)
   |_=>False
  |_,_,_,_=>False
 | .call ⟨.value f,d,_⟩=>SW P T G n a m o f d.toList k
 | .call ⟨.builtin .append,d,f⟩=>match d.toList,f.toList with
  |[x,y],[t,u]=>match fx T t,fx T u,ev a x,ev a y with
   |some ⟨.slice e,_,_⟩,some ⟨.slice _,_,_⟩,.c (.s s),.c (.s z)=>match fx T e with
    |some c=>bif c.tS||Nat.beq c.bytes 0 then False else jb m e (c.sh.map Sh.zero) c.bytes s z λr b=>zd (Lv n a []) m b (k a (.c (.s r)) b)
    |none=>False
   |_,_,_,_=>False
  |_,_=>False
 | .call ⟨.builtin .copy,d,f⟩=>match d.toList,f.toList with
  |[x,y],t::_=>match fx T t,ev a x,ev a y with
   |some ⟨.slice e,_,_⟩,.c (.s s),.c (.s z)=>match fx T e with
    |some c=>bif c.tS then False else WH m c.sh.length s z λx b=>zd (Lv n a []) m b (k a x b)
    |none=>False
   |_,_,_=>False
  |_,_=>False
 |_=>False
def Gt(P:Program)(g:Nat):Bool:=
 match P.funcs[g]? with
 |some a=>!(a.name== "runtime.NumGoroutine")&&a.body.isSome
 |none=>false
def UC(P:Program)(G:List Nat):Prop:=G.all (Gt P)=true
def PJ(a:List Ce):∀(n i:Nat),i<n*a.length->(mf a n)[i]? =a[i%a.length]?
 |0,i,h=>by simp at h
 |n+1,i,h=>by
  have c:0<a.length:=by
   rcases iS a.length with e|e
   .rw[e]at h;simp at h
   .exact e
  have e:mf a (n+1)=a++mf a n:=by simp[mf,p7]
  rw[e,List.getElem?_append];split
  .rename_i b;rw[Nat.mod_eq_of_lt b]
  .rename_i b;rw[PJ a n (i -a.length) (by rw[fZ,Nat.one_mul]at h;omega)];congr 1;rw[Nat.mod_eq_sub_mod (by omega:i>=a.length)]
def mE(a:List Ce)(n:Nat):(mf a n).length=n*a.length:=by
 simp[mf]
def HR(a:List Ce)(z:Array Value)(d:z.toList=a.map Ce.v)(n:Nat):
 (Array.range (n*a.length)).map (λi=>z[i%z.size]!)=bE (mf a n):=by
 apply AF
 intro i
 have j:z.size=a.length:=by rw[<-Zo,d];simp
 by_cases b:i<n*a.length
 .have f:=PJ a n i b
  have h:0<a.length:=by
   rcases iS a.length with e|e
   .rw[e]at b;simp at b
   .exact e
  have g:i%a.length<a.length:=Nat.mod_lt _ h
  have c:(bE (mf a n))[i]? =((mf a n)[i]?).map Ce.v:=by simp[bE]
  rw[c,f,<-bT,<-d]
  simp[b,j,g]
 .have c:(bE (mf a n))[i]? =none:=by simp[bE,mE];omega
  rw[c]
  simp[b]
end Go.Vc
end
section
namespace Go.Vc
variable{c:SV}{l:List Ce}{t:TypeId}
variable{d:Program}{T:TT}{G:List Nat}
def Ce.U9(c:Ce):c.v.oneCell'=true:=by
 cases c with
 |s y=>cases y<;>rfl
 |_=>rfl
def kA:∀(l:List Ce)(w:World)(b o:Nat),(w.setCells b o (l.map Ce.v)).heap=aj w.heap b o l
 |[],_,_,_=>rfl
 |c::r,w,b,o=>by
  simp only[cA,World.setCells,aj];rw[kA r,NY]
def qv:∀(l:List Value)(w:World)(a o:Nat),oI w (w.setCells a o l)
 |[],w,_,_=>oI.aH w
 |c::r,w,a,o=>by
  simp only[World.setCells];exact oI.trans (b:=w.setCell ⟨a,o,none⟩ c) ⟨rfl,rfl,rfl⟩ (qv r _ a (o+1))
def De(l:List Ce)(b o:Nat)(w:World)(h:fq w.heap b o l.length):
 (storeCells ⟨b,o,none⟩ (l.map Ce.v)).run d w=.ok () (w.setCells b o (l.map Ce.v)):=by
 have:=run_storeCells_cells (P:=d) b o (l.map Ce.v) 0 w
  (λj a=>by have:=(h j (by simpa using a)).1;rw[yI];simpa using this)
  (λj a=>by have:=(h j (by simpa using a)).2;rw[Qe];simpa using this)
  (λv a=>by obtain⟨c,_,rfl⟩:=List.mem_map.1 a;exact c.U9)
 simpa using this
def Po(l:List Ce)(b o:Nat)(a:World)(h:gN a.heap b o l):(loadCells ⟨b,o,none⟩ l.length).run d a=.ok (bE l) a:=by
 have:=run_loadCells_list (P:=d) (w:=a) ⟨b,o,none⟩ (l.map Ce.v) (λj v c=>by
  rw[uR,yI];rw[bT]at c;obtain⟨e,f,rfl⟩:=Option.map_eq_some_iff.1 c;exact h j e f)
 simpa[bE]using this
section
variable{n:Nat}{b:Fr}{a:Act}{m:E}{k:Fr->SV->E->Prop}{e:Option Tmp}{f:TypeId}{i:String}{g:Array Edge}{h:Option (Nat×Bool)}
def Eh(d:Program)(n:Nat)(a:Act)(m:E)(o:Oper)(k:Fr->SV->E->Prop):Prop:=
 ∀(w:World),w.heap=m->∀(f:Act->World->Prop)(Q:Exit->Act->World->Prop),
  (∀e c v b,k e c b.heap->jM n e a->Bx n e b.heap->c.Is v->oI w b->f (a.put o.dst v) b)->o.wp d a w f Q
def jw{o:Oper}{e:Fr}{v:Value}{w b:World}(h:jM n e a)(g:Bx n e b.heap)(p:c.Is v)(m:oI w b)(i:k e c b.heap)(l:(execOp a.eval o).run d w=.ok (.value v) b)
 {f:Act->World->Prop}{Q:Exit->Act->World->Prop}(j:∀e c v b,k e c b.heap->jM n e a->Bx n e b.heap->c.Is v->oI w b->f (a.put o.dst v) b):o.wp d a w f Q:=by
 unfold Oper.wp
 rw[l]
 exact j e c v b i h g p m
def MO{i:Option Nat}{t:Nat}(g:jM n b a)(f:Bx n b m)(h:RP n b i m t l k):
 ∃d c,jM n d a/\Bx n d (m.push (.cells (bE l) t))/\c.Is (.pointer (some ⟨m.size,0,none⟩))/\k d c (m.push (.cells (bE l) t)):=by
 unfold RP at h
 split at h
 .split at h
  .exact h.elim
  .rename_i e _ j
   exact⟨(n+e,.box m.size t l)::b,.c (.bp (n+e) m.size 0),g.cons _ (λ_=>trivial),f.new (Nat.le_add_right _ _) t l,rfl,h⟩
 .exact⟨b,.c (.p m.size 0),g,f.push _,rfl,h⟩
def Py(s:jM n b a)(g:Bx n b m)(h:Od n b m c l k):
 ∃p d o,jM n p a/\Bx n p (aj m d o l)/\(∀v,c.Is v->v=.pointer (some ⟨d,o,none⟩))/\fq m d o l.length/\k p .un (aj m d o l):=by
 unfold Od at h
 split at h
 .obtain⟨q,r⟩:=lP h.2
  exact⟨_,_,_,s,g.de q,λv e=>e,h.1,r⟩
 .split at h
  .rename_i w d o _ i j f u
   cases t:Nat.ble (o+l.length) f.length
   .rw[t]at h;exact h.elim
   .rw[t]at h
    obtain⟨rfl,h⟩:=h
    have x:cB m i j f:=g.aC w i j f (Or.inl u)
    exact⟨(w,.box i j (iO f o l))::b,_,_,s.cons _ (λ_=>trivial),g.vM u o l,λv e=>e,x.fq (kY t),h⟩
  .exact h.elim
  .obtain⟨q,r⟩:=lP h.2
   exact⟨_,_,_,s,g.de q,λv e=>e,h.1,r⟩
 .exact h.elim
def P4(y:tI d T)(s:jM n b a)(q:Bx n b m)(j:wr d T G n b m e f k (.alloc t)):Eh d n a m ⟨e,.alloc t,f,i,g,h⟩ k:=by
 intro l D L Q B
 subst D;simp only[wr]at j;split at j
 .rename_i p C;cases o:p.tS
  .rw[o]at j;obtain⟨I,F,H,K⟩:=vh y C o;have z:I.cells=bE (p.sh.map Sh.zero):=by apply Array.toList_inj.1;simp[F,bE]
   obtain⟨J,c,u,r,E,A⟩:=MO s q j;refine jw (w:=l) (c:=c) (v:=.pointer (some ⟨l.heap.size,0,none⟩)) (b:={l with heap:=l.heap.push (.cells (bE (p.sh.map Sh.zero)) t)}) u r E ⟨rfl,rfl,rfl⟩ A ?_ B;simp[execOp,Instr.alloc,H,newVar,newRow,z]
  .rw[o]at j;exact j.elim
 .exact j.elim
def S0(p:jM n b a)(q:Bx n b m){c:Operand}(j:wr d T G n b m e f k (.box t c)):Eh d n a m ⟨e,.box t c,f,i,g,h⟩ k:=by
 intro o F L Q E
 subst F;simp only[wr]at j;split at j
 .rename_i l D;split at j
  .rename_i K A;obtain⟨y,s⟩:=pN A p q;obtain⟨B,z⟩:=oN D;obtain⟨J,I,u,r,H,C⟩:=MO y s j;refine jw (w:=o) (c:=I) (v:=.pointer (some ⟨o.heap.size,0,none⟩)) (b:={o with heap:=o.heap.push (.cells (bE l) t)}) u r H ⟨rfl,rfl,rfl⟩ C ?_ E;simp[execOp,Instr.box,newVar,newRow,p.eq rfl B,z,bE]
  .exact j.elim
 .exact j.elim
def LF(q:jM n b a)(y:Bx n b m){o:Fn}{first l:Array Operand}(j:wr d T G n b m e f k (.makeFunc o first l)):Eh d n a m ⟨e,.makeFunc o first l,f,i,g,h⟩ k:=by
 intro r D F Q C
 subst D;simp only[wr]at j;cases p:(first.toList.all (λc=>(ev b c).ju)&&l.toList.all (λc=>(ev b c).ju))
 .rw[p]at j;exact j.elim
 .rw[p]at j;simp only[bK]at p;obtain⟨u,x⟩:=p;have s:(first.toList.map λc=>(ev b c).v).toArray=first.map a.eval:=by
   apply Array.toList_inj.1;simp[AO q u]
  have t:(l.toList.map λc=>(ev b c).v).toArray=l.map a.eval:=by
   apply Array.toList_inj.1;simp[AO q x]
  simp only[jr]at j;split at j
  .rename_i E B;obtain⟨A,z⟩:=pN B q y;refine jw (w:=r) (b:=r) A z (v:=.func o (first.map a.eval) (l.map a.eval)) ?_ (oI.aH r) j ?_ C
   .show Value.func o (first.map a.eval) (l.map a.eval)=Value.func o _ _;rw[s,t]
   .simp[execOp,Instr.makeFunc]
  .exact j.elim
def Ip(p:jM n b a)(e:Nat):
 ∀(q:List (Nat×Operand))(d:List Ce)(k:List Ce->Prop),wh T b e d q k->
  ∃l,k l/\Instr.fill (λi=>some (i*e,e)) (d.map Ce.v).toArray (q.map λf=>(f.1,a.eval f.2))=some (l.map Ce.v).toArray
 |[],d,k,h=>⟨d,h,rfl⟩
 |(i,c)::z,d,k,h=>by
  simp only[wh]at h;split at h
  .rename_i f x;cases g:(Nat.beq f.length e&&Nat.ble (i*e+f.length) d.length)
   .rw[g]at h;exact h.elim
   .rw[g]at h;simp only[bK]at g;obtain⟨m,o⟩:=g;have m:=br m;have o:=kY o;obtain⟨l,u,w⟩:=Ip p e z (lI d (i*e) f) k h;refine⟨l,u,?_⟩;obtain⟨v,t⟩:=oN x;have y:a.eval c=(ev b c).v:=p.eq rfl v;simp only[cA,Instr.fill,y,t,CK,dP,m];rw[ae bS,<-w];congr 1;apply AF;intro j;have r:=MJ (f.map Ce.v) 0 (i*e) (d.map Ce.v).toArray j;rw[<-aag,Zp];have s:=AU d (i*e) f j o;rw[show((List.map Ce.v (lI d (i*e) f)).toArray)[j]? =((lI d (i*e) f)[j]?).map Ce.v by simp,s];rw[r];simp;split<;>split<;>first|rfl|(exfalso;omega)|(congr 1;omega)
  .exact h.elim
def IB(B:tI d T)(D:jM n b a)(N:Bx n b m){j:Nat}{z:Array (Nat×Operand)}(o:wr d T G n b m e f k (.buildSlice t j z)):Eh d n a m ⟨e,.buildSlice t j z,f,i,g,h⟩ k:=by
 intro q U ad Z Q
 subst U;simp only[wr]at o;split at o
 .rename_i L sh aa S;split at o
  .rename_i p H;cases r:(p.tS||!(Nat.ble (j*p.sh.length) 16777216))
   .rw[r]at o;simp only[bW,aah]at r;have ab:=kY r.2;have I:=(jO (B.xy S)).1;obtain⟨K,W,X,ac⟩:=vh B H r.1;have F:=λq=>jQ B H r.1 q;obtain⟨l,y,s⟩:=Ip D _ _ _ _ o;cases C:Eu b l with
    |none=>rw[C]at y;exact y.elim
    |some u=>
    rw[C]at y;obtain⟨P,O⟩:=pN C D N;refine jw (w:=q) (c:=.c (.s (.mk q.heap.size 0 j j))) (v:=.slice (some ⟨q.heap.size,0,none⟩) j j) (b:={q with heap:=q.heap.push (.cells (bE l) L)}) P (O.push _) rfl ⟨rfl,rfl,rfl⟩ y ?_ Q;have E:(z.map λu=>(u.1,a.eval u.2)).toList=z.toList.map λu=>(u.1,a.eval u.2):=aJ;have Y:K.cells.toList=(p.sh.map Sh.zero).map Ce.v:=by simp[W]
    have J:(p.sh.map Sh.zero).length=p.sh.length:=aJ;have kZ:=HR (p.sh.map Sh.zero) K.cells Y j;rw[J]at kZ;by_cases A:j*p.sh.length=0
    .have R:mf (p.sh.map Sh.zero) j=[]:=by
      apply List.length_eq_zero_iff.1;rw[mE,J,A]
     rw[R]at s;simp only[execOp,Instr.buildSlice,Sem.run_bind,run_underlying I,Result.andThen_ok,F,A];simp only[E];have M:(Array.map (λc=>(default:Value)) (Array.range 0))=#[]:=aJ;simp at s⊢;rw[M,s];simp[newRow,bE]
    .simp only[execOp,Instr.buildSlice,Sem.run_bind,run_underlying I,Result.andThen_ok,F,A,mG];have:¬(j*p.sh.length>2^24):=V;simp only[this,mG,X,Sem.run_bind,Sem.run_pure,Result.andThen_ok,E];rw[kZ];simp only[bE]at s⊢;simp[s,newRow]
   .rw[r]at o;exact o.elim
  .exact o.elim
 .exact o.elim
def P5(C:tI d T)(q:jM n b a)(v:Bx n b m){c y:Operand}(j:wr d T G n b m e f k (.store t c y)):Eh d n a m ⟨e,.store t c y,f,i,g,h⟩ k:=by
 intro w R Y W K
 subst R;simp only[wr]at j;split at j
 .rename_i l s I Q;cases o:(s.tS||!(Nat.beq l.length s.sh.length))
  .rw[o]at j;simp only[lV]at j;simp only[bW,aah]at o;split at j
   .rename_i X E;obtain⟨B,z⟩:=pN E q v;obtain⟨u,p,r,A,x,S,L,F⟩:=Py B z j;have J:=br o.2;obtain⟨H,D⟩:=oN I;have O:=λw=>jQ C Q o.1 w;unfold Oper.wp;have M:(execOp a.eval ⟨e,.store t c y,f,i,g,h⟩).run d w=.ok .skip (w.setCells p r (l.map Ce.v)):=by
     have N:=De (d:=d) l p r w L;have U:a.eval c=.pointer (some ⟨p,r,none⟩):=S _ (q.ev c);have V:(a.eval y).cells=(l.map Ce.v).toArray:=by rw[q.eq rfl H,D]
     simp only[execOp,Instr.storeAt,U,Instr.sureAddr,storeVar,Sem.run_bind,Sem.run_pure,Result.andThen_ok,O,V,CK,dP,J];simp[N]
    rw[M];exact K u .un undef _ (by rw[kA];exact F) A (by rw[kA];exact x) rfl (qv _ _ _ _)
   .exact j.elim
  .rw[o]at j;exact j.elim
 .exact j.elim
end
end Go.Vc
end
section
namespace Go.Vc
variable{b y f:Operand}{t:TypeId}{e:Array TypeId}
variable{c:Program}{T:TT}{G:List Nat}
section
variable{n:Nat}{g:Fr}{a:Act}{m:E}{k:Fr->SV->E->Prop}{i:Option Tmp}{h:TypeId}{o:String}{j:Array Edge}{l:Option (Nat×Bool)}
def Oo{b:Int}(e: -9223372036854775808<=b)(f:b<=9223372036854775807):IntKind.i64.wrap b=b:=by
 have a:((2:Int)^IntKind.i64.bits)=18446744073709551616:=bo;have c:((2:Int)^(IntKind.i64.bits -1))=9223372036854775808:=bo;have d:IntKind.i64.signed=true:=rfl;simp only[IntKind.wrap,a,c,d,Ni,aq];split<;>omega
def aS{b:Int}(a: -9223372036854775808<=b)(c:b<=9223372036854775807):cQ b=b:=Oo a c
def J2(s:tI c T)(u:jM n g a)(F:Bx n g m)(e:wr c T G n g m i h k (.makeSlice t b y)):Eh c n a m ⟨i,.makeSlice t b y,h,o,j,l⟩ k:=by
 intro q U ah ad J
 subst U;simp only[wr]at e;split at e
 .rename_i D sh ae p d Q Y hy;split at e
  .rename_i f z;cases r:f.tS
   .rw[r]at e;obtain⟨h0,h1,h2,h3,I⟩:=e;have S:=(jO (s.xy Q)).1;obtain⟨C,hz,ab,ag⟩:=vh s z r;obtain⟨ti,H,af,R,_⟩:=EV s z r;have P:=λq=>jQ s z r q;refine jw (w:=q) (c:=.c (.s (.mk q.heap.size 0 p.toNat d.toNat))) (v:=.slice (some ⟨q.heap.size,0,none⟩) p.toNat d.toNat) (b:={q with heap:=q.heap.push (.cells (bE (mf (f.sh.map Sh.zero) d.toNat)) D)}) u (F.push _) rfl ⟨rfl,rfl,rfl⟩ I ?_ J;have ac:C.cells.toList=(f.sh.map Sh.zero).map Ce.v:=by simp[hz]
    have B:(f.sh.map Sh.zero).length=f.sh.length:=aJ;have kZ:=HR (f.sh.map Sh.zero) C.cells ac d.toNat;rw[B]at kZ;have Z:a.eval b=.int .i64 p:=u.eq Y rfl;have aa:a.eval y=.int .i64 d:=u.eq hy rfl;have X:IntKind.i64.wrap p=p:=Oo V V;have W:IntKind.i64.wrap d=d:=Oo V V;have K:¬d<0:=V;have L:¬((f.bytes:Int)*d>2^48):=by
     have:(2:Int)^48=281474976710656:=bo;omega
    have M:¬p<0:=V;have N:¬p>d:=V;simp only[execOp,Instr.makeSlice,Sem.run_bind,run_underlying S,Result.andThen_ok,asInt,asIntOf,Z,aa,Sem.run_pure,R,X,W,H];simp only[K,L,M,N,decide_false,Vx,ft,mG];simp only[Sem.run_bind,Sem.run_pure,Result.andThen_ok,run_askRoom,P];by_cases A:d.toNat*f.sh.length=0
    .have O:mf (f.sh.map Sh.zero) d.toNat=[]:=by
      apply List.length_eq_zero_iff.1;rw[mE,B,A]
     rw[O];have E:(Array.map (λb=>(default:Value)) (Array.range 0))=#[]:=aJ;simp[A,newRow,bE];rw[E]
    .simp only[A,mG,Sem.run_bind,ab,Result.andThen_ok,Sem.run_pure];rw[kZ];simp[newRow]
   .rw[r]at e;exact e.elim
  .exact e.elim
 .exact e.elim
def J5:∀{c:List Sh}{k:List Ce->Prop},Uw c k->∃l,k l
 |[],_,h=>⟨_,h⟩
 |_::_,_,⟨b,h⟩=>let⟨_,a⟩:=J5 h;⟨_,a⟩
def Ev:∀{e:List Nat}{k:List AV->Prop},RH T e k->∃l,k l
 |[],_,h=>⟨_,h⟩
 |t::e,k,h=>by
  simp only[RH]at h;split at h
  .obtain⟨l,c⟩:=J5 h;obtain⟨d,a⟩:=Ev c;exact⟨_,a⟩
  .obtain⟨b,c⟩:=h;obtain⟨d,a⟩:=Ev c;exact⟨_,a⟩
  .obtain⟨b,c⟩:=h;obtain⟨d,a⟩:=Ev c;exact⟨_,a⟩
  .exact h.elim
def RX{t:Nat}{v:Value}{k:SV->Prop}(h:Pm T t v k):∃b:SV,b.Is v/\k b:=by
 unfold Pm at h;split at h
 .exact⟨.iP,trivial,h⟩
 .obtain⟨l,c,a⟩:=Ev h;exact⟨.Xc l,c,a⟩
 .obtain⟨l,c,a⟩:=J5 h;exact⟨.agg l,c,a⟩
 .rename_i s _ _;obtain⟨b,c,a⟩:=h;exact⟨.c (s.mk b),c,a⟩
 .obtain⟨b,c,a⟩:=h;exact⟨.c (.s b),c,a⟩
 .exact h.elim
def J1(z:UC c G)(A:jM n g a){q:Fr}(B:jM n q a)(y:Bx n q m){d:Array Operand}{p:Nat}{first s:Array Value}(E:a.eval f=.func (.func p) first s)
 (H:G.elem p=true)(J:d.toList.all (λb=>(ev g b).ju)=true)
 (x:aP c p (first.toList++(d.toList.map λb=>(ev g b).v)++s.toList) m λv r=>zd (Lv n q []) m r (Pm T h v λb=>k q b r)):
 Eh c n a m ⟨i,.call ⟨.value f,d,e⟩,h,o,j,l⟩ k:=by
 intro w O V R K
 subst O
 have r:Gt c p=true:=List.all_eq_true.1 z p (by simpa using H)
 have C:d.map a.eval=(d.toList.map λb=>(ev g b).v).toArray:=by
  apply Array.toList_inj.1;simp[<-AO A J]
 unfold Gt at r
 split at r
 .rename_i u F
  simp only[bK,gC]at r
  have D:u.body.isNone=false:=by cases U:u.body<;>simp_all
  have L:(execOp a.eval ⟨i,.call ⟨.value f,d,e⟩,h,o,j,l⟩).run c w=
   .ok (.enter p (first.toList++(d.toList.map λb=>(ev g b).v)++s.toList).toArray) w:=by
   simp only[execOp,resolve,E,C,Deferred.ofValue,Sem.run_bind,Sem.run_pure,Result.andThen_ok,invoke,callFunc,run_program,F,r.1,D,ft,mG]
   simp
  unfold Oper.wp
  rw[L]
  show Calls c p _ w _
  refine(x w rfl).mono ?_
  rintro S Q ⟨v,rfl,M,t⟩
  obtain⟨N,t⟩:=lP t
  obtain⟨b,P,I⟩:=RX t
  exact K q b v Q I B (y.de N) P M
 .simp at r
def RF(v:UC c G)(q:jM n g a)(y:Bx n g m){r:Array Operand}(d:wr c T G n g m i h k (.call ⟨.value f,r,e⟩)):Eh c n a m ⟨i,.call ⟨.value f,r,e⟩,h,o,j,l⟩ k:=by
 simp only[wr,SW]at d;split at d
 .exact d.elim
 rename_i D z;obtain⟨w,u⟩:=pN z q y;split at d
 .rename_i s first x t
  cases p:(G.elem s&&r.toList.all (λb=>(ev g b).ju))
  .rw[p]at d;exact d.elim
  .rw[p]at d;simp only[bK]at p;exact J1 v q w u (q.eq t rfl) p.1 p.2 d
 .rename_i x t;cases p:(r.toList.all (λb=>(ev g b).ju))
  .rw[p]at d;exact d.elim
  .rw[p]at d;obtain⟨s,A,B,d⟩:=d;have C:a.eval f=.func (.func s) x.2.1 x.2.2:=by
    rw[<-A];exact q.eq t rfl
   exact J1 v q w u C B p d
 .exact d.elim
def rK(a:c.underlying t=some (.int .i64))(e:Bool)(b:Int)(w:World):(Instr.checkKey e 10000 t (.int .i64 b)).run c w=.ok () w:=by
 have:Instr.checkKey e 10000 t (.int .i64 b)=Instr.checkKey e (9999+1) t (.int .i64 b):=rfl;rw[this];generalize 9999=d;simp[Instr.checkKey,run_underlying a]
def yM(b:Int):∀(a:List MapEntry)(l:List (Int×Int))(i:Nat),a.map (λe=>(e.key,e.val))=l.map (λp=>(Value.int .i64 p.1,Value.int .i64 p.2))->
 (Instr.findNow (.int .i64) (.int .i64 b) a i=some none/\NR l b=0/\(∀v,Qr l b v=l++[(b,v)]))\/
 ∃j u,Instr.findNow (.int .i64) (.int .i64 b) a i=some (some (i+j,.int .i64 u))/\NR l b=u/\j<a.length/\l[j]? =some (b,u)/\∀v,Qr l b v=l.set j (b,v)
 |[],[],i,_=>Or.inl ⟨rfl,rfl,λv=>rfl⟩
 |[],_::_,i,h=>by simp at h
 |_::_,[],i,h=>by simp at h
 |e::a,(j,u)::l,i,h=>by
  simp only[cA,List.cons.injEq,Nl]at h;obtain⟨⟨r,s⟩,h⟩:=h;have k:Instr.sameNow (.int .i64) (.int .i64 b) e.key=some (b==j):=by rw[r];simp[Instr.sameNow]
  by_cases c:b=j
  .subst c;refine Or.inr ⟨0,u,?_,?_,aJ,aJ,?_⟩
   .simp[Instr.findNow,k,s]
   .simp[NR]
   .intro v;simp[Qr]
  .have m:(b==j)=false:=by simpa using c
   rcases yM b a l (i+1) h with⟨d,f,g⟩|⟨q,t,d,f,g,o,p⟩
   .refine Or.inl ⟨?_,?_,?_⟩
    .simp[Instr.findNow,k,m,d]
    .simp[NR,c,f]
    .intro v;simp[Qr,c,g]
   .refine Or.inr ⟨q+1,t,?_,?_,by simpa using g,by simpa using o,?_⟩
    .have n:i+1+q=i+(q+1):=V;simp[Instr.findNow,k,m,d,n]
    .simp[NR,c,f]
    .intro v;simp[Qr,c,p]
def NF(f:jM n g a)(e:Bx n g m){r:Option Operand}(d:wr c T G n g m i h k (.makeMap t r)):Eh c n a m ⟨i,.makeMap t r,h,o,j,l⟩ k:=by
 intro b q s Q p
 subst q;cases r with
 |some r=>exact d.elim
 |none=>
  refine jw (w:=b) (c:=.c (.mp b.heap.size)) (v:=.map (some b.heap.size)) (b:={b with heap:=b.heap.push (.map #[] 0)}) f (e.push _) rfl ⟨rfl,rfl,rfl⟩ d ?_ p;simp[execOp,Instr.makeMap]
def OT(s:tI c T)(r:jM n g a)(L:Bx n g m){z:Bool}(d:wr c T G n g m i h k (.lookup t b y z)):Eh c n a m ⟨i,.lookup t b y z,h,o,j,l⟩ k:=by
 intro e W ag ad S
 subst W;cases z with
 |true=>exact d.elim
 |false=>
  simp only[wr]at d;split at d
  .rename_i kt et sh ae B f V X Y;split at d
   .rename_i b1 b2 R P;obtain⟨u,⟨C,J,O,N⟩,Q⟩:=d;have F:=(AX (s.xy V)).1;obtain⟨⟨K,hd,E⟩,_⟩:=np (s.xy R);have M:K=.int .i64:=by
     unfold yZ at E;split at E<;>simp_all
    subst M;obtain⟨A,Z,ac,ab⟩:=vh s P rfl;have aa:A=.int .i64 0:=by
     have:A.cells.toList=[Value.int .i64 0]:=Z;have U:=ab rfl;cases A<;>first|(simp[Value.cells]at this;done)|(simp[Value.cells]at this;rw[this.1,this.2])|exact absurd rfl (U _)
    have H:a.eval b=.map (some B):=r.eq X rfl;have I:a.eval y=.int .i64 f:=r.eq Y rfl;have D:(getObj B).run c e=.ok (.map C J) e:=by simp[getObj,Sem.run,O]
    refine jw (w:=e) (c:=.c (.i (NR u f))) (v:=.int .i64 (NR u f)) (b:=e) r L rfl (oI.aH e) Q ?_ S;rcases yM f C.toList u 0 N with⟨p,q,_⟩|⟨af,ah,p,q,_⟩
    .simp[execOp,Instr.lookup,run_underlying F,H,I,D,rK hd,Instr.findKey,run_underlying hd,p,ac,aa,q]
    .simp[execOp,Instr.lookup,run_underlying F,H,I,D,rK hd,Instr.findKey,run_underlying hd,p,q]
   .exact d.elim
  .exact d.elim
def J3(L:tI c T)(s:jM n g a)(K:Bx n g m){z:Operand}(r:wr c T G n g m i h k (.mapUpdate t b y z)):Eh c n a m ⟨i,.mapUpdate t b y z,h,o,j,l⟩ k:=by
 intro w hw ai ag Q
 subst hw;simp only[wr]at r;split at r
 .rename_i kt et sh ah e d v ht hx hy hz;split at r
  .rename_i b1 ae;obtain⟨Y,⟨p,q,E,x⟩,P⟩:=r;have U:=(AX (L.xy ht)).1;obtain⟨⟨Z,hd,R⟩,_⟩:=np (L.xy ae);have aa:Z=.int .i64:=by
    unfold yZ at R;split at R<;>simp_all
   subst aa;have V:a.eval b=.map (some e):=s.eq hx rfl;have W:a.eval y=.int .i64 d:=s.eq hy rfl;have X:a.eval z=.int .i64 v:=s.eq hz rfl;have N:(getObj e).run c w=.ok (.map p q) w:=by simp[getObj,Sem.run,E]
   have S:∀I,(setObj e I).run c w=.ok () {w with heap:=w.heap.setIfInBounds e I}:=λI=>by simp[setObj,Sem.run,E]
   have M:e<w.heap.size:=(Array.getElem?_eq_some_iff.1 E).1;unfold Oper.wp;rcases yM d p.toList Y 0 x with⟨C,h2,D⟩|⟨f,aj,C,h2,D,J,h5⟩
   .have H:(execOp a.eval ⟨i,.mapUpdate t b y z,h,o,j,l⟩).run c w=.ok .skip {w with heap:=w.heap.setIfInBounds e (.map (p.push {key:=.int .i64 d,val:=.int .i64 v,born:=q}) (q+1))}:=by
     simp[execOp,Instr.mapUpdate,run_underlying U,V,W,X,N,rK hd,Instr.findKey,run_underlying hd,C,S]
    rw[H];have u:=lP (P {w with heap:=w.heap.setIfInBounds e (.map (p.push {key:=.int .i64 d,val:=.int .i64 v,born:=q}) (q+1))}.heap ?_ aJ ?_)
    .exact Q g .un undef _ u.2 s (K.de u.1) rfl ⟨rfl,rfl,rfl⟩
    .refine⟨_,_,by simp[M];exact⟨rfl,rfl⟩,?_⟩;rw[D];simp[x]
    .intro f F;simp[jC (kE F)]
   .have ad:(p[f]?).map (·.key)=some (.int .i64 d):=by
     have:=tm (λA=>(A[f]?).map (·.1)) x;simpa[J]using this
    have af:(Instr.keyThatStays (.int .i64 d) (.int .i64 d)).run c w=.ok (.int .i64 d) w:=by
     simp[Instr.keyThatStays,Instr.sameBits]
    have H:(execOp a.eval ⟨i,.mapUpdate t b y z,h,o,j,l⟩).run c w=.ok .skip {w with heap:=w.heap.setIfInBounds e (.map (p.modify f λB=>{B with key:=.int .i64 d,val:=.int .i64 v}) q)}:=by
     simp only[execOp,Instr.mapUpdate,run_underlying U,V,W,X,N,rK hd,Instr.findKey,run_underlying hd,C,Sem.run_bind,Result.andThen_ok,Sem.run_pure,bG,ad,pD,af,S]
    rw[H];have u:=lP (P {w with heap:=w.heap.setIfInBounds e (.map (p.modify f λB=>{B with key:=.int .i64 d,val:=.int .i64 v}) q)}.heap ?_ aJ ?_)
    .exact Q g .un undef _ u.2 s (K.de u.1) rfl ⟨rfl,rfl,rfl⟩
    .refine⟨_,_,by simp[M];exact⟨rfl,rfl⟩,?_⟩;rw[h5];apply eM;intro A;have B:=tm (λ(q':List (Value×Value))=>q'[A]?) x;simp only[bT]at B;simp only[bT,ik,Xu,kW]at B⊢;by_cases O:f=A
     .subst O;have ac:f<Y.length:=(List.getElem?_eq_some_iff.1 J).1;have ab:f<p.size:=by simpa using D
      simp[ac,ab]
     .simp only[O,mG];exact B
    .intro f F;simp[jC (kE F)]
  .exact r.elim
 .exact r.elim
def sL(l:List Ce)(z:O)(a f:Nat)(d:l.length=a*f)(w:World)(h:gN w.heap z.aC z.off l)(e:a<=z.len):
 (Builtin.firstCells f a z.v).run c w=.ok (bE l) w:=by
 cases z with
 |nil=>
  have b:a=0:=by simp at e;omega
  have:l=[]:=List.length_eq_zero_iff.1 (by rw[d,b];simp)
  subst this
  simp[Builtin.firstCells,O.v,bE]
 |CS g i j=>
  have b:a=0:=by simp at e;omega
  have:l=[]:=List.length_eq_zero_iff.1 (by rw[d,b];simp)
  subst this
  simp[Builtin.firstCells,O.v,bE,b,loadCells,loadCellsFrom]
 |mk b o i g=>
  simp only[Builtin.firstCells,O.v,<-d]
  exact Po l b o w h
def Oq(a:List Ce)(z:Array Value)(b:z.toList=a.map Ce.v)(n:Nat):Builtin.zeroCells z n=bE (mf a n):=by
 have c:z.size=a.length:=by rw[<-Zo,b];simp
 rw[<-HR a z b n,Builtin.zeroCells,c]
def PD(l r:List Ce):bE (l++r)=bE l++bE r:=by simp[bE]
def OS(H:tI c T)(C:jM n g a)(L:Bx n g m){Z:Array Operand}(q:wr c T G n g m i h k (.call ⟨.builtin .append,Z,e⟩)):Eh c n a m ⟨i,.call ⟨.builtin .append,Z,e⟩,h,o,j,l⟩ k:=by
 intro d hw aM aE N
 subst hw;simp only[wr]at q;split at q
 .rename_i b y t aD am az;split at q
  .rename_i B sh aF e2 aN aG s z ht aA hx hy;split at q
   .rename_i f ac;cases u:(f.tS||Nat.beq f.bytes 0)
    .rw[u]at q;simp only[bW]at u;obtain⟨A,Q,ar,ah,ai⟩:=q;have e1:Z=#[b,y]:=Array.toList_inj.1 (by simpa using am);have al:e=#[t,aD]:=Array.toList_inj.1 (by simpa using az);subst e1;subst al;have U:=(jO (H.xy ht)).1;have W:=(jO (H.xy aA)).1;obtain⟨zv,hz,ak,aL⟩:=vh H ac u.1;obtain⟨ti,hb,aK,af,_⟩:=EV H ac u.1;have S:=λd=>jQ H ac u.1 d;have X:a.eval b=s.v:=C.eq hx rfl;have Y:a.eval y=z.v:=C.eq hy rfl;have E:(Builtin.lenOf z.v).run c d=.ok z.len d:=by cases z<;>simp[Builtin.lenOf,O.v,O.len]
     have aj:(f.sh.map Sh.zero).length=f.sh.length:=aJ;rw[aj]at Q;simp only[aj]at ah ai;have M:∀r:World,r.heap=d.heap->(Builtin.firstCells f.sh.length z.len z.v).run c r=.ok (bE A) r:=λr ag=>
      sL A z z.len f.sh.length Q r (by rw[ag];exact ar) (ad _)
     have ay:=s.Xd;by_cases D:s.len+z.len<=s.cap
     .obtain⟨R,p⟩:=ah D;cases s with
      |nil=>
       simp only[O.NN,O.UP]at D R p;have J:z.len=0:=V;have:A=[]:=List.length_eq_zero_iff.1 (by rw[Q,J];simp);subst this;obtain⟨ab,p⟩:=lP p;refine jw (w:=d) (c:=.c (.s .nil)) (v:=.slice none 0 0) (b:=d) C L rfl (oI.aH d) p ?_ N;have I:a.eval b=.slice none 0 0:=X;have F:=M d rfl;simp only[execOp,resolve,Sem.run_bind,Sem.run_pure,Result.andThen_ok,invoke,builtin,Builtin.append_,mF,cA,fg,I,Y];rw[J]at E F;simp[run_underlying U,run_underlying W,S,E,F]
      |CS K o0 sp=>
       simp only[O.Re,O.UO]at D R p;have J:z.len=0:=V;have:A=[]:=List.length_eq_zero_iff.1 (by rw[Q,J];simp);subst this;obtain⟨ab,p⟩:=lP p;refine jw (w:=d) (c:=.c (.s (.CS K o0 sp))) (v:=.slice (some ⟨K,o0,some sp⟩) 0 0) (b:=d) C L rfl (oI.aH d) p ?_ N;have I:a.eval b=.slice (some ⟨K,o0,some sp⟩) 0 0:=X;have F:=M d rfl;simp only[execOp,resolve,Sem.run_bind,Sem.run_pure,Result.andThen_ok,invoke,builtin,Builtin.append_,mF,cA,fg,I,Y];rw[J]at E F;simp[run_underlying U,run_underlying W,S,E,F,bE,storeCells]
      |mk F K J aa=>
       simp only[O.dU,O.ND,O.fO,O.jg]at D R p;obtain⟨ab,p⟩:=lP p;refine jw (w:=d) (c:=.c (.s (.mk F K (J+z.len) aa))) (v:=.slice (some ⟨F,K,none⟩) (J+z.len) aa) (b:=d.setCells F (K+J*f.sh.length) (A.map Ce.v)) C (by rw[kA];exact L.de ab) rfl (qv _ _ _ _) (by rw[kA];exact p) ?_ N;have an:=De (d:=c) A F (K+J*f.sh.length) d R;have I:a.eval b=.slice (some ⟨F,K,none⟩) J aa:=X;simp only[execOp,resolve,Sem.run_bind,Sem.run_pure,Result.andThen_ok,invoke,builtin,Builtin.append_,mF,cA,fg,I,Y];simp[run_underlying U,run_underlying W,S,E,D,M d rfl,uR,bE,an]
     .obtain⟨ab,old,av,ax,p⟩:=ai V;have aH:=growslice_fits (need:=s.len+z.len) (old:=s.cap) (bytes:=f.bytes) V ab;have K:f.bytes≠0:=λB=>by rw[B]at u;simp at u
      have aI:¬(((s.len+z.len:Nat):Int)>IntKind.i64.max/\f.bytes=0):=λhh=>K hh.2;have aw:∀r:World,r.heap=d.heap->(Builtin.firstCells f.sh.length s.len s.v).run c r=.ok (bE old) r:=λr ag=>
       sL old s s.len f.sh.length av r (by rw[ag];exact ax) (ad _)
      let I:Question:=.appendCap (s.len+z.len) s.cap B;let nc:=I.cut (d.tape d.drawn I);let J:World:={d with drawn:=d.drawn+1};have ap:s.len+z.len<=nc:=Nat.le_add_right _ _;refine jw (w:=d) (c:=.c (.s (.mk d.heap.size 0 (s.len+z.len) nc))) (v:=.slice (some ⟨d.heap.size,0,none⟩) (s.len+z.len) nc)
       (b:={J with heap:=d.heap.push (.cells (bE (old++A++mf (f.sh.map Sh.zero) (nc -(s.len+z.len)))) B)}) C (L.push _) rfl ⟨rfl,rfl,rfl⟩ (lP (p nc ap)).2 ?_ N
      have aC:zv.cells.toList=(f.sh.map Sh.zero).map Ce.v:=by simp[hz]
      have aa:=Oq (f.sh.map Sh.zero) zv.cells aC (nc -(s.len+z.len));have an:I.forced=false:=rfl;have aq:¬(Builtin.nextslicecap (s.len+z.len) s.cap*f.bytes>2^48):=by
       have:(2:Nat)^48=281474976710656:=bo;omega
      simp only[execOp,resolve,Sem.run_bind,Sem.run_pure,Result.andThen_ok,invoke,builtin,Builtin.append_,mF,cA,fg,X,Y];have F:=aw J rfl;have R:=M J rfl;rw[ay]at F⊢;simp only[kX,rI,gJ,Sem.run_bind,run_underlying U,run_underlying W,Result.andThen_ok,S,Sem.run_pure,E,ft,mG,D,af,hb,false_or];simp only[K,and_false,mG,aq,Sem.run_bind,run_choose,an,ft,Result.andThen_ok,af,run_askRoom,F,Lt,Ly,R,ak,aa,newRow,run_newObj,Sem.run_pure];simp[PD];rw[hb,ae V,ae (show¬(Question.appendCap (s.len+z.len) s.cap B).forced=true by simp[Question.forced])];have au:(Builtin.firstCells f.sh.length s.len (Value.slice s.cL s.len s.cap)).run c d.drew=.ok (bE old) d.drew:=F;have ao:(Builtin.firstCells f.sh.length z.len z.v).run c d.drew=.ok (bE A) d.drew:=R;simp only[af,Result.andThen_ok,au,ao,ak];have aB:Builtin.zeroCells zv.cells ((Question.appendCap (s.len+z.len) s.cap B).cut (d.tape d.drawn (Question.appendCap (s.len+z.len) s.cap B)) -(s.len+z.len))=bE (mf (f.sh.map Sh.zero) (nc -(s.len+z.len))):=aa;rw[aB];rfl
    .rw[u]at q;exact q.elim
   .exact q.elim
  .exact q.elim
 .exact q.elim
end
end Go.Vc
end
section
namespace Go.Vc
variable{b:Program}{T:TT}{G:List Nat}
section
variable{n:Nat}{c:Fr}{a:Act}{m:E}{k:Fr->SV->E->Prop}{d:Option Tmp}{e:TypeId}{h:String}{f:Array Edge}{g:Option (Nat×Bool)}
def RG(M:tI b T)(t:jM n c a)(U:Bx n c m){r:Array Operand}{K:Array TypeId}(i:wr b T G n c m d e k (.call ⟨.builtin .copy,r,K⟩)):Eh b n a m ⟨d,.call ⟨.builtin .copy,r,K⟩,e,h,f,g⟩ k:=by
 intro j hw ah ae W
 subst hw;simp only[wr]at i;split at i
 .rename_i q R ad ai V ab;split at i
  .rename_i ag sh af s z ht hx hy;split at i
   .rename_i J aa;cases u:J.tS
    .rw[u]at i;obtain⟨o,C,X,Y,y⟩:=i;obtain⟨Z,y⟩:=lP y;have S:r=#[q,R]:=Array.toList_inj.1 (by simpa using V);subst S;have E:K[0]? =some ad:=by rw[<-Xu,ab];rfl
     have F:=(jO (M.xy ht)).1;have D:=λj=>jQ M aa u j;have H:a.eval q=s.v:=t.eq hx rfl;have I:a.eval R=z.v:=t.eq hy rfl;have A:(Builtin.lenOf z.v).run b j=.ok z.len j:=by cases z<;>simp[Builtin.lenOf,O.v,O.len]
     have l:(Builtin.firstCells J.sh.length (Nat.min z.len s.len) z.v).run b j=.ok (bE o) j:=
      sL o z _ J.sh.length C j X (Nat.min_le_left _ _)
     refine jw (w:=j) (c:=.c (.i (Nat.min z.len s.len:Nat))) (v:=.int .i64 (Nat.min z.len s.len:Nat)) (b:=j.setCells s.aC s.off (o.map Ce.v)) t (by rw[kA];exact U.de Z) rfl (qv _ _ _ _) (by rw[kA];exact y) ?_ W;cases s with
     |nil=>
      have B:Nat.min z.len O.nil.len=0:=aJ;have:o=[]:=List.length_eq_zero_iff.1 (by rw[C,B];simp);subst this;have p:a.eval q=.slice none 0 0:=H;simp only[O.NN]at l⊢;simp only[execOp,resolve,Sem.run_bind,Sem.run_pure,Result.andThen_ok,invoke,builtin,Builtin.copy_,mF,cA,fg,p,I,E];simp only[kX,rI,gJ,Sem.run_bind,run_underlying F,Result.andThen_ok,A,D,l,Sem.run_pure];rfl
     |CS L N Q=>
      have B:Nat.min z.len (O.CS L N Q).len=0:=aJ;have:o=[]:=List.length_eq_zero_iff.1 (by rw[C,B];simp);subst this;have p:a.eval q=.slice (some ⟨L,N,some Q⟩) 0 0:=H;simp only[O.Re]at l⊢;simp only[execOp,resolve,Sem.run_bind,Sem.run_pure,Result.andThen_ok,invoke,builtin,Builtin.copy_,mF,cA,fg,p,I,E];simp only[kX,rI,gJ,Sem.run_bind,run_underlying F,Result.andThen_ok,A,D,l,Sem.run_pure,bE];rfl
     |mk B L ac N=>
      have Q:=De (d:=b) o B L j Y;have p:a.eval q=.slice (some ⟨B,L,none⟩) ac N:=H;simp only[O.dU]at l⊢;simp only[execOp,resolve,Sem.run_bind,Sem.run_pure,Result.andThen_ok,invoke,builtin,Builtin.copy_,mF,cA,fg,p,I,E];simp only[kX,rI,gJ,Sem.run_bind,run_underlying F,Result.andThen_ok,A,D,l,Sem.run_pure,bE,Q];rfl
    .rw[u]at i;exact i.elim
   .exact i.elim
  .exact i.elim
 .exact i.elim
def PH(o:tI b T)(u:UC b G)(l:jM n c a)(j:Bx n c m)(p:Oper)(i:wr b T G n c m p.dst p.type k p.op):Eh b n a m p k:=by
 obtain⟨d,v,e,h,f,g⟩:=p;cases v with
 |alloc t=>exact P4 o l j i
 |box t x=>exact S0 l j i
 |buildSlice t q r=>exact IB o l j i
 |store t x y=>exact P5 o l j i
 |makeSlice t x y=>exact J2 o l j i
 |makeFunc r first q=>exact LF l j i
 |makeMap t w=>exact NF l j i
 |lookup t x y q=>exact OT o l j i
 |mapUpdate t x y z=>exact J3 o l j i
 |call r=>
  obtain⟨s,t,x⟩:=r;cases s with
  |builtin q=>
   cases q with
   |append=>exact OS o l j i
   |copy=>exact RG o l j i
   |_=>exact i.elim
  |value q=>exact RF u l j i
  |invoke w q=>exact i.elim
 |_=>exact i.elim
end
end Go.Vc
end
section
namespace Go.Vc
variable{b:Array Bool}{j:Nat}{L:List (Nat×(World->Prop))}{a:Act}{w:World}
section
variable{P:Program}{eC:Array Oper}{Q:Exit->Act->World->Prop}{c:Region.Mode}{d:Nat->Nat->Bool}
def uG(P:Program)(c:Region.Mode)(eC:Array Oper)(Q:Exit->Act->World->Prop)(d:Nat->Nat->Bool)(L:List (Nat×(World->Prop))):Nat->Array Bool->Act->World->Prop
 |0,b,a,w=>Region.ready c eC b=[]/\Q .normal a w
 |g+1,b,a,w=>
  (Region.ready c eC b=[]->Q .normal a w)/\
  ∀i∈Region.ready c eC b,wpOp P eC Q i (λf e=>(∀x∈L,d i x.1=false->x.2 w->x.2 e)/\uG P c eC Q d L g (b.setIfInBounds i true) f e) a w
def Lq{L:List (Nat×(World->Prop))}:∀(e:Nat)(b:Array Bool)(a:Act)(w:World),uG P c eC Q d L e b a w->wpAny P c eC Q e b a w
 |0,_,_,_,h=>h
 |e+1,_,_,_,h=>⟨h.1,λj i=>wpOp_mono (λf k g=>Lq e _ f k g.2) (h.2 j i)⟩
def CI{L f:List (Nat×(World->Prop))}(i:∀x∈f,x∈L):∀(e:Nat)(b:Array Bool)(a:Act)(w:World),uG P c eC Q d L e b a w->uG P c eC Q d f e b a w
 |0,_,_,_,h=>h
 |e+1,_,_,_,h=>⟨h.1,λm k=>wpOp_mono (λj n g=>⟨λx l=>g.1 x (i x l),CI i e _ j n g.2⟩) (h.2 m k)⟩
def Gg(d:Nat->Nat->Bool)(b:Array Bool):Prop:=∀i,b.getD i false=true->∀r,d i r=true->b.getD r false=true
def Uy(c:Region.Mode)(eC:Array Oper)(d:Nat->Nat->Bool):Prop:=
 ∀(i r:Nat)(o:Oper),eC[i]? =some o->d i r=true->∃e∈o.after,Region.binds c e=true/\(e.on=r\/d e.on r=true)
def wj(i:Uy c eC d)(k:Gg d b)(m:j∈Region.ready c eC b){r:Nat}(o:d j r=true):b.getD r false=true:=by
 obtain⟨_,p,n,f⟩:=mem_ready.1 m;obtain⟨e,l,g,h⟩:=i j r p n o;have a:=f e l g;rcases h with rfl|h
 .exact a
 .exact k _ a r h
def Gg.set(h:Uy c eC d)(a:Gg d b)(k:j∈Region.ready c eC b):Gg d (b.setIfInBounds j true):=by
 intro i e r g;by_cases f:j=i
 .subst f;exact getD_set_true (wj h a k g)
 .rw[getD_set_ne false f]at e;exact getD_set_true (a i e r g)
def Gd{i:Nat}{k:Oper}{E:Value}{S:World->Prop}(G:Uy c eC d)(B:eC[i]? =some k)(N:∀(j:Nat)(O:Oper) p o,eC[j]? =some O->O.op≠.select p o)
 (U:∀e a w,Q (.panic e) (a.put k.dst E) w->Q (.panic e) a w):
 ∀(q:Nat)(b:Array Bool)(a:Act)(w:World),Gg d b->
  (∀j l,eC[j]? =some l->j≠i->b.getD j true=false->(∀e∈l.after,Region.binds c e=true->e.on≠i)->k.apart eC l=true)->
  i∈Region.ready c eC b->YieldsIf P eC S k E a->S w->
  uG P c eC Q d ((i,S)::L) q (b.setIfInBounds i true) (a.put k.dst E) w->uG P c eC Q d L (q+1) b a w:=by
 intro q
 induction q with
 |zero=>
  intro b a w _ _ g x v H
  refine⟨λh=>(by rw[h]at g;cases g),λj m=>?_⟩
  by_cases f:j=i
  .subst f;exact x.wpOp B v ⟨λy _ _ h=>h,H⟩
  .have:=ready_mono m f
   rw[H.1]at this
   cases this
 |succ q ih=>
  intro b a w I J g x v H
  refine⟨λh=>(by rw[h]at g;cases g),λj m=>?_⟩
  by_cases f:j=i
  .subst f;exact x.wpOp B v ⟨λy _ _ h=>h,CI (λy D=>ah _ D) _ _ _ _ H⟩
  .have t:=H.2 j (ready_mono m f)
   obtain⟨M,l,C,V⟩:=mem_ready.1 m
   have r:b.getD i false=false:=by
    have F:=(mem_ready.1 g).1;rcases aX i b.size with z|z
    .simp[z]at F⊢;exact F
    .simp[HT z]
   have ac:∀e∈l.after,Region.binds c e=true->e.on≠i:=λe X A Y=>by
    have t:=V e X A;rw[Y,r]at t;cases t
   have W:d j i=false:=by
    cases A:d j i
    .rfl
    .have:=wj G I m A;rw[r]at this;cases this
   have T:=wpOp_putIf C (J j l C f M ac) (λp o=>N i k p o B) (λp o=>N j l p o C) U x t
   have Z:∀n s,eC[n]? =some s->n≠i->(b.setIfInBounds j true).getD n true=false->
    (∀e∈s.after,Region.binds c e=true->e.on≠i)->k.apart eC s=true:=λn s hk aa r ab=>by
    refine J n s hk aa ?_ ab
    by_cases K:j=n
    .subst K;exact M
    .rw[getD_set_ne true K]at r;exact r
   refine wpOp_mono (λR w' u=>⟨λy D=>u.2.1 y (ah _ D),
    ih (b.setIfInBounds j true) R w' (I.set G m) Z (ready_mono g (kE f)) u.1 (u.2.1 (i,S) aZ W v) ?_⟩) T
   rw[Array.setIfInBounds_comm _ _ f]
   exact u.2.2
def QI{e:Nat}(j:Region.ready c eC b≠[])
 (h:∀i∈Region.ready c eC b,wpOp P eC Q i (λg f=>(∀x∈L,d i x.1=false->x.2 w->x.2 f)/\uG P c eC Q d L e (b.setIfInBounds i true) g f) a w):
 uG P c eC Q d L (e+1) b a w:=⟨λf=>absurd f j,h⟩
def PG(e:Region.ready c eC b=[])(h:Q .normal a w):
 ∀f,uG P c eC Q d L f b a w
 |0=>⟨e,h⟩
 |_+1=>⟨λ_=>h,by rw[e];simp⟩
end
end Go.Vc
end
section
namespace Go.Vc
variable{o:Oper}{a:Act}{m:E}
variable{b:Program}{T:TT}{G:List Nat}{n:Nat}
def Kl:Op->Bool
 | .alloc _| .box ..| .buildSlice ..| .store ..| .makeSlice ..| .makeMap ..| .lookup ..| .mapUpdate ..| .makeFunc ..=>true
 | .call ⟨.builtin .append,_,_⟩| .call ⟨.builtin .copy,_,_⟩=>true
 | .call ⟨.builtin _,_,_⟩=>false
 | .call _=>true
 |_=>false
def rp(n:Nat):Option Nat->Bool
 |none=>true
 |some d=>Nat.blt d n
def Ke(eC:List Oper)(j:Nat):Option Nat:=
 match GN eC j with
 |some o=>o.dst
 |none=>none
def gd(eC:List Oper)(a:Fr)(g:Option (Nat×Bool))(Oy b:Fr->Prop):Prop:=
 match g with
 |none=>Oy a
 |some (j,c)=>match Ke eC j with
  |none=>False
  |some d=>match gK a d with
   | .tt=>bif c then Oy a else b a
   | .ff=>bif c then b a else Oy a
   | .un=>b a
   | .c (.t x)=>(x=true->bif c then Oy ((d,.tt)::a)else b ((d,.tt)::a))/\(x=false->bif c then b ((d,.ff)::a)else Oy ((d,.ff)::a))
   |_=>False
def rH(b:Program)(T:TT)(G:List Nat)(n:Nat)(eC:List Oper):List Oper->Fr->E->(Fr->E->Prop)->Prop
 |[],a,m,k=>k a m
 |o::jZ,a,m,k=>
  bif rp n o.dst then
   gd eC a o.guard
    (λa=>bif Kl o.op then wr b T G n a m o.dst o.type (λc x d=>rH b T G n eC jZ (tr c o.dst x) d k) o.op
     else rd T a m (λx=>rH b T G n eC jZ (tr a o.dst x) m k) o.op)
    (λa=>rH b T G n eC jZ (tr a o.dst .un) m k)
  else False
def yK:List Oper->List Nat
 |[]=>[]
 |o::r=>match o.dst with
  |some d=>d::yK r
  |none=>yK r
def lS(M:List Nat)(a b:Act):Prop:=∀t,t∉M->b.tmps.getD t undef=a.tmps.getD t undef
def lS.aH(M:List Nat)(a:Act):lS M a a:=λ_ _=>rfl
def lS.trans{M:List Nat}{a b c:Act}(h:lS M a b)(k:lS M b c):lS M a c:=λt d=>(k t d).trans (h t d)
def lS.put{M:List Nat}{d:Option Nat}(hd:∀t,d=some t->t∈M)(v:Value)(a:Act):lS M a (a.put d v):=by
 cases d with
 |none=>exact lS.aH M a
 |some d=>
  intro t c;have b:d≠t:=λe=>c (e▸hd d rfl);simp[Act.put,jC b]
def Kn{d:Nat}(hd:o.dst=some d):∀(eC:List Oper),o∈eC->d∈yK eC:=by
 intro eC;induction eC with
 |nil=>intro h;cases h
 |cons x r b=>
  intro h;rcases List.mem_cons.1 h with a|a
  .subst a;simp only[yK,hd];exact aZ
  .have:=b a;unfold yK;cases x.dst with
   |none=>exact this
   |some e=>exact ah _ this
def CR{d:Option Nat}(h:rp n d=true):∀t,d=some t->t<n:=by
 rintro t rfl;have:Nat.blt t n=true:=h;simpa[Nat.blt,Nat.succ_le_iff]using this
def HQ(k:Array Oper){d:Fr}(f:jM n d a)(e:Bx n d m)(o:Oper){Oy z:Fr->Prop}(h:gd k.toList d o.guard Oy z):
 (Region.wanted o (yielded k a.tmps)=true/\∃b,Oy b/\jM n b a/\Bx n b m)\/
 (Region.wanted o (yielded k a.tmps)=false/\∃b,z b/\jM n b a/\Bx n b m):=by
 unfold gd at h
 cases b:o.guard with
 |none=>
  rw[b]at h
  exact Or.inl ⟨by simp[Region.wanted,b],d,h,f,e⟩
 |some C=>
  obtain⟨r,v⟩:=C
  rw[b]at h
  simp only at h
  split at h
  .exact h.elim
  .rename_i g hd
   have y:(k[r]?).bind (·.dst)=some g:=by
    unfold Ke at hd;rw[oV]at hd;have B:k.toList[r]? =k[r]? :=aJ;rw[B]at hd;split at hd
    .rename_i i c;rw[c];exact hd
    .simp at hd
   have i:=f.aQ g
   have w:∀j:Bool,a.tmps.getD g undef=.bool j->yielded k a.tmps r=some j:=by
    intro j l;have:a.tmps[g]? =some (.bool j):=by
     cases q:a.tmps[g]? with
     |none=>rw[yy,q]at l;simp[undef]at l
     |some t=>rw[yy,q]at l;simp at l;rw[l]
    simp[yielded,y,this]
   split at h
   .rename_i p
    rw[p]at i
    have c:=w true i
    cases v
    .exact Or.inr ⟨by simp[Region.wanted,b,c],d,h,f,e⟩
    .exact Or.inl ⟨by simp[Region.wanted,b,c],d,h,f,e⟩
   .rename_i p
    rw[p]at i
    have c:=w false i
    cases v
    .exact Or.inl ⟨by simp[Region.wanted,b,c],d,h,f,e⟩
    .exact Or.inr ⟨by simp[Region.wanted,b,c],d,h,f,e⟩
   .rename_i p
    rw[p]at i
    have c:yielded k a.tmps r=none:=by
     have s:a.tmps.getD g undef=undef:=i;rw[yy]at s;unfold yielded;rw[y];cases q:a.tmps[g]? with
     |none=>simp[q]
     |some t=>rw[q]at s;simp at s;subst s;simp[q,undef]
    exact Or.inr ⟨by simp[Region.wanted,b,c],d,h,f,e⟩
   .rename_i x p
    rw[p]at i
    have c:=w x i
    have u:∀j:Bool,x=j->jM n ((g,if j then SV.tt else SV.ff)::d) a:=by
     rintro j rfl;refine⟨f.size,f.defers,λA=>?_⟩;simp only[gK];cases l:Nat.beq g A
     .exact f.aQ A
     .have:=br l;subst this;cases x<;>exact i
    obtain⟨s,t⟩:=h
    cases x
    .have t:=t rfl
     cases v
     .exact Or.inl ⟨by simp[Region.wanted,b,c],_,t,u false rfl,e.iP aJ⟩
     .exact Or.inr ⟨by simp[Region.wanted,b,c],_,t,u false rfl,e.iP aJ⟩
    .have s:=s rfl
     cases v
     .exact Or.inr ⟨by simp[Region.wanted,b,c],_,s,u true rfl,e.iP aJ⟩
     .exact Or.inl ⟨by simp[Region.wanted,b,c],_,s,u true rfl,e.iP aJ⟩
   .exact h.elim
def Yx(g:tI b T){c:Fr}(f:jM n c a)(e:Bx n c m){k:SV->Prop}(h:rd T c m k o.op){w:World}(p:w.heap=m)
 {d:Act->World->Prop}{Q:Exit->Act->World->Prop}(j:∀x v,k x->x.Is v->d (a.put o.dst v) w):o.wp b a w d Q:=by
 obtain⟨x,v,i,q,l⟩:=Kz (P:=b) g f e o h
 unfold Oper.wp
 rw[l w (λr _=>by rw[p])]
 exact j x v i q
def ui(l:tI b T)(s:UC b G)(c:Array Oper){Q:Exit->Act->World->Prop}{K:World}{H:Act}:
 ∀(jZ:List Oper)(d:Fr)(m:E)(k:Fr->E->Prop)(a:Act)(w:World),(∀o∈jZ,o∈c.toList)->rH b T G n c.toList jZ d m k->jM n d a->Bx n d m->w.heap=m->oI K w->
  lS (yK c.toList) H a->
  (∀g e f,k g f.heap->jM n g e->Bx n g f.heap->oI K f->lS (yK c.toList) H e->Q .normal e f)->wpList b c Q jZ a w
 |[],d,m,k,a,w,_,h,y,v,e,r,p,q=>by
  subst e;exact q d a w h y v r p
 |o::jZ,d,m,k,a,w,I,h,y,v,e,r,p,q=>by
  simp only[rH]at h;cases hd:rp n o.dst
  .rw[hd]at h;exact h.elim
  .rw[hd]at h;simp only[jr]at h;have z:=CR hd;have A:∀u,o.dst=some u->u∈yK c.toList:=λu N=>Kn N _ (I o aZ);have B:=λS P=>I S (ah _ P);unfold wpList;rcases HQ c y v o h with⟨D,g,t,j,i⟩|⟨D,g,O,j,i⟩
   .rw[ao D];refine .inl ?_;cases J:Kl o.op
    .simp only[J,lV]at t;refine Yx l j i t e λV U F C=>?_;exact ui l s c jZ _ m k _ w B F (j.put C z) (i.put _ _) e r (p.trans (lS.put A _ _)) q
    .simp only[J,jr]at t;refine PH l s j i o t w e _ _ λW V U f F M L C R=>?_;exact ui l s c jZ _ _ k _ f B F (M.put C z) (L.put _ _) rfl (r.trans R) (p.trans (lS.put A _ _)) q
   .rw[ae (by rw[D];simp)];exact ui l s c jZ _ m k _ w B O (j.put (x:=.un) rfl z) (i.put _ _) e r (p.trans (lS.put A _ _)) q
end Go.Vc
end
section
namespace Go.Vc
variable{P:Program}{T:TT}{G:List Nat}{n:Nat}
def tv:List Nat->Nat->Nat
 |[],_=>0
 |x::_,0=>x
 |_::r,n+1=>tv r n
def kQ:List Edge->Nat
 |[]=>0
 |e::r=>bif Region.binds .any e then 2^e.on|||kQ r else kQ r
def nt(a:List Nat):List Edge->Nat
 |[]=>0
 |e::r=>bif Region.binds .any e then(2^e.on|||tv a e.on)|||nt a r else nt a r
def kJ(a:List Nat):List Oper->List Nat->List Nat->Bool
 |[],[],[]=>true
 |o::eC,p::d,b::c=>Nat.beq p (kQ o.after.toList)&&Nat.beq b (nt a o.after.toList)&&kJ a eC d c
 |_,_,_=>false
def Rj:Op->List Operand
 | .alloc _| .ready _| .waits _=>[]
 | .move x| .assign x| .box _ x| .load _ x| .nilCheck x| .unOp _ _ x| .convert _ _ x| .sliceToArrayPointer _ x| .makeInterface _ x
 | .makeChan _ x| .fieldAddr _ x _| .field _ x _| .range _ x| .next x _| .entry x| .typeAssert x _ _ _| .extract x _| .panic x| .recv _ x _=>[x]
 | .pick c a b=>[c,a,b]
 | .build _ b| .buildSlice _ _ b=>b.toList.map (·.2)
 | .store _ a v| .binOp _ _ a v _| .makeSlice _ a v| .indexAddr _ a v| .index _ a v| .lookup _ a v _| .mapEntry _ a v| .send a v=>[a,v]
 | .makeFunc _ first a=>first.toList++a.toList
 | .makeMap _ r=>r.toList
 | .slice _ x l h m=>[x]++l.toList++h.toList++m.toList
 | .mapUpdate _ m k v| .entryStore _ m k v| .insert _ m k v=>[m,k,v]
 | .call ⟨.value f,a,_⟩| .go ⟨.value f,a,_⟩| .defer ⟨.value f,a,_⟩=>f::a.toList
 | .call ⟨.invoke f _,a,_⟩| .go ⟨.invoke f _,a,_⟩| .defer ⟨.invoke f _,a,_⟩=>f::a.toList
 | .call ⟨.builtin _,a,_⟩| .go ⟨.builtin _,a,_⟩| .defer ⟨.builtin _,a,_⟩=>a.toList
 | .select a _=>(a.flatMap λc=>#[c.chan]++c.send.toArray).toList
def TU(a:Op):a.operands.toList=Rj a:=by
 cases a<;>try (simp[Op.operands,Rj];done)
 all_goals
  rename_i c
  obtain⟨b,d,e⟩:=c
  cases b<;>simp[Op.operands,Rj,Call.operands]
def Iw(d:Nat):List Operand->Bool
 |[]=>false
 | .tmp t::r=>Nat.beq t d||Iw d r
 |_::r=>Iw d r
def NP(eC:List Oper)(o:Oper)(d:Nat):Bool:=
 Iw d (Rj o.op)||(match o.guard with
  |some (g,_)=>(match Ke eC g with|some t=>Nat.beq t d|none=>false)
  |none=>false)
def Nx(eC:List Oper)(x y:Oper):Bool:=
 (match x.dst with
  |some d=>!NP eC y d&&(match y.dst with|some e=>!Nat.beq d e|none=>true)
  |none=>true)&&
 (match y.dst with
  |some d=>!NP eC x d
  |none=>true)
def Xa:Op->Bool
 | .select ..=>true
 |_=>false
def yF(b:List Oper)(i:Nat)(a:Nat)(o:Oper):Nat->List Oper->List Nat->Bool
 |_,[],_=>true
 |_,_,[]=>true
 |j,x::eC,p::c=>(Nat.beq j i||Nat.testBit p i||Nat.testBit a j||Nx b o x)&&yF b i a o (j+1) eC c
def El(a:List Oper)(b:List Nat):Nat->List Oper->List Nat->Bool
 |_,[],_=>true
 |_,_,[]=>true
 |i,o::eC,c::d=>!Xa o.op&&(Kl o.op||yF a i c o 0 a b)&&El a b (i+1) eC d
def jX(done p i:Nat):Bool:=!(Nat.testBit done i)&&Nat.beq (p&&&done) p
def vW(done:Nat):Nat->List Oper->List Nat->Option Nat
 |_,[],_=>none
 |_,_,[]=>none
 |i,o::eC,p::a=>bif jX done p i&&!(Kl o.op)then some i else vW done (i+1) eC a
def oX(done:Nat):Nat->List Oper->List Nat->List Nat
 |_,[],_=>[]
 |_,_,[]=>[]
 |i,_::eC,p::a=>bif jX done p i then i::oX done (i+1) eC a else oX done (i+1) eC a
def KG(m a:E):List (Nat×Nat)->Prop->Prop
 |[],k=>k
 |(b,o)::r,k=>af a b o=af m b o/\KG m a r k
def CC(a:Nat)(m b:E):List (Nat×List (Nat×Nat))->Prop->Prop
 |[],k=>k
 |(r,c)::L,k=>bif Nat.testBit a r then CC a m b L k else KG m b c (CC a m b L k)
def Nw:List Nat->(Nat->Prop)->Prop
 |[],_=>True
 |[i],f=>f i
 |i::r,f=>f i/\Nw r f
def nR(P:Program)(T:TT)(G:List Nat)(n:Nat)(eC:List Oper)(b c:List Nat):Nat->Nat->Fr->E->List (Nat×List (Nat×Nat))->(Fr->E->Prop)->Prop
 |0,done,a,m,_,k=>match oX done 0 eC b with
  |[]=>k a m
  |_=>False
 |d+1,done,a,m,L,k=>
  match vW done 0 eC b with
  |some i=>match GN eC i with
   |some o=>bif rp n o.dst then
    gd eC a o.guard
     (λa=>rd T a m (λx=>nR P T G n eC b c d (done|||2^i) (tr a o.dst x) m ((i,Si T a o.op)::L) k) o.op)
     (λa=>nR P T G n eC b c d (done|||2^i) (tr a o.dst .un) m L k)
    else False
   |none=>False
  |none=>match oX done 0 eC b with
   |[]=>k a m
   |g=>Nw g λi=>match GN eC i with
    |some o=>bif rp n o.dst then
     gd eC a o.guard
      (λa=>wr P T G n a m o.dst o.type (λf x e=>CC (tv c i) m e L (nR P T G n eC b c d (done|||2^i) (tr f o.dst x) e L k)) o.op)
      (λa=>nR P T G n eC b c d (done|||2^i) (tr a o.dst .un) m L k)
     else False
    |none=>False
def mK(r:Nat):∀(a:List Edge),Nat.testBit (kQ a) r=true<->∃e∈a,Region.binds .any e=true/\e.on=r
 |[]=>by simp[kQ]
 |e::a=>by
  have c:=mK r a;simp only[kQ];cases b:Region.binds .any e
  .simp only[lV,c,aW,exists_eq_or_imp,b];simp
  .simp only[jr,Uq,cD,c,aW,exists_eq_or_imp,b,true_and,Ms,aq]
def xw(b:List Nat)(r:Nat):∀(a:List Edge),Nat.testBit (nt b a) r=true->∃e∈a,Region.binds .any e=true/\(e.on=r\/Nat.testBit (tv b e.on) r=true)
 |[],h=>by simp[nt]at h
 |e::a,h=>by
  have i:=xw b r a;simp only[nt]at h;cases f:Region.binds .any e
  .simp only[f,lV]at h;obtain⟨c,g,d⟩:=i h;exact⟨c,ah _ g,d⟩
  .simp only[f,jr,Uq,cD,Ms,aq]at h;rcases h with h|h
   .exact⟨e,aZ,f,h⟩
   .obtain⟨c,g,d⟩:=i h;exact⟨c,ah _ g,d⟩
def ly(c:List Nat):∀{eC:List Oper}{e a:List Nat},kJ c eC e a=true->∀(i:Nat)(o:Oper),eC[i]? =some o->
 e[i]? =some (kQ o.after.toList)/\tv a i=nt c o.after.toList/\∃b,a[i]? =some b
 |[],[],[],_,i,o,h=>by simp at h
 |x::eC,p::e,b::a,h,i,o,d=>by
  simp only[kJ,bK]at h;obtain⟨⟨f,g⟩,j⟩:=h;cases i with
  |zero=>
   simp at d;subst d;exact⟨by simp[br f],by simp[tv,br g],b,aJ⟩
  |succ i=>
   have:=ly c j i o (by simpa using d);simpa[tv]using this
 |[],[],_::_,h,_,_,_=>by simp[kJ]at h
 |[],_::_,_,h,_,_,_=>by simp[kJ]at h
 |_::_,[],_,h,_,_,_=>by simp[kJ]at h
 |_::_,_::_,[],h,_,_,_=>by simp[kJ]at h
def Ii(c:List Nat):∀{eC:List Oper}{b a:List Nat},kJ c eC b a=true->b.length=eC.length/\a.length=eC.length
 |[],[],[],_=>⟨rfl,rfl⟩
 |x::eC,p::b,d::a,h=>by
  simp only[kJ,bK]at h;have:=Ii c h.2;simp[this.1,this.2]
 |[],[],_::_,h=>by simp[kJ]at h
 |[],_::_,_,h=>by simp[kJ]at h
 |_::_,[],_,h=>by simp[kJ]at h
 |_::_,_::_,[],h=>by simp[kJ]at h
end Go.Vc
end
section
namespace Go.Vc
variable{N a:Nat}{b:Array Bool}
variable{P:Program}{T:TT}{G:List Nat}{n:Nat}
def ta{d:Nat}:∀{a:List Operand},Iw d a=false->d∉(a.filterMap λ| .tmp t=>some t|_=>none)
 |[],_=>aJ
 |x::r,h=>by
  cases x with
  |tmp t=>
   simp only[Iw,bW]at h;have b:=ta h.2;have:t≠d:=λe=>by subst e;simp at h
   simp only[List.filterMap_cons,aW,uJ];exact⟨λe=>this e.symm,b⟩
  |const v=>simpa using ta (a:=r) (by simpa[Iw]using h)
  |global g=>simpa using ta (a:=r) (by simpa[Iw]using h)
  |func f=>simpa using ta (a:=r) (by simpa[Iw]using h)
def Tu(a:Array Oper)(g:Nat):Ke a.toList g=(a[g]?).bind (·.dst):=by
 unfold Ke;rw[oV];have e:a.toList[g]? =a[g]? :=aJ;rw[e];cases a[g]? <;>rfl
def Ig(b:Array Oper){o:Oper}{d:Nat}(h:NP b.toList o d=false):d∉o.looksAt b:=by
 simp only[NP,bW]at h;unfold Oper.looksAt;rw[TU,lE,uJ];refine⟨ta h.1,?_⟩;have a:=h.2;cases c:o.guard with
 |none=>simp
 |some p=>
  obtain⟨g,f⟩:=p;rw[c]at a;simp only at a⊢;rw[Tu]at a;cases hd:(b[g]?).bind (·.dst)with
  |none=>simp
  |some t=>
   rw[hd]at a;simp only at a;simp only[Option.toList_some,fP];intro e;subst e;simp at a
def OL(b:Array Oper){x y:Oper}(h:Nx b.toList x y=true):x.apart b y=true:=by
 simp only[Nx,bK]at h;obtain⟨a,d⟩:=h;unfold Oper.apart;simp only[bK];constructor
 .cases i:x.dst with
  |none=>rfl
  |some f=>
   rw[i]at a;simp only[bK,gC]at a⊢;refine⟨?_,?_⟩
   .have:=Ig b a.1;simpa using this
   .have c:=a.2;cases e:y.dst with
    |none=>simp
    |some j=>
     rw[e]at c;simp only[gC]at c;simp only[uH,ne_eq,CL];intro g;subst g;simp at c
 .cases e:y.dst with
  |none=>rfl
  |some f=>
   rw[e]at d;simp only[gC]at d⊢;have:=Ig b d;simpa using this
def Co(g:List Oper)(a d:Nat)(o:Oper):∀{eC:List Oper}{i:List Nat}{c:Nat},yF g a d o c eC i=true->∀(j:Nat)(x:Oper)(p:Nat),eC[j]? =some x->i[j]? =some p->
 c+j=a\/Nat.testBit p a=true\/Nat.testBit d (c+j)=true\/Nx g o x=true
 |[],_,_,_,j,x,p,h,_=>by simp at h
 |_::_,[],_,_,j,x,p,_,h=>by simp at h
 |y::eC,q::i,c,h,j,x,p,f,e=>by
  simp only[yF,bK,cD]at h;obtain⟨b,l⟩:=h;cases j with
  |zero=>
   simp at f e;subst f;subst e;rcases b with((b|b)|b)|b
   .exact Or.inl (by simpa using br b)
   .exact Or.inr (Or.inl b)
   .exact Or.inr (Or.inr (Or.inl (by simpa using b)))
   .exact Or.inr (Or.inr (Or.inr b))
  |succ j=>
   have:=Co g a d o l j x p (by simpa using f) (by simpa using e);have k:c+1+j=c+(j+1):=V;rw[k]at this;exact this
def vP(d:List Oper)(i:List Nat):∀{eC:List Oper}{e:List Nat}{c:Nat},El d i c eC e=true->∀(a:Nat)(o:Oper)(b:Nat),eC[a]? =some o->e[a]? =some b->
 Xa o.op=false/\(Kl o.op=true\/yF d (c+a) b o 0 d i=true)
 |[],_,_,_,a,o,b,h,_=>by simp at h
 |_::_,[],_,_,a,o,b,_,h=>by simp at h
 |y::eC,q::e,c,h,a,o,b,g,f=>by
  simp only[El,bK,cD,gC]at h;obtain⟨⟨k,l⟩,m⟩:=h;cases a with
  |zero=>simp at g f;subst g;subst f;exact⟨k,by simpa using l⟩
  |succ a=>
   have:=vP d i m a o b (by simpa using g) (by simpa using f);have j:c+1+a=c+(a+1):=V;rw[j]at this;exact this
def If(p d:Nat):Nat.beq (p&&&d) p=true<->∀r,Nat.testBit p r=true->Nat.testBit d r=true:=by
 constructor
 .intro h r a;have e:=br h;rw[<-e,Nat.testBit_and]at a;simp only[bK]at a;exact a.2
 .intro h;have:p&&&d=p:=by
   apply Nat.eq_of_testBit_eq;intro r;rw[Nat.testBit_and];cases a:Nat.testBit p r
   .rfl
   .simp[h r a]
  rw[this];simp
structure Nn(N done:Nat)(b:Array Bool):Prop where
 size:b.size=N
 XT:∀a,b.getD a false=Nat.testBit done a
def Nn.un{done:Nat}(h:Nn N done b)(c:a<N):b.getD a true=Nat.testBit done a:=by
 rw[<-h.XT a];have:a<b.size:=by rw[h.size];exact c
 simp[this]
def Nn.set{done:Nat}(h:Nn N done b)(c:a<N):Nn N (done|||2^a) (b.setIfInBounds a true):=by
 refine⟨by simp[h.size],λj=>?_⟩;have d:a<b.size:=by rw[h.size];exact c
 rw[Uq,Ms];by_cases e:a=j
 .subst e;simp[d]
 .rw[getD_set_ne false e,h.XT j];simp[e]
def GY(d:Array Oper){q h r:List Nat}(n:kJ h d.toList q r=true){done:Nat}(g:Nn d.size done b)(a:Nat):
 a∈Region.ready .any d b<->∃o p,d[a]? =some o/\q[a]? =some p/\jX done p a=true:=by
 rw[mem_ready]
 constructor
 .rintro⟨m,o,c,s⟩
  have k:a<d.size:=(Array.getElem?_eq_some_iff.1 c).1
  have l:=(ly h n a o (by simpa using c)).1
  refine⟨o,_,c,l,?_⟩
  simp only[jX,bK,gC]
  refine⟨by rw[<-g.un k];exact m,(If _ _).2 λt e=>?_⟩
  obtain⟨f,j,i,rfl⟩:=(mK t _).1 e
  rw[<-g.XT]
  exact s f (Array.mem_toList_iff.1 j) i
 .rintro⟨o,p,c,l,e⟩
  have k:a<d.size:=(Array.getElem?_eq_some_iff.1 c).1
  have m:=(ly h n a o (by simpa using c)).1
  rw[l]at m
  simp only[CL]at m
  subst m
  simp only[jX,bK,gC]at e
  refine⟨by rw[g.un k];exact e.1,o,c,λf j i=>?_⟩
  rw[g.XT]
  exact(If _ _).1 e.2 f.on ((mK _ _).2 ⟨f,Array.mem_toList_iff.2 j,i,rfl⟩)
def Ko(done:Nat):∀{eC:List Oper}{d:List Nat}{b a:Nat},a∈oX done b eC d<->∃j o p,a=b+j/\eC[j]? =some o/\d[j]? =some p/\jX done p a=true
 |[],_,_,_=>by simp[oX]
 |_::_,[],_,_=>by simp[oX]
 |x::eC,q::d,b,a=>by
  have g:=Ko done (eC:=eC) (d:=d) (b:=b+1) (a:=a);have h:(∃j o p,a=b+j/\(x::eC)[j]? =some o/\(q::d)[j]? =some p/\jX done p a=true)<->
   ((a=b/\jX done q b=true)\/∃j o p,a=b+1+j/\eC[j]? =some o/\d[j]? =some p/\jX done p a=true):=by
   constructor
   .rintro⟨j,o,p,rfl,f,e,c⟩
    cases j with
    |zero=>simp at e;subst e;exact Or.inl ⟨rfl,by simpa using c⟩
    |succ j=>exact Or.inr ⟨j,o,p,V,by simpa using f,by simpa using e,by rwa[show b+(j+1)=b+(j+1)from rfl]at c⟩
   .rintro(⟨rfl,c⟩|⟨j,o,p,rfl,f,e,c⟩)
    .exact⟨0,x,q,rfl,aJ,aJ,c⟩
    .exact⟨j+1,o,p,V,by simpa using f,by simpa using e,c⟩
  rw[h,<-g];simp only[oX];cases c:jX done q b
  .simp
  .simp
def H4(done:Nat):∀{eC:List Oper}{d:List Nat}{c a:Nat},vW done c eC d=some a->∃j o p,a=c+j/\eC[j]? =some o/\d[j]? =some p/\jX done p a=true/\Kl o.op=false
 |[],_,_,_,h=>by simp[vW]at h
 |_::_,[],_,_,h=>by simp[vW]at h
 |x::eC,q::d,c,a,h=>by
  simp only[vW]at h;cases b:(jX done q c&&!(Kl x.op))
  .rw[b]at h;obtain⟨j,o,p,rfl,e,f,g,i⟩:=H4 done h;exact⟨j+1,o,p,V,by simpa using e,by simpa using f,g,i⟩
  .rw[b]at h;simp at h;subst h;simp only[bK,gC]at b;exact⟨0,x,q,rfl,aJ,aJ,b.1,b.2⟩
def My:∀{l:List Nat}{f:Nat->Prop},Nw l f->∀a∈l,f a
 |[a],f,h,j,b=>by simp at b;subst b;exact h
 |a::c::r,f,h,j,b=>by
  rcases List.mem_cons.1 b with rfl|b
  .exact h.1
  .exact My h.2 j b
def KH{m b:E}:∀{l:List (Nat×Nat)}{k:Prop},KG m b l k->k/\∀q∈l,af b q.1 q.2=af m q.1 q.2
 |[],k,h=>⟨h,aJ⟩
 |(e,o)::r,k,h=>by
  obtain⟨c,d⟩:=KH h.2;refine⟨c,λq a=>?_⟩;rcases List.mem_cons.1 a with rfl|a
  .exact h.1
  .exact d q a
def D0{c:Nat}{m g:E}:∀{L:List (Nat×List (Nat×Nat))}{k:Prop},CC c m g L k->k/\∀x∈L,Nat.testBit c x.1=false->∀q∈x.2,af g q.1 q.2=af m q.1 q.2
 |[],k,h=>⟨h,aJ⟩
 |(r,l)::L,k,h=>by
  simp only[CC]at h;cases f:Nat.testBit c r
  .rw[f]at h;obtain⟨i,j⟩:=KH h;obtain⟨d,e⟩:=D0 i;refine⟨d,λx a b=>?_⟩;rcases List.mem_cons.1 a with rfl|a
   .exact j
   .exact e x a b
  .rw[f]at h;obtain⟨d,e⟩:=D0 h;refine⟨d,λx a b=>?_⟩;rcases List.mem_cons.1 a with rfl|a
   .rw[f]at b;cases b
   .exact e x a b
def Zy(L:List (Nat×List (Nat×Nat)))(b:List (Nat×(World->Prop))):Prop:=
 ∀x∈b,(∀w,x.2 w)\/∃(a:List (Nat×Nat))(c:Nat×Nat->Option Value),(x.1,a)∈L/\x.2=λw=>∀q∈a,af w.heap q.1 q.2=c q
end Go.Vc
end
section
namespace Go.Vc
variable{a:Program}{T:TT}{G:List Nat}{n:Nat}
def On(hT:tI a T)(hG:UC a G)(b:Array Oper)(U f:List Nat)(z:kJ f b.toList U f=true)(an:El b.toList U 0 b.toList f=true)
 {ag:Exit->Act->World->Prop}(hQ:∀N g w,¬ag (.panic N) g w){w0:World}{a0:Act}:
 ∀(F done:Nat)(D:Fr)(ac:E)(L:List (Nat×List (Nat×Nat)))(B:Fr->E->Prop)(M:List (Nat×(World->Prop)))(c:Array Bool)(g:Act)(w:World),
  nR a T G n b.toList U f F done D ac L B->Zy L M->Nn b.size done c->Gg (λi K=>Nat.testBit (tv f i) K) c->jM n D g->Bx n D ac->w.heap=ac->oI w0 w->
  lS (yK b.toList) a0 g->
  (∀s d k,B s k.heap->jM n s d->Bx n s k.heap->oI w0 k->lS (yK b.toList) a0 d->ag .normal d k)->
  uG a .any b ag (λi K=>Nat.testBit (tv f i) K) M F c g w:=by
 have H:Uy .any b (λi K=>Nat.testBit (tv f i) K):=by
  intro i K o d p;have X:=(ly f z i o (by simpa using d)).2.1;simp only[X]at p;obtain⟨e,he,hb,h⟩:=xw f K _ p;exact⟨e,Array.mem_toList_iff.1 he,hb,h⟩
 have aF:=Ii f z
 have av:∀(j:Nat)(o:Oper) cs r,b[j]? =some o->o.op≠.select cs r:=by
  intro j o cs r d e;obtain⟨_,_,bj,ay⟩:=ly f z j o (by simpa using d);have:=(vP _ _ an j o bj (by simpa using d) ay).1;rw[e]at this;simp[Xa]at this
 have al:∀{done:Nat}{c:Array Bool},Nn b.size done c->∀i,i∈Region.ready .any b c<->i∈oX done 0 b.toList U:=by
  intro done c hD i;rw[GY b z hD i,Ko];constructor
  .rintro⟨o,R,d,O,p⟩;exact⟨i,o,R,V,by simpa using d,O,p⟩
  .rintro⟨j,o,R,e,d,O,p⟩;have:i=j:=V;subst this;exact⟨o,R,by simpa using d,O,p⟩
 have au:∀{done:Nat}{c:Array Bool},Nn b.size done c->oX done 0 b.toList U=[]->Region.ready .any b c=[]:=by
  intro done c hD h;apply List.eq_nil_iff_forall_not_mem.2;intro i m;rw[al hD i,h]at m;cases m
 intro F
 induction F with
 |zero=>
  intro done D ac L B M c g w h hL hD hC hR hB hw hs hk hq
  subst hw
  simp only[nR]at h
  split at h
  .rename_i h0
   exact⟨au hD h0,hq D g w h hR hB hs hk⟩
  .exact h.elim
 |succ F Q=>
  intro done D ac L B M c g w h hL hD hC hR hB hw hs hk hq
  subst hw
  simp only[nR]at h
  split at h
  · -- a reading is taken first
   rename_i i m
   obtain⟨j,o,R,e,d,O,p,aD⟩:=H4 done m
   have:i=j:=V
   subst this
   rw[oV,d]at h
   simp only at h
   have A:b[i]? =some o:=by simpa using d
   have aa:i<b.size:=(Array.getElem?_eq_some_iff.1 A).1
   have ab:i∈Region.ready .any b c:=(GY b z hD i).2 ⟨o,R,A,O,p⟩
   cases hd:rp n o.dst
   .rw[hd]at h;exact h.elim
   .rw[hd]at h
    simp only[jr]at h
    have Y:=CR hd
    have Z:∀C,o.dst=some C->C∈yK b.toList:=λC ai=>Kn ai _ (iV d)
    have aq:∀j I,b[j]? =some I->j≠i->c.getD j true=false->(∀e∈I.after,Region.binds .any e=true->e.on≠i)->o.apart b I=true:=by
     intro j I ak aA ar aB;have az:j<b.size:=(Array.getElem?_eq_some_iff.1 ak).1;obtain⟨_,aE,bi,ap⟩:=ly f z i o d;rcases(vP _ _ an i o bi d ap).2 with t|t
     .rw[aD]at t;cases t
     .have W:=(ly f z j I (by simpa using ak)).1;have u:tv f i=bi:=by
       have:∀(l:List Nat)(i r:Nat),l[i]? =some r->tv l i=r:=by
        intro l;induction l with
        |nil=>intro i r h;simp at h
        |cons ad l Q=>intro i r h;cases i with
         |zero=>simpa[tv]using h
         |succ i=>simpa[tv]using Q i r (by simpa using h)
       exact this f i bi ap
      rcases Co _ _ _ _ t j I _ (by simpa using ak) W with e|e|e|e
      .exact absurd V aA
      .rw[bG]at e;obtain⟨q,y,hb,J⟩:=(mK i _).1 e;exact absurd J (aB q (Array.mem_toList_iff.1 y) hb)
      .rw[bG,<-u]at e;have:=wj H hC ab e;rw[hD.XT]at this;rw[hD.un az,this]at ar;cases ar
      .exact OL b e
    rcases HQ b hR hB o h with⟨J,s,am,y,u⟩|⟨J,s,aj,y,u⟩
    .obtain⟨ad,aw,hx,hv,aC⟩:=Kz (P:=a) hT y u o am
     let ax:World->Prop:=λk=>∀q∈Si T s o.op,af k.heap q.1 q.2=af w.heap q.1 q.2
     refine Gd (S:=ax) H A av (λN g w hc=>absurd hc (hQ _ _ _)) F c g w hC aq ab (E:=aw) (Or.inl ⟨J,λk l=>aC k l⟩) (λq _=>rfl) ?_
     refine Q _ _ _ _ B _ _ _ w hx ?_ (hD.set aa) (hC.set H ab) (y.put hv Y) (u.put _ _) rfl hs (hk.trans (lS.put Z _ _)) hq
     intro W l
     rcases List.mem_cons.1 l with rfl|l
     .exact Or.inr ⟨_,λq=>af w.heap q.1 q.2,aZ,rfl⟩
     .rcases hL W l with t|⟨As,N,X,h2⟩
      .exact Or.inl t
      .exact Or.inr ⟨As,N,ah _ X,h2⟩
    .refine Gd (S:=λ_=>True) H A av (λN g w hc=>absurd hc (hQ _ _ _)) F c g w hC aq ab (E:=undef) (Or.inr ⟨J,rfl⟩) trivial ?_
     refine Q _ _ _ _ B _ _ _ w aj ?_ (hD.set aa) (hC.set H ab) (y.put (x:=.un) rfl Y) (u.put _ _) rfl hs (hk.trans (lS.put Z _ _)) hq
     intro W l
     rcases List.mem_cons.1 l with rfl|l
     .exact Or.inl λ_=>trivial
     .exact hL W l
  .split at h
   .rename_i h0
    exact PG (au hD h0) (hq D g w h hR hB hs hk) _
   .rename_i rs ax
    have ar:=My h
    refine QI ?_ ?_
    .intro e
     apply ax
     cases I:oX done 0 b.toList U with
     |nil=>rfl
     |cons ad xs=>
      have:ad∈Region.ready .any b c:=(al hD ad).2 (by rw[I];exact aZ)
      rw[e]at this
      cases this
    .intro i m
     have I:=ar i ((al hD i).1 m)
     obtain⟨o,R,A,O,p⟩:=(GY b z hD i).1 m
     have d:b.toList[i]? =some o:=by simpa using A
     have aa:i<b.size:=(Array.getElem?_eq_some_iff.1 A).1
     rw[oV,d]at I
     simp only at I
     cases hd:rp n o.dst
     .rw[hd]at I;exact I.elim
     .rw[hd]at I
      simp only[jr]at I
      have Y:=CR hd
      have Z:∀C,o.dst=some C->C∈yK b.toList:=λC ai=>Kn ai _ (iV d)
      unfold wpOp
      simp only[A]
      rcases HQ b hR hB o I with⟨J,s,am,y,u⟩|⟨J,s,aj,y,u⟩
      .rw[ao J]
       refine .inl (PH hT hG y u o am w rfl _ _ λaD ad aw k hx aq ap hv az=>?_)
       obtain⟨aA,aB⟩:=D0 hx
       refine⟨λW l aC ab=>?_,Q _ _ _ L B M _ _ k aA hL (hD.set aa) (hC.set H m) (aq.put hv Y) (ap.put _ _) rfl (hs.trans az) (hk.trans (lS.put Z _ _)) hq⟩
       rcases hL W l with t|⟨As,N,X,h2⟩
       .exact t k
       .rw[h2]at ab⊢
        intro q ak
        rw[aB _ X aC q ak,ab q ak]
      .rw[ae (by rw[J];simp)]
       exact⟨λW l _ ab=>ab,Q _ _ _ L B M _ _ w aj hL (hD.set aa) (hC.set H m) (y.put (x:=.un) rfl Y) (u.put _ _) rfl hs (hk.trans (lS.put Z _ _)) hq⟩
end Go.Vc
end
section
namespace Go.Vc
variable{M:List Nat}{a:Act}{s:Sh}{y:s.ty}
variable{P:Program}{T:TT}{G:List Nat}{b:Nat}
structure Ou where
 TC:List (Nat×List (Nat×Sh))
 UW:List (Nat×List (Nat×Sh))
 fU:List (Nat×List Nat)
def lk{α:Type}:List (Nat×α)->Nat->Option α
 |[],_=>none
 |(u,x)::r,t=>bif Nat.beq u t then some x else lk r t
def Ct:Code->Option Nat
 | .region id _ _=>some id
 | .seq a b=>match Ct a with
  |some i=>some i
  |none=>Ct b
 | .cond _ a b=>match Ct a with
  |some i=>some i
  |none=>Ct b
 | .block _ c=>Ct c
 | .loop c=>Ct c
 | .scope c=>Ct c
 |_=>none
def VX{α:Type}(l:List (Nat×α))(c:Code):Option α:=
 match Ct c with
 |some i=>lk l i
 |none=>none
def Gl:List (Nat×Sh)->Type
 |[]=>E->Prop
 |(_,s)::r=>s.ty->Gl r
def Ns:List (Nat×Sh)->Type
 |[]=>E->Nat
 |(_,s)::r=>s.ty->Ns r
def Qh:(s:Sh)->SV->Option s.ty
 | .I,.c (.i b)=>some b
 | .U k,.c (.u c b)=>if k=c then some b else none
 | .T,.c (.t c)=>some c
 | .T,.tt=>some true
 | .T,.ff=>some false
 | .S,.c (.s x)=>some x
 | .P,.c (.p c o)=>some (c,o)
 | .P,.c (.bp _ c o)=>some (c,o)
 | .F,.c (.fn f a d)=>some (f,a,d)
 | .F,.c (.fv q)=>some q
 | .M,.c (.mp c)=>some c
 |_,_=>none
def Gp:(l:List (Nat×Sh))->Gl l->Fr->E->Prop
 |[],I,_,m=>I m
 |(t,s)::r,I,a,m=>match Qh s (gK a t)with
  |some x=>Gp r (I x) a m
  |none=>False
def Ny:(l:List (Nat×Sh))->Gl l->Ns l->Fr->E->Nat->Prop
 |[],I,μ,_,m,N=>I m/\μ m<N
 |(t,s)::r,I,μ,a,m,N=>match Qh s (gK a t)with
  |some x=>Ny r (I x) (μ x) a m N
  |none=>False
def OI:(l:List (Nat×Sh))->Gl l->Fr->(Fr->(E->Prop)->Prop)->Prop
 |[],I,a,k=>k a I
 |(t,s)::r,I,a,k=>∀x:s.ty,OI r (I x) ((t,.c (s.mk x))::a) k
def OJ:(l:List (Nat×Sh))->Gl l->Ns l->Fr->(Fr->(E->Prop)->(E->Nat)->Prop)->Prop
 |[],I,μ,a,k=>k a I μ
 |(t,s)::r,I,μ,a,k=>∀x:s.ty,OJ r (I x) (μ x) ((t,.c (s.mk x))::a) k
def mR:List Nat->Fr->Fr
 |[],a=>a
 |t::r,a=>(t,.iP)::mR r a
def nN:Code->List Nat
 | .region _ eC _=>yK eC.toList
 | .seq a b=>nN a++nN b
 | .cond _ a b=>nN a++nN b
 | .block _ c=>nN c
 | .loop c=>nN c
 |_=>[]
def pb(M:List Nat):List (Nat×Sh)->Bool
 |[]=>true
 |(t,_)::r=>uv t M&&pb M r
def Yi(x y:SV)(k:Prop):Prop:=x=y/\k
def aF(x:SV)(k:Prop):Yi x x k=k:=by simp[Yi]
def kH(A:Ou)(c:Code):List Nat:=
 match VX A.fU c with
 |some K=>K
 |none=>[]
def Cp(b:Nat)(K:List Nat):Fr->List Nat
 |[]=>[]
 |(q,_)::r=>bif Nat.ble b q&&!uv q K then q::Cp b K r else Cp b K r
def tL(b:Nat)(K:List Nat)(a:Fr):Fr:=mR (Cp b K a) a
def Uv(a b:Fr):List Nat->Prop->Prop
 |[],k=>k
 |q::K,k=>Yi (gK b q) (gK a q) (Uv a b K k)
def Ky(c:Fr):Op->Option SV
 | .move x| .assign x=>match ev c x with
  | .iP=>none
  |y=>some y
 | .binOp d _ x y _=>match ev c x,ev c y with
  | .c (.i a),.c (.i b)=>match d with
   | .eql=>some (.c (.t (a==b)))
   | .neq=>some (.c (.t (a !=b)))
   | .lss=>some (.c (.t (decide (a<b))))
   | .leq=>some (.c (.t (decide (a<=b))))
   | .gtr=>some (.c (.t (decide (a>b))))
   | .geq=>some (.c (.t (decide (a>=b))))
   |_=>none
  |_,_=>none
 |_=>none
def qt(b:Nat):List Oper->Fr->Option Fr
 |[],a=>some a
 |o::r,a=>bif rp b o.dst then
  match o.guard with
  |none=>match Ky a o.op with
   |some x=>qt b r (tr a o.dst x)
   |none=>none
  |some _=>none
  else none
def VZ(A:Ou)(b t:Nat):Code->Fr->Option Bool
 | .region _ eC false,d=>match qt b eC.toList d with
  |some a=>kN (gK a t)
  |none=>none
 | .seq (.region _ eC false) (.cond (.tmp u) .skip c),d=>
  match VX A.UW (.cond (.tmp u) .skip c)with
  |some _=>none
  |none=>bif Nat.beq u t&&uv t (nN c)then
   match qt b eC.toList d with
   |some a=>match kN (gK a t),VZ A b t c a with
    |some x,some y=>some (x||y)
    |_,_=>none
   |none=>none
   else none
 |_,_=>none
def Yv(A:Ou)(b:Nat)(d:Operand)(a c:Code)(e:Fr):Option (Nat×Bool):=
 match d,a with
 | .tmp t,.skip=>bif uv t (nN c)then
  match VZ A b t c e with
  |some y=>some (t,y)
  |none=>none
  else none
 |_,_=>none
def tW(a:Fr)(c:Operand)(v:SV):Fr:=
 match c with
 | .tmp t=>(t,v)::a
 |_=>a
def Vf:List Oper->List Nat
 |[]=>[]
 |o::r=>kQ o.after.toList::Vf r
def SR:List Nat->List Oper->List Nat
 |a,[]=>a
 |a,o::r=>SR (a++[nt a o.after.toList]) r
def pM:Code->Bool
 | .region _ eC b=>!b||(kJ (SR [] eC.toList) eC.toList (Vf eC.toList) (SR [] eC.toList)&&El eC.toList (Vf eC.toList) 0 eC.toList (SR [] eC.toList))
 | .seq a b=>pM a&&pM b
 | .cond _ a b=>pM a&&pM b
 | .block _ c=>pM c
 | .loop c=>pM c
 |_=>true
def vc(P:Program)(T:TT)(G:List Nat)(b:Nat)(A:Ou):Code->Fr->E->(Exit->Fr->E->Prop)->Prop
 | .skip,c,m,Q=>Q .normal c m
 | .region id eC d,c,m,Q=>
  bif d then nR P T G b eC.toList (Vf eC.toList) (SR [] eC.toList) eC.toList.length 0 c m [] (λc m=>Q .normal c m)
  else rH P T G b eC.toList eC.toList c m (λc m=>Q .normal c m)
 | .seq a g,c,m,Q=>match VX A.UW g with
  |none=>vc P T G b A a c m λ
   | .normal,e,d=>vc P T G b A g e d Q
   |h,e,d=>Q h e d
  |some l=>bif pb (nN a) l then∃K:Gl l,(vc P T G b A a c m λ
   | .normal,e,d=>Uv c e (kH A g) (Gp l K e d)
   |h,e,d=>Q h e d)/\
   (OI l K (mR (nN a) (tL b (kH A g) c)) λe f=>∀d,f d->vc P T G b A g e d Q)else False
 | .cond f a g,c,m,Q=>match ev c f with
  | .tt=>vc P T G b A a c m Q
  | .ff=>vc P T G b A g c m Q
  | .c (.t x)=>match Yv A b f a g c with
   |some (t,y)=>Q .normal ((t,.c (.t (x||y)))::mR (nN g) c) m
   |none=>(x=true->vc P T G b A a (tW c f .tt) m Q)/\(x=false->vc P T G b A g (tW c f .ff) m Q)
  |_=>False
 | .block id f,c,m,Q=>vc P T G b A f c m λ
  | .exit i,e,d=>bif Nat.beq i id then Q .normal e d else Q (.exit i) e d
  |h,e,d=>Q h e d
 | .loop f,c,m,Q=>match VX A.TC f with
  |none=>False
  |some l=>bif pb (nN f) l then∃(I:Gl l)(μ:Ns l),Gp l I c m/\
   (OJ l I μ (mR (nN f) (tL b (kH A f) c)) λe j μ'=>∀d,j d->vc P T G b A f e d λ
    | .normal,g,i=>Uv c g (kH A f) (Ny l I μ g i (μ' d))
    |h,g,i=>Q h g i)else False
 | .exit id,c,m,Q=>Q (.exit id) c m
 | .ret,c,m,Q=>Q .ret c m
 |_,_,_,_=>False
def lS.mono{b:List Nat}{c:Act}(h:lS M a c)(e:∀t∈M,t∈b):lS b a c:=λt f=>h t λd=>f (e t d)
def AM:∀(M:List Nat)(a:Fr)(t:Nat),(t∈M/\gK (mR M a) t=.iP)\/(t∉M/\gK (mR M a) t=gK a t)
 |[],_,_=>Or.inr ⟨aJ,rfl⟩
 |u::M,a,t=>by
  simp only[mR,gK];cases d:Nat.beq u t
  .have f:u≠t:=λe=>by subst e;simp at d
   rcases AM M a t with⟨b,c⟩|⟨b,c⟩
   .exact Or.inl ⟨ah _ b,c⟩
   .exact Or.inr ⟨by simp only[aW,uJ];exact⟨λe=>f e.symm,b⟩,c⟩
  .have:=br d;subst this;exact Or.inl ⟨aZ,rfl⟩
def zc{d:Fr}{c:Act}(g:jM b d a)(j:c.tmps.size=b)(hd:c.defers=[])(i:lS M a c):jM b (mR M d) c:=by
 refine⟨j,hd,λt=>?_⟩;rcases AM M d t with⟨_,h⟩|⟨e,f⟩
 .rw[h];trivial
 .rw[f,i t e];exact g.aQ t
def jM.mR{c:Fr}{a:Act}(d:jM b c a):∀(M:List Nat),jM b (mR M c) a
 |[]=>d
 |t::M=>(jM.mR d M).iP t
def Bx.mR{a:Fr}{m:E}(h:Bx b a m):∀(M:List Nat),Bx b (mR M a) m
 |[]=>h
 |t::M=>(Bx.mR h M).iP aJ
def MD{K:List Nat}{q:Nat}(d:b<=q)(c:q∉K):∀{a:Fr},q∈Cp b K a\/gK a q=.iP
 |[]=>Or.inr rfl
 |(u,x)::r=>by
  simp only[Cp,gK];cases i:Nat.beq u q
  .rcases MD d c (a:=r)with h|h
   .left;cases(Nat.ble b u&&!uv u K)
    .exact h
    .exact ah _ h
   .exact Or.inr h
  .have:=br i;subst this;have f:uv u K=false:=by
    cases g:uv u K
    .rfl
    .exact absurd (GK g) c
   have e:Nat.ble b u=true:=Xw d;simp[f,e]
def J4{b c:Fr}:∀{K:List Nat}{k:Prop},Uv b c K k->(∀q∈K,gK c q=gK b q)/\k
 |[],k,h=>⟨aJ,h⟩
 |q::K,k,h=>by
  obtain⟨d,e⟩:=J4 h.2;refine⟨λu a=>?_,e⟩;rcases List.mem_cons.1 a with rfl|a
  .exact h.1
  .exact d u a
def Bx.kH{K:List Nat}{c j:Fr}{v p:E}(h:Bx b c v)(r:Bx b j p)(s:∀q∈K,gK j q=gK c q):Bx b (Vc.mR M (tL b K c)) p:=by
 have i:∀{q d e l},lg (Vc.mR M (tL b K c)) q d e l->lg c q d e l/\lg j q d e l:=by
  intro q d e l a;have f:gK (Vc.mR M (tL b K c)) q=gK (tL b K c) q\/gK (Vc.mR M (tL b K c)) q=.iP:=by
   rcases AM M (tL b K c) q with⟨_,h⟩|⟨_,h⟩
   .exact Or.inr h
   .exact Or.inl h
  unfold lg at a;rcases f with f|f
  .rw[f]at a;unfold tL at a;rcases AM (Cp b K c) c q with⟨_,g⟩|⟨k,g⟩
   .rw[g]at a;simp at a
   .rw[g]at a;have t:b<=q:=h.key q d e l a;by_cases o:q∈K
    .refine⟨a,?_⟩;unfold lg;rw[s q o];exact a
    .rcases MD (b:=b) t o (a:=c)with m|m
     .exact absurd m k
     .rw[m]at a;simp at a
  .rw[f]at a;simp at a
 exact⟨λq d e l a=>r.aC q d e l (i a).2,λq w d e l m o u t k g=>h.NE q w d e l m o u t (i k).1 (i g).1,λq d e l a=>h.key q d e l (i a).1⟩
def RJ{x:SV}(h:Qh s x=some y):x.ju=true/\x.v=(s.mk y).v:=by
 unfold Qh at h;split at h<;>first|(simp at h;subst h;exact⟨rfl,rfl⟩)|skip
 .split at h
  .rename_i a;subst a;simp at h;subst h;exact⟨rfl,rfl⟩
  .simp at h
 .simp at h
def KE{d cL:Fr}{t:Nat}(g:jM b d a)(c:jM b cL a)(h:Qh s (gK d t)=some y):jM b ((t,.c (s.mk y))::cL) a:=by
 refine⟨c.size,c.defers,λu=>?_⟩;simp only[gK];cases i:Nat.beq t u
 .exact c.aQ u
 .have:=br i;subst this;have e:=g.aQ t;obtain⟨j,k⟩:=RJ h;have f:=e.eq j;show _=_;rw[f,k];rfl
def Sw:(l:List (Nat×Sh))->Gl l->Ns l->Fr->Fr->(E->Prop)->(E->Nat)->Prop
 |[],I,μ,b,c,a,μ'=>c=b/\a=I/\μ'=μ
 |(t,s)::r,I,μ,b,c,a,μ'=>∃x:s.ty,Sw r (I x) (μ x) ((t,.c (s.mk x))::b) c a μ'
def Mz:∀{l:List (Nat×Sh)}{I:Gl l}{μ:Ns l}{b:Fr}{k:Fr->(E->Prop)->(E->Nat)->Prop},OJ l I μ b k->∀{fr' I' μ'},Sw l I μ b fr' I' μ'->k fr' I' μ'
 |[],_,_,_,_,h,_,_,_,a=>by obtain⟨rfl,rfl,rfl⟩:=a;exact h
 |(t,s)::r,_,_,_,_,h,_,_,_,a=>by obtain⟨x,a⟩:=a;exact Mz (h x) a
def Sh.TL(s:Sh)(x:s.ty)(b e:Nat)(l:List Ce):SV.c (s.mk x)≠.box b e l/\SV.c (s.mk x)≠.yG b e l:=⟨aJ,aJ⟩
def MC{a:Act}{g:Fr}(i:jM b g a):∀{l:List (Nat×Sh)}{I:Gl l}{μ:Ns l}{cL:Fr}{m:E}{N:Nat},jM b cL a->Bx b cL m->Ny l I μ g m N->
 ∃c d μ',Sw l I μ cL c d μ'/\jM b c a/\Bx b c m/\d m/\μ' m<N
 |[],I,μ,cL,_,_,f,e,h=>⟨cL,I,μ,⟨rfl,rfl,rfl⟩,f,e,h.1,h.2⟩
 |(t,s)::r,I,μ,cL,m,N,f,e,h=>by
  simp only[Ny]at h;split at h
  .rename_i x p;obtain⟨c,d,μ',j,k,n,o⟩:=MC i (KE i f p) (e.iP (s.TL x)) h;exact⟨c,d,μ',⟨x,j⟩,k,n,o⟩
  .exact h.elim
def MB{a:Act}{g:Fr}(i:jM b g a):∀{l:List (Nat×Sh)}{I:Gl l}{μ:Ns l}{cL:Fr}{m:E},jM b cL a->Bx b cL m->Gp l I g m->
 ∃c d μ',Sw l I μ cL c d μ'/\jM b c a/\Bx b c m/\d m
 |[],I,μ,cL,_,f,e,h=>⟨cL,I,μ,⟨rfl,rfl,rfl⟩,f,e,h⟩
 |(t,s)::r,I,μ,cL,m,f,e,h=>by
  simp only[Gp]at h;split at h
  .rename_i x o;obtain⟨c,d,μ',j,k,n⟩:=MB i (KE i f o) (e.iP (s.TL x)) h;exact⟨c,d,μ',⟨x,j⟩,k,n⟩
  .exact h.elim
def OM{a:Act}{i:Fr}(j:jM b i a):∀{l:List (Nat×Sh)}{I:Gl l}{cL:Fr}{m:E}{k:Fr->(E->Prop)->Prop},jM b cL a->Bx b cL m->Gp l I i m->OI l I cL k->
 ∃c g,k c g/\jM b c a/\Bx b c m/\g m
 |[],I,cL,_,_,e,d,h,f=>⟨cL,I,f,e,d,h⟩
 |(t,s)::r,I,cL,m,k,e,d,h,f=>by
  simp only[Gp]at h;split at h
  .rename_i x n;exact OM j (KE j e n) (d.iP (s.TL x)) h (f x)
  .exact h.elim
def Sc{l:Code}{Q:Exit->Act->World->Prop}(b:Nat->Act->World->Prop)
 (r:∀N a w,b N a w->l.wp P (Exit.then (λg k=>∃d,d<N/\b d g k) Q) a w):∀N a w,b N a w->(Code.loop l).wp P Q a w:=by
 have q:∀N a w,b N a w->∃M,b M a w/\∀c,c<M->¬b c a w:=by
  intro N;induction N using Nat.strongRecOn with
  |_ N j=>
   intro a w h;by_cases e:∃c,c<N/\b c a w
   .obtain⟨c,f,i⟩:=e;exact j c f a w i
   .exact⟨N,h,λc i f=>e ⟨c,i,f⟩⟩
 intro N a w o
 classical
 let μ:Act->World->Nat:=λa w=>if h:∃M,b M a w/\∀c,c<M->¬b c a w then Classical.choose h else 0
 have hμ:∀a w N,b N a w->b (μ a w) a w/\μ a w<=N:=by
  intro a w N h;have e:=q N a w h;have i:μ a w=Classical.choose e:=Sk e;have n:=fy e;rw[i];refine⟨n.1,?_⟩;rcases aX N (Classical.choose e)with j|p
  .exact absurd h (n.2 N j)
  .exact p
 refine wp_loop (λa w=>∃N,b N a w) μ ⟨N,o⟩ ?_
 rintro a w ⟨N,h⟩
 refine Code.wp_mono ?_ (r (μ a w) a w (hμ a w N h).1)
 intro i g k m
 cases i with
 |normal=>
  obtain⟨d,j,f⟩:=m
  exact⟨⟨d,f⟩,mT (hμ g k d f).2 j⟩
 |_=>exact m
end Go.Vc
end
section
namespace Go.Vc
variable{i w:World}{j p:List Nat}{l a:Act}{f:Exit->Fr->E->Prop}{e:Exit}{b:E}
variable{g:Program}{h:TT}{G:List Nat}{d:Nat}{o:Ou}
def jP(d:Nat)(i:World)(j:List Nat)(l:Act)(f:Exit->Fr->E->Prop):Exit->Act->World->Prop
 | .panic _,_,_=>False
 | .outgrown,_,_=>False
 |e,a,w=>∃b,jM d b a/\Bx d b w.heap/\oI i w/\lS j l a/\f e b w.heap
def jP.mk{b:Fr}(g:(∀c,e≠.panic c)/\e≠.outgrown)
 (k:jM d b a)(h:Bx d b w.heap)(o:oI i w)(m:lS j l a)(n:f e b w.heap):jP d i j l f e a w:=by
 cases e with
 |panic c=>exact absurd rfl (g.1 c)
 |outgrown=>exact absurd rfl g.2
 |_=>exact⟨b,k,h,o,m,n⟩
def jP.bC(h:jP d i j l f e a w):
 ((∀c,e≠.panic c)/\e≠.outgrown)/\∃b,jM d b a/\Bx d b w.heap/\oI i w/\lS j l a/\f e b w.heap:=by
 cases e with
 |panic c=>exact h.elim
 |outgrown=>exact h.elim
 |_=>exact⟨⟨aJ,aJ⟩,h⟩
def jP.left(h:jP d i j l f e a w):jP d i (j++p) l f e a w:=by
 obtain⟨g,q,c,b,n,k,m⟩:=h.bC;exact jP.mk g c b n (k.mono (λt o=>bz _ o)) m
def jP.right(h:jP d i j l f e a w):jP d i (p++j) l f e a w:=by
 obtain⟨g,q,c,b,n,k,m⟩:=h.bC;exact jP.mk g c b n (k.mono (λt o=>dw _ o)) m
def RT{f:Fr}{e:Op}{x:SV}{k:SV->Prop}(c:Ky f e=some x)(d:k x):Kl e=false/\rd h f b k e:=by
 unfold Ky at c;split at c
 .split at c
  .simp at c
  .simp at c;subst c;exact⟨rfl,d⟩
 .split at c
  .simp at c
  .simp at c;subst c;exact⟨rfl,d⟩
 .rename_i o t y z l;split at c
  .rename_i a j g i;refine⟨rfl,?_⟩;simp only[rd,g,i];split at c<;>simp at c<;>subst c<;>exact d
  .simp at c
 .simp at c
def Dc(j:List Oper){b:E}{i:Fr->E->Prop}:∀{eC:List Oper}{c e:Fr},qt d eC c=some e->i e b->rH g h G d j eC c b i
 |[],c,e,a,f=>by simp[qt]at a;subst a;exact f
 |o::r,c,e,a,f=>by
  simp only[qt]at a;simp only[rH];cases hd:rp d o.dst
  .rw[hd]at a;simp at a
  .rw[hd]at a;simp only[jr]at a⊢;cases l:o.guard with
   |some n=>rw[l]at a;simp at a
   |none=>
    rw[l]at a;simp only[gd]at a⊢;split at a
    .rename_i x q;obtain⟨n,p⟩:=RT (h:=h) (b:=b) (k:=λx=>rH g h G d j r (tr c o.dst x) b i) q (Dc j a f);rw[n];exact p
    .simp at a
def TV(p:Nat){b:E}{f:Exit->Fr->E->Prop}:∀(k:Code)(n:Fr)(y:Bool),VZ o d p k n=some y->(∀i,kN (gK i p)=some y->f .normal i b)->vc g h G d o k n b f
 | .region id eC e,n,y,a,m=>by
  cases e
  .simp only[VZ]at a;simp only[vc,lV];split at a
   .rename_i i q;exact Dc _ q (m i a)
   .simp at a
  .simp[VZ]at a
 | .seq (.region id eC false) (.cond (.tmp u) .skip k),n,y,a,m=>by
  simp only[VZ]at a;split at a
  .simp at a
  .rename_i w;cases l:(Nat.beq u p&&uv p (nN k))
   .rw[l]at a;simp at a
   .rw[l]at a;simp only[jr]at a;simp only[bK]at l;have z:=br l.1;subst z;split at a
    .rename_i i q;split at a
     .rename_i B A e r;simp at a;subst a;rw[vc,w];simp only;rw[vc];simp only[lV];refine Dc _ q ?_;rw[vc];have x:ev i (.tmp u)=(gK i u).nb:=rfl;rw[x];cases j:gK i u with
      |tt=>
       rw[j]at e;simp[kN]at e;subst e;simp only[SV.nb,vc];exact m i (by rw[j];simp[kN])
      |ff=>
       rw[j]at e;simp[kN]at e;subst e;simp only[SV.nb];exact TV u k i A r (λs v=>m s (by simpa using v))
      |c s=>
       cases s with
       |t v=>
        rw[j]at e;simp[kN]at e;subst e;simp only[SV.nb,Yv,l.2,jr,r];exact m _ (by simp[gK,kN])
       |_=>rw[j]at e;simp[kN]at e
      |_=>rw[j]at e;simp[kN]at e
     .simp at a
    .simp at a
def Ui(hT:tI g h)(hG:UC g G)(au:g.follows .mixedOrders=true)(i:World):∀(D:Code),pM D=true->∀(l:Fr)(b:E)(f:Exit->Fr->E->Prop)(a:Act)(w:World),
 vc g h G d o D l b f->jM d l a->Bx d l b->w.heap=b->oI i w->D.wp g (jP d i (nN D) a f) a w:=by
 intro D
 induction D with
 |skip=>
  intro hd l b f a w c k s x t
  subst x
  exact wp_skip ⟨l,k,s,t,lS.aH _ _,c⟩
 |region id eC q=>
  intro hd l b f a w c k s x t
  simp only[vc]at c
  cases q
  .simp only[lV]at c
   refine wp_region_list ?_
   exact ui hT hG eC eC.toList l b (f .normal) a w (λ_ c=>c) c k s x t (lS.aH _ _) λB I S j r v u p=>⟨B,r,v,u,p,j⟩
  .simp only[jr]at c
   simp only[pM,Nh,Vw,bK]at hd
   refine wp_region_any au (Lq (d:=λy z=>Nat.testBit (tv (SR [] eC.toList) y) z) (L:=[]) _ _ _ _ ?_)
   have z:eC.toList.length=eC.size:=aJ
   rw[z]at c
   refine On hT hG eC _ _ hd.1 hd.2 (λD a w hx=>hx) (w0:=i) (a0:=a) eC.size 0 l b [] (f .normal) [] _ a _ c (λC hx=>by cases hx) ⟨aJ,λy=>by simp[Vv];split<;>rfl⟩ (λy hi=>by simp[Vv]at hi;split at hi<;>simp at hi) k s x ⟨t.os,t.tape,t.output⟩ (lS.aH _ _) λB I S j r v u p=>⟨B,r,v,u,p,j⟩
 |seq C U ac X=>
  intro hd l b f a w c k s x t
  simp only[vc]at c
  simp only[pM,bK]at hd
  refine wp_seq ?_
  split at c
  .refine Code.wp_mono ?_ (ac hd.1 l b _ a w c k s x t)
   intro e I S j
   obtain⟨p,B,r,v,u,z,j⟩:=j.bC
   cases e with
   |normal=>
    refine Code.wp_mono ?_ (X hd.2 B _ f I S j r v rfl u)
    intro e R aa j
    obtain⟨p,V,J,F,O,K,j⟩:=j.bC
    exact jP.mk p J F O ((z.mono (λH q=>bz _ q)).trans (K.mono (λH q=>dw _ q))) j
   |panic D=>exact absurd rfl (p.1 D)
   |outgrown=>exact absurd rfl p.2
   |exit y=>exact jP.mk (e:=.exit y) p r v u (z.mono (λH q=>bz _ q)) j
   |goto y=>exact jP.mk (e:=.goto y) p r v u (z.mono (λH q=>bz _ q)) j
   |ret=>exact jP.mk (e:=.ret) p r v u (z.mono (λH q=>bz _ q)) j
  .rename_i N hl
   cases ab:pb (nN C) N
   .rw[ab]at c;exact c.elim
   rw[ab]at c
   obtain⟨ad,h1,W⟩:=c
   refine Code.wp_mono ?_ (ac hd.1 l b _ a w h1 k s x t)
   intro e I S j
   obtain⟨p,B,r,v,u,z,j⟩:=j.bC
   cases e with
   |normal=>
    obtain⟨af,j⟩:=J4 j
    obtain⟨ag,K',h3,Y,Z,h5⟩:=OM r (zc (k.mR _) r.size r.defers z) (Bx.kH s v af) j W
    refine Code.wp_mono ?_ (X hd.2 ag _ f I S (h3 _ h5) Y Z rfl u)
    intro e R aa j
    obtain⟨p,V,J,F,O,K,j⟩:=j.bC
    exact jP.mk p J F O ((z.mono (λH q=>bz _ q)).trans (K.mono (λH q=>dw _ q))) j
   |panic D=>exact absurd rfl (p.1 D)
   |outgrown=>exact absurd rfl p.2
   |exit y=>exact jP.mk (e:=.exit y) p r v u (z.mono (λH q=>bz _ q)) j
   |goto y=>exact jP.mk (e:=.goto y) p r v u (z.mono (λH q=>bz _ q)) j
   |ret=>exact jP.mk (e:=.ret) p r v u (z.mono (λH q=>bz _ q)) j
 |cond ad C U ac X=>
  intro hd l b f a w c k s x t
  simp only[vc]at c
  simp only[pM,bK]at hd
  have aj:∀{K:Bool},a.eval ad=.bool K->jM d (tW l ad (if K then .tt else .ff)) a:=by
   intro K F;unfold tW;split
   .rename_i H;refine⟨k.size,k.defers,λR=>?_⟩;simp only[gK];cases Y:Nat.beq H R
    .exact k.aQ R
    .have:=br Y;subst this;cases K<;>exact F
   .exact k
  have ak:∀{C:SV},(∀K e N,C≠.box K e N/\C≠.yG K e N)->Bx d (tW l ad C) b:=by
   intro C hx;unfold tW;split
   .exact s.iP hx
   .exact s
  split at c
  .rename_i Z
   exact wp_cond_true (k.eq Z rfl) (Code.wp_mono (λ_ _ _ c=>c.left) (ac hd.1 l b f a w c k s x t))
  .rename_i Z
   exact wp_cond_false (k.eq Z rfl) (Code.wp_mono (λ_ _ _ c=>c.right) (X hd.2 l b f a w c k s x t))
  .rename_i K Z
   have aa:a.eval ad=.bool K:=k.eq Z rfl
   split at c
   .rename_i H y' J
    unfold Yv at J
    split at J
    .rename_i O
     cases ai:uv O (nN U)
     .rw[ai]at J;simp at J
     .rw[ai]at J
      simp only[jr]at J
      split at J
      .rename_i y0 an
       simp at J
       obtain⟨rfl,rfl⟩:=J
       have am:a.tmps.getD O undef=.bool K:=aa
       refine wp_cond_split aa (λq=>?_) (λq=>?_)
       .subst x
        subst q
        refine wp_skip (jP.mk (e:=.normal) (b:=(O,.c (.t (true||y0)))::mR (nN U) l) ⟨aJ,aJ⟩ ?_ ((s.mR _).iP aJ) t (lS.aH _ _) c)
        have F:=zc (M:=nN U) k k.size k.defers (lS.aH _ a)
        refine⟨F.size,F.defers,λR=>?_⟩
        simp only[gK]
        cases Y:Nat.beq O R
        .exact F.aQ R
        .have:=br Y
         subst this
         simpa[SV.Is,SV.v,Ce.v]using am
       .subst q
        have hv:=TV (g:=g) (h:=h) (G:=G) (o:=o) (d:=d) O (b:=b) (f:=λe B V=>e=.normal/\V=b/\kN (gK B O)=some y0) U l y0 an (λB V=>⟨rfl,rfl,V⟩)
        refine Code.wp_mono ?_ (X hd.2 l b _ a w hv k s x t)
        intro e I S j
        obtain⟨p,B,r,v,u,z,rfl,ah,al⟩:=j.bC
        refine jP.mk (e:=.normal) (b:=(O,.c (.t (false||y0)))::mR (nN U) l) p ?_ (by rw[ah];exact(s.mR _).iP aJ) u (z.mono (λH q=>dw _ q)) (by rw[ah];exact c)
        have F:=zc (M:=nN U) k r.size r.defers z
        refine⟨F.size,F.defers,λR=>?_⟩
        simp only[gK]
        cases Y:Nat.beq O R
        .exact F.aQ R
        .have:=br Y
         subst this
         obtain⟨V,W⟩:=vQ al
         have h3:=(r.aQ O).eq V
         rw[W]at h3
         simpa[SV.Is,SV.v,Ce.v]using h3
      .simp at J
    .simp at J
   .refine wp_cond_split aa (λq=>?_) (λq=>?_)
    .subst q
     exact Code.wp_mono (λ_ _ _ c=>c.left) (ac hd.1 _ b f a w (c.1 rfl) (aj aa) (ak aJ) x t)
    .subst q
     exact Code.wp_mono (λ_ _ _ c=>c.right) (X hd.2 _ b f a w (c.2 rfl) (aj aa) (ak aJ) x t)
  .exact c.elim
 |block id C J=>
  intro hd l b f a w c k s x t
  simp only[vc]at c
  refine wp_block (Code.wp_mono ?_ (J hd l b _ a w c k s x t))
  intro e I S j
  obtain⟨p,B,r,v,u,z,j⟩:=j.bC
  cases e with
  |exit y=>
   simp only[Exit.inBlock]
   simp only at j
   cases F:Nat.beq y id
   .rw[F]at j
    have q:y≠id:=λe=>by subst e;simp at F
    rw[ae q]
    exact jP.mk (e:=.exit y) p r v u z j
   .rw[F]at j
    rw[ao (br F)]
    exact jP.mk (e:=.normal) ⟨aJ,aJ⟩ r v u z j
  |normal=>exact jP.mk (e:=.normal) p r v u z j
  |panic D=>exact absurd rfl (p.1 D)
  |outgrown=>exact absurd rfl p.2
  |goto y=>exact jP.mk (e:=.goto y) p r v u z j
  |ret=>exact jP.mk (e:=.ret) p r v u z j
 |loop C J=>
  intro hd l b f a w c k s x t
  subst x
  simp only[vc]at c
  split at c
  .exact c.elim
  .rename_i N hl
   cases ab:pb (nN C) N
   .rw[ab]at c;exact c.elim
   rw[ab]at c
   obtain⟨O,μ,h0,h1⟩:=c
   let Y:Nat->Act->World->Prop:=λK I w=>∃B H μ',Sw N O μ (mR (nN C) (tL d (kH o C) l)) B H μ'/\jM d B I/\Bx d B w.heap/\H w.heap/\μ' w.heap=K/\oI i w/\lS (nN C) a I
   obtain⟨aa,R,μ1,ap,al,ad,aj⟩:=MB (μ:=μ) k (zc (k.mR _) k.size k.defers (lS.aH (nN C) a)) (Bx.kH s s (λ_ _=>rfl)) h0
   refine Sc Y ?_ (μ1 w.heap) a w ⟨aa,R,μ1,ap,al,ad,aj,rfl,t,lS.aH _ _⟩
   rintro K Z w ⟨B,H,μ',hi,r,v,ai,rfl,u,V⟩
   have an:=Mz h1 hi w.heap ai
   refine Code.wp_mono ?_ (J hd B w.heap _ Z w an r v rfl u)
   intro e I S j
   obtain⟨p,ag,q,z,F,W,j⟩:=j.bC
   cases e with
   |normal=>
    obtain⟨af,j⟩:=J4 j
    obtain⟨ac,X,μ3,aq,am,ah,ak,ar⟩:=MC q (zc (k.mR _) q.size q.defers (V.trans W)) (Bx.kH s z af) j
    exact⟨_,ar,ac,X,μ3,aq,am,ah,ak,rfl,F,V.trans W⟩
   |panic D=>exact absurd rfl (p.1 D)
   |outgrown=>exact absurd rfl p.2
   |exit y=>exact jP.mk (e:=.exit y) p q z F (V.trans W) j
   |goto y=>exact jP.mk (e:=.goto y) p q z F (V.trans W) j
   |ret=>exact jP.mk (e:=.ret) p q z F (V.trans W) j
 |exit id=>
  intro hd l b f a w c k s x t
  subst x
  exact wp_exit ⟨l,k,s,t,lS.aH _ _,c⟩
 |ret=>
  intro hd l b f a w c k s x t
  subst x
  exact wp_ret ⟨l,k,s,t,lS.aH _ _,c⟩
 |rangeFunc j k C U _ _=>intro _ l b f a w c;exact c.elim
 |scope C _=>intro _ l b f a w c;exact c.elim
 |label N=>intro _ l b f a w c;exact c.elim
 |goto N=>intro _ l b f a w c;exact c.elim
 |refuse s=>intro _ l b f a w c;exact c.elim
def tK:Nat->List SV->Fr
 |_,[]=>[]
 |i,x::r=>(i,x)::tK (i+1) r
def EU(h:TT)(a:Fr)(b:E):List ResultVar->(List SV->Prop)->Prop
 |[],k=>k []
 | .tmp t::r,k=>bif (gK a t).ju then EU h a b r λl=>k (gK a t::l)else False
 | .cell p t::r,k=>rd h a b (λx=>bif x.ju then EU h a b r λl=>k (x::l)else False) (.load t (.tmp p))
def W7(h:TT)(c:List ResultVar)(a:Fr)(b:E)(R:Value->E->Prop):Prop:=
 EU h a b c λ
  |[x]=>R x.v b
  |l=>R (.tuple (l.map SV.v).toArray) b
def Sb(g:Program)(h:TT)(G:List Nat)(o:Ou)(d:Nat)(c:List ResultVar)(f:Code)(e:List SV)(b:E)(R:Value->E->Prop):Prop:=
 vc g h G d o f (tK 0 e) b λ
  | .normal,a,b=>W7 h c a b R
  | .ret,a,b=>W7 h c a b R
  |_,_,_=>False
def Gq:∀(a:List SV)(i t:Nat),(t<i/\gK (tK i a) t=.iP)\/(i<=t/\gK (tK i a) t=a.getD (t -i) .iP)
 |[],i,t=>by
  rcases aX t i with h|h
  .exact Or.inl ⟨h,rfl⟩
  .exact Or.inr ⟨h,by simp[tK,gK]⟩
 |x::r,i,t=>by
  simp only[tK,gK];cases c:Nat.beq i t
  .have f:i≠t:=λe=>by subst e;simp at c
   rcases Gq r (i+1) t with⟨d,b⟩|⟨d,b⟩
   .exact Or.inl ⟨V,b⟩
   .refine Or.inr ⟨V,?_⟩;have e:t -i=(t -(i+1))+1:=V;rw[e,List.getD_cons_succ];exact b
  .have:=br c;subst this;exact Or.inr ⟨ad _,aJ⟩
def KF(a:Array Value):ResultVar->Sem Value
 | .tmp t=>pure (a.getD t undef)
 | .cell p t=>do loadVar t (<-asAddr (a.getD p undef))
def Qy(b:Func)(c:Array Value):results b c=(do
 let a<-b.results.mapM (KF c)
 pure (if h:a.size=1 then a[0]else .tuple a)):=by
 unfold results
 congr 2
def GZ{i:Fr}{a:Act}(v:tI g h)(f:jM d i a):∀(D:List ResultVar)(k:List SV->Prop)(w:World),Bx d i w.heap->EU h i w.heap D k->
 ∃p,k p/\(D.mapM (KF a.tmps)).run g w=.ok (p.map SV.v) w
 |[],k,w,_,b=>⟨[],b,aJ⟩
 | .tmp t::A,k,w,j,b=>by
  simp only[EU]at b;cases c:(gK i t).ju
  .rw[c]at b;exact b.elim
  .rw[c]at b;obtain⟨p,s,u⟩:=GZ v f A _ w j b;refine⟨_,s,?_⟩;have z:=(f.aQ t).eq c;have r:KF a.tmps (.tmp t)=pure (a.tmps.getD t undef):=rfl;simp only[Un,Sem.run_bind,Sem.run_pure,Result.andThen_ok,u,cA,z,r]
 | .cell q t::A,k,w,j,m=>by
  obtain⟨E,B,n,z,b⟩:=Kz (P:=g) v f j ⟨none,.load t (.tmp q),0,"",#[],none⟩ m;have b:=b w (λC _=>rfl);cases x:E.ju
  .rw[x]at n;exact n.elim
  rw[x]at n;obtain⟨p,s,u⟩:=GZ v f A _ w j n;refine⟨_,s,?_⟩;have G:∃c o,a.tmps.getD q undef=.pointer (some ⟨c,o,none⟩):=by
   have l:=SV.TM (f.aQ q);simp only[EU,rd,ev]at m;split at m
   .rename_i c o y;rw[y]at l;exact⟨c,o,l⟩
   .rename_i C c o y;rw[y]at l;exact⟨c,o,l⟩
   .exact m.elim
  obtain⟨c,o,y⟩:=G;simp only[execOp,Instr.loadAt,Act.eval,y,Instr.sureAddr,Sem.run_bind,Sem.run_pure,Result.andThen_ok]at b;have F:(loadVar t ⟨c,o,none⟩).run g w=.ok B w:=by
   cases C:(loadVar t ⟨c,o,none⟩).run g w with
   |ok I H=>
    rw[C]at b;simp at b;rw[b.1,b.2]
   |halt e H=>rw[C]at b;simp at b
  have H:B=E.v:=z.eq x;have r:(KF a.tmps (.cell q t)).run g w=.ok B w:=by
   simp only[KF,y,Sem.run_bind,asAddr,Sem.run_pure,Result.andThen_ok,F]
  simp only[Un,Sem.run_bind,Sem.run_pure,Result.andThen_ok,r,u,cA,H]
def Ec(z:tI g h)(K:UC g G)(O:g.follows .mixedOrders=true){y:FuncId}{i:Func}{m:Code}{r:List ResultVar}{a:List SV}{R:Value->E->Prop}
 (N:g.funcs[y]? =some i)(M:i.body=some m)(P:i.ntmps=d)(S:i.results=r.toArray)(A:a.all SV.ju=true)(X:a.length<=d)(hd:pM m=true)
 (j:Sb g h G o d r m a b R):aP g y (a.map SV.v) b R:=by
 intro w U
 refine calls_of_wp N M ?_
 have L:jM d (tK 0 a) {tmps:=(a.map SV.v).toArray++Array.replicate (i.ntmps -(a.map SV.v).toArray.size) undef,defers:=[]}:=by
  refine⟨by simp[P];omega,rfl,λt=>?_⟩;rcases Gq a 0 t with⟨n,_⟩|⟨_,p⟩
  .omega
  .rw[p,Xh];rcases aX t a.length with k|s
   .have u:(a[t]).ju=true:=List.all_eq_true.1 A _ (List.getElem_mem k);have c:a.getD t .iP=a[t]:=by simp[k]
    rw[c];have f:((a.map SV.v).toArray++Array.replicate (i.ntmps -(a.map SV.v).toArray.size) undef).getD t undef=(a[t]).v:=by
     simp[Array.getElem?_append,k]
    rw[f];exact na _
   .have c:a.getD t .iP=.iP:=by simp[bV s]
    rw[c];trivial
 have v:∀{q x e l},¬lg (tK 0 a) q x e l:=by
  intro q x e l f;rcases Gq a 0 q with⟨n,_⟩|⟨_,p⟩
  .omega
  .unfold lg at f;rw[p,Xh]at f;rcases aX q a.length with k|s
   .have u:(a[q]).ju=true:=List.all_eq_true.1 A _ (List.getElem_mem k);have c:a.getD q .iP=a[q]:=by simp[k]
    rw[c]at f;rcases f with f|f<;>rw[f]at u<;>simp[SV.ju]at u
   .have c:a.getD q .iP=.iP:=by simp[bV s]
    rw[c]at f;simp at f
 have I:Bx d (tK 0 a) b:=⟨λ_ _ _ _ j=>absurd j v,λ_ _ _ _ _ _ _ _ _ j=>absurd j v,λ_ _ _ _ j=>absurd j v⟩
 refine Code.wp_mono ?_ (Ui z K O w m hd _ b _ _ w j L I U (oI.aH w))
 intro e s k c
 obtain⟨B,H,u,J,T,W,c⟩:=c.bC
 have C:∀(c:W7 h r H k.heap R),s.defers=[]/\∃D,(results i s.tmps).run g k=.ok D k/\∃F,Ending.returned D=.returned F/\oI w k/\R F k.heap:=by
  intro c;refine⟨u.defers,?_⟩;obtain⟨l,n,p⟩:=GZ z u r _ k J c;have Q:(results i s.tmps).run g k=.ok (if j:(l.map SV.v).toArray.size=1 then(l.map SV.v).toArray[0]else .tuple (l.map SV.v).toArray) k:=by
   rw[Qy,S,Ux];simp only[Sem.run_bind,Sem.run_map];rw[p];rfl
  refine⟨_,Q,_,rfl,T,?_⟩;cases l with
  |nil=>exact n
  |cons V l=>cases l with
   |nil=>exact n
   |cons Y l=>exact n
 cases e with
 |normal=>exact C c
 |ret=>exact C c
 |exit V=>exact c.elim
 |goto V=>exact c.elim
 |panic m=>exact absurd rfl (B.1 m)
 |outgrown=>exact absurd rfl B.2
end Go.Vc
end
section
namespace Go.Vc
abbrev vi(n:Int):Value:=.int .i64 n
abbrev vb(b:Bool):Value:=.bool b
abbrev vp(b o:Nat):Value:=.pointer (some ⟨b,o,none⟩)
def PZ(f:Func):Code:=
 match f.body with
 |some c=>c
 |none=>.skip
end Go.Vc
end
section
namespace Go.Vc
variable{a p:Prop}{m c d:E}{b o k f n:Nat}{v:Value}{l:List Nat}{s:O}{P:Program}{K e:Value->E->Prop}
structure J(m c:E):Prop where
 size:m.size<=c.size
 same:∀b,b<m.size->c[b]? =m[b]?
def J.aH(m:E):J m m:=⟨ad _,λ_ _=>rfl⟩
def J.trans{a b c:E}(h:J a b)(k:J b c):J a c:=
 ⟨bJ h.size k.size,λi d=>(k.same i (aL d h.size)).trans (h.same i d)⟩
def J.push(m:E)(o:Obj):J m (m.push o):=
 ⟨aJ,λb a=>by rw[xA,ae V]⟩
def J.aR{a:E}(h:J a m)(o:Obj):J a (m.push o):=h.trans (J.push m o)
def J.aj{a:E}(h:J a m)(d:a.size<=b)(o:Nat)(l:List Ce):J a (aj m b o l):=
 ⟨by rw[aD];exact h.size,λj c=>by rw[bh l m b o V];exact h.same j c⟩
def J.af(h:J m c)(a:af m b o=some v):af c b o=some v:=by
 rw[aM (h.same b (lH a))];exact a
def J.jD(h:J m c){l:List Ce}(e:gN m b o l):gN c b o l:=λi a d=>h.af (e i a d)
def cB.ext(h:J m c){e:Nat}{l:List Ce}(a:cB m b e l):cB c b e l:=by
 unfold cB at*;rw[h.same b (Array.getElem?_eq_some_iff.1 a).1];exact a
structure eO{α:Type}(m:E)(sz:Nat)(R:List Ce->α->Prop)(s:O)(l:List α):Prop where
 len:s.len=l.length
 cap:s.len<=s.cap
 fA:s.len<=9223372036854775807
 jD:∀(k:Nat)(x:α),l[k]? =some x->∃cs,R cs x/\gN m s.aC (s.off+k*sz) cs
def eO.mono{α:Type}{d:Nat}{R b:List Ce->α->Prop}{l:List α}(h:eO m d R s l)(j:J m c)(g:∀a x,R a x->b a x):eO c d b s l:=
 ⟨h.len,h.cap,h.fA,λk x i=>let⟨a,e,f⟩:=h.jD k x i;⟨a,g _ _ e,j.jD f⟩⟩
def UD(a:List Ce)(n:Int):Prop:=a=[.i n]
abbrev au(m:E)(s:O)(l:List Int):Prop:=eO m 1 UD s l
def au.aQ{l:List Int}(h:au m s l){x:Int}(a:l[k]? =some x):af m s.aC (s.off+k*1)=some (vi x):=by
 obtain⟨c,rfl,b⟩:=h.jD k x a;exact b 0 (.i x) rfl
def au.ext(a:J m c){l:List Int}(h:au m s l):au c s l:=h.mono a λ_ _ h=>h
def dJ{α:Type}{l:List α}(h:k<l.length):∃x,l[k]? =some x:=⟨l[k],by simp[h]⟩
def cq{α:Type}(l:List α)(k:Nat)(h:k<l.length:=by(omega)):∃x,l[k]? =some x:=dJ h
def oh(x:a)(h:a->p:=by(omega)):p:=h x
def PO{b:Prop}(x:a)(y:b)(h:a->b->p:=by(omega)):p:=h x y
def sx(h:a=False:=by(simp))(x:a):p:=(h▸x:False).elim
def az{α:Type}{l:List α}{x:α}(h:l[k]? =some x):k<l.length:=(List.getElem?_eq_some_iff.1 h).1
def bF{α:Type}{l:List α}{x:α}(h:l[k]? =some x):l.take (k+1)=l.take k++[x]:=by
 rw[List.take_add_one,h];rfl
def cG{α:Type}{l:List α}(h:l.length<=k):l.take k=l:=dD h
def LA(P:Program)(f:Nat)(a:List Value)(m:E)(v:Value):Prop:=aP P f a m λb c=>b=v/\J m c
def aP.post{a:List Value}(h:aP P f a m K)(b:∀v c,K v c->e v c):aP P f a m e:=h.mono b
def LA.then{a:List Value}(h:LA P f a m v)(d:∀c,J m c->K v c):aP P f a m K:=
 h.mono λ_ _⟨b,e⟩=>b▸d _ e
def O.Ix{t:O}:s.v=t.v<->s=t:=by
 refine⟨λh=>?_,λh=>h▸rfl⟩;cases s<;>cases t<;>simp_all [O.v]
def J.de(h:J m c)(d:∀b∈l,b<m.size):eF l m c:=λb a=>h.same b (d b a)
def J.lt(h:J m c)(a:b<m.size):b<c.size:=aL a h.size
def J.dB(h:J m c)(a:Vc.af m b o=some v):Vc.af c b o=Vc.af m b o:=by rw[h.af a,a]
def kd(h:k<n)(a:n<=9223372036854775807):cQ ((k:Int)+1)=((k+1:Nat):Int):=by rw[aS V V];rfl
def Cv(h:k<n):((n:Int) -((k+1:Nat):Int)).toNat<((n:Int) -(k:Int)).toNat:=V
def eu(g:n<=9223372036854775807){d:(Int->E->Prop)->(Int->E->Nat)->Int->E->Prop}(Q:Nat->E->Prop)(e:Q 0 m)
 (h:∀(k:Nat)(a:E)(I:Int->E->Prop)(μ:Int->E->Nat),k<=n->Q k a->
  (k<n->∀c,Q (k+1) c->I (cQ ((k:Int)+1)) c/\μ (cQ ((k:Int)+1)) c<μ k a)->d I μ k a):
 ∃(I:Int->E->Prop)(μ:Int->E->Nat),I 0 m/\∀i a,I i a->d I μ i a:=by
 refine⟨λi c=>∃k:Nat,i=k/\k<=n/\Q k c,λi _=>(n -i).toNat,⟨0,rfl,dy _,e⟩,?_⟩
 rintro i a ⟨k,rfl,f,j⟩
 refine h k a _ _ f j λb c l=>?_
 rw[kd b g]
 exact⟨⟨k+1,rfl,b,l⟩,Cv b⟩
def dE{σ:Type}(l:n<=9223372036854775807){f:σ}{e:(σ->Int->E->Prop)->(σ->Int->E->Nat)->σ->Int->E->Prop}(Q:Nat->σ->E->Prop)(g:Q 0 f m)
 (h:∀(k:Nat)(s:σ)(a:E)(I:σ->Int->E->Prop)(μ:σ->Int->E->Nat),k<=n->Q k s a->
  (k<n->∀b c,Q (k+1) b c->I b (cQ ((k:Int)+1)) c/\μ b (cQ ((k:Int)+1)) c<μ s k a)->e I μ s k a):
 ∃(I:σ->Int->E->Prop)(μ:σ->Int->E->Nat),I f 0 m/\∀s i a,I s i a->e I μ s i a:=by
 refine⟨λs i c=>∃k:Nat,i=k/\k<=n/\Q k s c,λ_ i _=>(n -i).toNat,⟨0,rfl,dy _,g⟩,?_⟩
 rintro s i a ⟨k,rfl,j,o⟩
 refine h k s a _ _ j o λd b c p=>?_
 rw[kd d l]
 exact⟨⟨k+1,rfl,d,p⟩,Cv d⟩
def dA(P:Program)(f:Nat)(a:List Value)(m:E)(p:Prop):Prop:=aP P f a m λv c=>∃b:Bool,v=.bool b/\(b=true<->p)/\J m c
def dA.then{a:List Value}(h:dA P f a m p)(g:∀(b:Bool) c,(b=true<->p)->J m c->K (.bool b) c):aP P f a m K:=
 h.mono λ_ _⟨b,e,d,i⟩=>e▸g b _ d i
def dA.aK{e:List Value}(i:dA P f e m p)(g:J d m)(q:∀b∈l,b<d.size)
 (o:∀(b:Bool) c,(b=true<->p)->J m c->J d c->K (.bool b) c):aP P f e m λv c=>eF l m c/\K v c:=
 i.mono λ_ _⟨b,n,j,a⟩=>⟨a.de λh k=>g.lt (q h k),n▸o b _ j a (g.trans a)⟩
def LA.aK{e:List Value}(i:LA P f e m v)(g:J d m)(o:∀b∈l,b<d.size)
 (n:∀c,J m c->J d c->K v c):aP P f e m λv c=>eF l m c/\K v c:=
 i.mono λ_ _⟨k,a⟩=>⟨a.de λh j=>g.lt (o h j),k▸n _ a (g.trans a)⟩
def aP.aK{a:List Value}(j:aP P f a m K)(o:J d m)(n:∀b∈l,b<d.size)
 (g:∀v c,K v c->J m c/\e v c):aP P f a m λv c=>eF l m c/\e v c:=
 j.mono λv c h=>⟨(g v c h).1.de λi k=>o.lt (n i k),(g v c h).2⟩
def fV{b:Bool}(h:b=true<->p)(d:J m c):∃a:Bool,Value.bool b=.bool a/\(a=true<->p)/\J m c:=⟨b,rfl,h,d⟩
def cw(h:¬p)(b:J m c):∃a:Bool,Value.bool false=.bool a/\(a=true<->p)/\J m c:=⟨false,rfl,by simp[h],b⟩
def jt(h:p)(b:J m c):∃a:Bool,Value.bool true=.bool a/\(a=true<->p)/\J m c:=⟨true,rfl,by simp[h],b⟩
def nb{b:Bool}(a:b=true<->p)(h:(!b)=true):¬p:=λc=>by simp[a.2 c]at h
def yb{b:Bool}(a:b=true<->p)(h:(!b)=false):p:=a.1 (by simpa using h)
def fb{b:Bool}(a:b=true<->p)(h:b=false):¬p:=λc=>by simp[a.2 c]at h
def bN{α:Type}{l:List α}{x:α}{p:α->Prop}(c:l[k]? =some x)(h:∀y∈l.take k,p y)(b:p x):∀y∈l.take (k+1),p y:=by
 rw[bF c];intro y a;rcases List.mem_append.1 a with a|a
 .exact h y a
 .simp at a;subst a;exact b
def cU{α:Type}{l:List α}{p:α->Prop}(a:l.length<=k)(h:∀y∈l.take k,p y):∀y∈l,p y:=by rw[<-cG a];exact h
def av{α:Type}{l:List α}{x:α}(h:l[k]? =some x):x∈l:=iV h
end Go.Vc
end
section
namespace Go.Vc
variable{m:E}{s:O}{k:Nat}
structure bq where
 tn:Int
 to:Int
 cons:List (List Int)
structure Instr where
 op:Int
 dst:Int
 bM:Int
 bY:Int
 args:List Int
 di:List Int
structure da where
 params:List Int
 dg:List Int
 aT:Int
 ax:Int
 bt:List Instr
structure cr where
 bu:List bq
 cy:List da
def mg(m:E)(a:List Ce)(c:List Int):Prop:=∃f,a=[.s f]/\au m f c
def ij(m:E)(a:List Ce)(d:bq):Prop:=∃f,a=[.i d.tn,.i d.to,.s f]/\eO m 1 (mg m) f d.cons
def dH(m:E)(b:List Ce)(x:Instr):Prop:=∃a j,b=[.i x.op,.i x.dst,.i x.bM,.i x.bY,.s a,.s j]/\au m a x.args/\au m j x.di
def kL(m:E)(b:List Ce)(p:da):Prop:=
 ∃a l c,b=[.s a,.s l,.i p.aT,.i p.ax,.s c]/\au m a p.params/\au m l p.dg/\eO m 6 (dH m) c p.bt
abbrev oD(m:E)(s:O)(l:List (List Int)):Prop:=eO m 1 (mg m) s l
abbrev bZ(m:E)(s:O)(l:List bq):Prop:=eO m 3 (ij m) s l
abbrev dZ(m:E)(s:O)(l:List Instr):Prop:=eO m 6 (dH m) s l
abbrev gT(m:E)(s:O)(l:List da):Prop:=eO m 5 (kL m) s l
structure eY(m:E)(d p:O)(im:cr):Prop where
 bu:bZ m d im.bu
 cy:gT m p im.cy
def mg.ext{m b:E}(g:J m b)(a:List Ce)(c:List Int):mg m a c->mg b a c:=λ⟨f,d,e⟩=>⟨f,d,e.ext g⟩
def oD.ext{m b:E}(a:J m b){s:O}{l:List (List Int)}(h:oD m s l):oD b s l:=h.mono a (mg.ext a)
def ij.ext{m b:E}(g:J m b)(a:List Ce)(c:bq):ij m a c->ij b a c:=λ⟨f,d,e⟩=>⟨f,d,oD.ext g e⟩
def bZ.ext{m b:E}(a:J m b){s:O}{l:List bq}(h:bZ m s l):bZ b s l:=h.mono a (ij.ext a)
def dH.ext{m d:E}(b:J m d)(a:List Ce)(c:Instr):dH m a c->dH d a c:=λ⟨e,j,f,g,h⟩=>⟨e,j,f,g.ext b,h.ext b⟩
def dZ.ext{m b:E}(a:J m b){s:O}{l:List Instr}(h:dZ m s l):dZ b s l:=h.mono a (dH.ext a)
def kL.ext{m d:E}(a:J m d)(b:List Ce)(c:da):kL m b c->kL d b c:=λ⟨e,l,c,f,g,h,i⟩=>⟨e,l,c,f,g.ext a,h.ext a,dZ.ext a i⟩
def gT.ext{m b:E}(a:J m b){s:O}{l:List da}(h:gT m s l):gT b s l:=h.mono a (kL.ext a)
def eY.ext{m c:E}(a:J m c){d p:O}{b:cr}(h:eY m d p b):eY c d p b:=⟨bZ.ext a h.bu,gT.ext a h.cy⟩
def oD.aQ{l:List (List Int)}(h:oD m s l){x:List Int}(b:l[k]? =some x):
 ∃f,au m f x/\af m s.aC (s.off+k*1)=some (O.v f):=by
 obtain⟨d,⟨f,rfl,a⟩,c⟩:=h.jD k x b
 exact⟨f,a,c 0 (.s f) rfl⟩
def bZ.aQ{l:List bq}(h:bZ m s l){x:bq}(c:l[k]? =some x):
 ∃f,oD m f x.cons/\af m s.aC (s.off+k*3)=some (vi x.tn)/\af m s.aC (s.off+k*3+1)=some (vi x.to)/\af m s.aC (s.off+k*3+2)=some (O.v f):=by
 obtain⟨d,⟨f,rfl,b⟩,a⟩:=h.jD k x c
 exact⟨f,b,a 0 (.i x.tn) rfl,a 1 (.i x.to) rfl,a 2 (.s f) rfl⟩
def dZ.aQ{l:List Instr}(h:dZ m s l){x:Instr}(e:l[k]? =some x):
 ∃b j,au m b x.args/\au m j x.di/\af m s.aC (s.off+k*6)=some (vi x.op)/\af m s.aC (s.off+k*6+1)=some (vi x.dst)/\af m s.aC (s.off+k*6+2)=some (vi x.bM)/\
  af m s.aC (s.off+k*6+3)=some (vi x.bY)/\af m s.aC (s.off+k*6+4)=some (O.v b)/\af m s.aC (s.off+k*6+5)=some (O.v j):=by
 obtain⟨f,⟨b,j,rfl,c,d⟩,a⟩:=h.jD k x e
 exact⟨b,j,c,d,a 0 (.i x.op) rfl,a 1 (.i x.dst) rfl,a 2 (.i x.bM) rfl,a 3 (.i x.bY) rfl,a 4 (.s b) rfl,a 5 (.s j) rfl⟩
def gT.aQ{l:List da}(h:gT m s l){x:da}(i:l[k]? =some x):
 ∃a b c,au m a x.params/\au m b x.dg/\dZ m c x.bt/\af m s.aC (s.off+k*5)=some (O.v a)/\af m s.aC (s.off+k*5+1)=some (O.v b)/\af m s.aC (s.off+k*5+2)=some (vi x.aT)/\
  af m s.aC (s.off+k*5+3)=some (vi x.ax)/\af m s.aC (s.off+k*5+4)=some (O.v c):=by
 obtain⟨j,⟨a,b,c,rfl,e,f,g⟩,d⟩:=h.jD k x i
 exact⟨a,b,c,e,f,g,d 0 (.s a) rfl,d 1 (.s b) rfl,d 2 (.i x.aT) rfl,d 3 (.i x.ax) rfl,d 4 (.s c) rfl⟩
end Go.Vc
end
section
namespace Go.Vc
variable{g a:E}{f:Nat}{s:O}{l:List Ce}{d:List (List Ce)}
structure gS(g a:E)(f sz:Nat)(s:O)(l:List Ce):Prop where
 len:l.length=s.len*sz
 aQ:s=.nil\/∃b c tail,s=.mk b 0 s.len c/\g.size<=b/\cB a b f (l++tail)/\(l++tail).length=c*sz/\s.len<=c
def gS.nil(g a:E)(f b:Nat):gS g a f b .nil []:=⟨aJ,Or.inl rfl⟩
def gS.new(h:J g a)(f c:Nat)(l:List Ce)(k:Nat)(b:l.length=k*c):gS g (a.push (.cells (bE l) f)) f c (.mk a.size 0 k k) l:=
 ⟨b,Or.inr ⟨a.size,k,[],rfl,h.size,by rw[eL];exact cB.push _ _ _,by simpa using b,ad _⟩⟩
def gS.congr{g a d:E}{f e:Nat}{s:O}{l:List Ce}(h:gS g a f e s l)(c:d[s.aC]? =a[s.aC]?):gS g d f e s l:=by
 refine⟨h.len,?_⟩;rcases h.aQ with b|⟨i,j,tail,b,h2,h3,h4,h5⟩
 .exact Or.inl b
 .refine Or.inr ⟨i,j,tail,b,h2,h3.congr ?_,h4,h5⟩;rw[b]at c;exact c
def gS.lt{g a:E}{f c:Nat}{s:O}{l:List Ce}(h:gS g a f c s l):s=.nil\/s.aC<a.size:=by
 rcases h.aQ with b|⟨d,e,tail,b,h2,h3,h4,h5⟩
 .exact Or.inl b
 .rw[b];exact Or.inr h3.lt
def gS.ext{c:E}{d:Nat}(h:gS g a f d s l)(e:J a c):gS g c f d s l:=by
 rcases h.lt with b|b
 .subst b;exact⟨h.len,Or.inl rfl⟩
 .exact h.congr (e.same _ b)
def gS.cL{c:E}{d:Nat}(h:gS c a f d s l)(j:g.size<=c.size):gS g a f d s l:=by
 refine⟨h.len,?_⟩;rcases h.aQ with b|⟨e,i,tail,b,h2,h3,h4,h5⟩
 .exact Or.inl b
 .exact Or.inr ⟨e,i,tail,b,bJ j h2,h3,h4,h5⟩
def gS.aC{c:Nat}(h:gS g a f c s l):s=.nil\/g.size<=s.aC:=by
 rcases h.aQ with b|⟨d,e,tail,b,h2,h3,h4,h5⟩
 .exact Or.inl b
 .rw[b];exact Or.inr h2
def gN.NW{b o:Nat}{r:List Ce}(h:gN a b o (l++r)):gN a b o l:=λi d c=>h i d (by rw[ay (az c)];exact c)
def gS.jD{g a:E}{f e:Nat}{s:O}{l:List Ce}(h:gS g a f e s l):gN a s.aC s.off l:=by
 rcases h.aQ with b|⟨i,c,tail,b,h2,h3,h4,h5⟩
 .have:l=[]:=List.length_eq_zero_iff.1 (by rw[h.len,b];simp);subst this;intro j c d;simp at d
 .rw[b];exact h3.jD.NW
def AW(l a tail:List Ce)(h:a.length<=tail.length):iO (l++tail) l.length a=l++a++tail.drop a.length:=by
 apply eM;intro i;rw[kU];simp only[aU];by_cases b:l.length<=i/\i<l.length+a.length/\i<l.length+tail.length
 .rw[ao b,fe,aI b.1,ay V]
 .rw[ae b];by_cases c:i<l.length
  .rw[ay c,fe,ay c]
  .rw[aI V,fe,aI V,aI V,rj];congr 1;omega
def gS.append{zs:List Ce}{v:Nat}{x:O}{d:List Ce}{K:O->E->Prop}(j:gS g a f zs.length s l)(p:J g a)
 (q:d.length=x.len*zs.length)(F:gN a x.aC x.off d)(t:(s.len+x.len)*v<=140737488355328)
 (u:∀k n,gS g n f zs.length k (l++d)->J g n->k.len=s.len+x.len->a.size<=n.size->(∀c,c<a.size->(s≠.nil->c≠s.aC)->n[c]? =a[c]?)->((s=.nil/\k=.nil)\/(s≠.nil/\k.aC=s.aC/\k≠.nil)\/k.aC=a.size)->K k n):
 jb a f zs v s x K:=by
 refine⟨d,q,F,λC=>?_,λI=>⟨t,l,j.len,j.jD,λi y=>?_⟩⟩
 .rcases j.aQ with h|⟨c,i,tail,h,h2,h3,h4,h5⟩
  .subst h
   have w:x.len=0:=by simpa using C
   have A:d=[]:=List.length_eq_zero_iff.1 (by rw[q,w];simp)
   subst A
   refine⟨λB z=>by simp at z,?_⟩
   exact u .nil _ ⟨by rw[eL];exact j.len,Or.inl rfl⟩ (by simpa[aj]using p) (by simp[w]) (pB (aD _ _ _ _).symm) (λc t _=>by simp[aj]) (Or.inl ⟨rfl,rfl⟩)
  .have z:=j.len
   have H:s.cap=i:=by rw[h];rfl
   rw[h]
   simp only[O.fO,O.jg,O.dU,bG]
   simp only[aU]at h4
   have B:d.length<=tail.length:=by
    have A:(s.len+x.len)*zs.length<=i*zs.length:=dt _ V;rw[fZ]at A;omega
   refine⟨h3.fq (by simp only[aU];omega),?_⟩
   have w:=cB.aj (m:=a) (b:=c) (e:=f) (r:=d) (o:=s.len*zs.length) h3
   rw[<-z,AW l d tail B]at w
   refine u _ _ ⟨?_,Or.inr ⟨c,i,tail.drop d.length,rfl,h2,?_,?_,?_⟩⟩ (p.aj h2 _ _) aJ (pB (aD _ _ _ _).symm) (λG _ D=>bh _ _ _ _ ?_) (Or.inr (Or.inl ⟨by rw[h];simp,by rw[h];rfl,aJ⟩))
   .simp only[aU,O.dU,fZ];omega
   .rw[<-z];exact w
   .simp only[aU,List.length_drop];omega
   .simp only[O.dU];omega
   .have:=D (by rw[h];simp)
    rw[h]at this;exact this
 .refine u _ _ ⟨?_,Or.inr ⟨a.size,i,mf zs (i -(s.len+x.len)),rfl,p.size,cB.push _ _ _,?_,by simpa using y⟩⟩ (p.aR _) aJ aJ (λc t _=>by rw[xA,ae V]) (Or.inr (Or.inr rfl))
  .simp only[aU,O.dU,fZ,j.len,q]
  .simp only[aU,mE,j.len,q]
   rw[Nat.sub_mul,<-fZ]
   have:(s.len+x.len)*zs.length<=i*zs.length:=dt _ y
   omega
def au.gG{l:List Int}(h:gS g a f 1 s (l.map Ce.i))(n:l.length<=9223372036854775807):au a s l:=by
 have i:s.len=l.length:=by have:=h.len;simp at this;omega
 refine⟨i,?_,V,λk x e=>⟨[.i x],rfl,λj d c=>?_⟩⟩
 .rcases h.aQ with b|⟨m,d,tail,b,h2,h3,h4,h5⟩
  .rw[b];exact ad _
  .rw[b];exact h5
 .have b:j=0:=by have:=az c;simp at this;omega
  subst b;simp at c;subst c;have:=h.jD k (.i x) (by simp[e]);simpa using this
def iH{g:Nat}:∀{d:List (List Ce)}(_:∀a∈d,a.length=g){b:Nat}{a:List Ce}(_:d[b]? =some a){i:Nat}{c:Ce}(_:a[i]? =some c),d.flatten[b*g+i]? =some c
 |[],_,b,a,h,_,_,_=>by simp at h
 |x::d,f,0,a,h,i,c,e=>by
  simp at h;subst h;rw[jk,PN,bG,ay (az e)];exact e
 |x::d,f,b+1,a,h,i,c,e=>by
  have k:x.length=g:=f x aZ;rw[jk,aI (by rw[k,fZ];omega)];have:=iH (d:=d) (λy l=>f y (ah _ l)) (b:=b) (by simpa using h) e;rw[<-this];congr 1;rw[k,fZ];omega
def dp{b:Nat}:∀{d:List (List Ce)},(∀a∈d,a.length=b)->d.flatten.length=d.length*b
 |[],_=>aJ
 |x::d,a=>by
  rw[jk,aU,dp (λy c=>a y (ah _ c)),a x aZ,aY,fZ];omega
structure gU{α:Type}(sz:Nat)(R:List Ce->α->Prop)(d:List (List Ce))(l:List α):Prop where
 len:d.length=l.length
 size:∀cs∈d,cs.length=sz
 df:∀(j:Nat)(cs:List Ce)(x:α),d[j]? =some cs->l[j]? =some x->R cs x
def gU.nil{α:Type}(a:Nat)(R:List Ce->α->Prop):gU a R [] []:=⟨rfl,aJ,aJ⟩
def gU.zg{α:Type}{f:Nat}{R:List Ce->α->Prop}{l:List α}(h:gU f R d l){cs:List Ce}{x:α}(i:cs.length=f)(k:R cs x):gU f R (d++[cs]) (l++[x]):=by
 refine⟨by simp[h.len],λe a=>?_,λj e y a b=>?_⟩
 .rcases List.mem_append.1 a with a|a
  .exact h.size e a
  .simp at a;subst a;exact i
 .rcases aX j d.length with c|c
  .rw[ay c]at a;rw[ay (h.len▸c)]at b;exact h.df j e y a b
  .rw[aI c]at a;rw[aI (by rw[<-h.len];exact c),<-h.len]at b;have g:j -d.length=0:=by have:=az a;simp at this;omega
   rw[g]at a b;simp at a b;subst a;subst b;exact k
def gU.mono{α:Type}{c:Nat}{R b:List Ce->α->Prop}{l:List α}(h:gU c R d l)(g:∀a x,R a x->b a x):gU c b d l:=
 ⟨h.len,h.size,λj a x e f=>g _ _ (h.df j a x e f)⟩
def eO.gG{α:Type}{e:Nat}{R:List Ce->α->Prop}{l:List α}(h:gS g a f e s d.flatten)(c:gU e R d l)(q:0<e)(t:l.length<=9223372036854775807):eO a e R s l:=by
 have p:s.len=l.length:=by
  have b:=h.len;rw[dp c.size]at b;have:=Uo q b;rw[<-this,c.len]
 refine⟨p,?_,V,λk x n=>?_⟩
 .rcases h.aQ with b|⟨j,i,tail,b,h2,h3,h4,h5⟩
  .rw[b];exact ad _
  .rw[b];exact h5
 .let⟨j,m⟩:=cq d k (by rw[c.len];exact az n);refine⟨j,c.df k j x m n,λr i o=>?_⟩;have:=h.jD (k*e+r) i (iH c.size m o);rwa[<-dR]at this
end Go.Vc
end
section
namespace Go.Vc
variable{S c:List Nat}{m a d:E}{b o e:Nat}{l:List Ce}{s:O}
def bI(S:List Nat)(m:E):E:=m.mapIdx λb o=>if b∈S then .cells #[] 0 else o
def Le(M a:E):Prop:=∀b o v,af M b o=some v->af a b o=some v
def eA{v:Value}:af (bI S m) b o=some v<->b∉S/\af m b o=some v:=by
 unfold af bI;rw[Xt];cases h:m[b]? with
 |none=>simp
 |some x=>by_cases a:b∈S<;>simp[a]
def Le.aH(m:E):Le m m:=λ_ _ _ h=>h
def Le.trans{a b c:E}(h:Le a b)(k:Le b c):Le a c:=λx o v d=>k x o v (h x o v d)
def J.le(h:J m a):Le m a:=λ_ _ _ b=>h.af b
def bA(S:List Nat)(m:E):Le (bI S m) m:=λ_ _ _ h=>(eA.1 h).2
def oP(h:∀b,b<m.size->b∉S->b∉c/\a[b]? =m[b]?):Le (bI S m) (bI c a):=λb o v i=>by
 let⟨e,d⟩:=eA.1 i;let⟨f,g⟩:=h b (lH d) e;exact eA.2 ⟨f,by rw[aM g];exact d⟩
def J.bI(h:J m a)(d:∀b∈c,b∈S\/m.size<=b):Le (bI S m) (bI c a):=
 oP λb e g=>⟨λf=>(d b f).elim g λh=>V,h.same b e⟩
def J.cR(h:J m a)(S:List Nat):Le (Vc.bI S m) (Vc.bI S a):=h.bI λ_ b=>Or.inl b
def gL(m:E)(a:∀b∈c,b∈S):Le (bI S m) (bI c m):=(J.aH m).bI λb d=>Or.inl (a b d)
def Le.jD{M a:E}(h:Le M a)(e:gN M b o l):gN a b o l:=λi c d=>h _ _ _ (e i c d)
def eO.le{α:Type}{d:Nat}{R c:List Ce->α->Prop}{l:List α}(h:eO m d R s l)(j:Le m a)(g:∀b x,R b x->c b x):eO a d c s l:=
 ⟨h.len,h.cap,h.fA,λk x i=>let⟨b,e,f⟩:=h.jD k x i;⟨b,g _ _ e,j.jD f⟩⟩
def au.le{m a:E}(b:Le m a){s:O}{l:List Int}(h:au m s l):au a s l:=eO.le h b λ_ _ h=>h
def mg.le{m a:E}(g:Le m a)(b:List Ce)(c:List Int):mg m b c->mg a b c:=λ⟨f,d,e⟩=>⟨f,d,e.le g⟩
def ij.le{m a:E}(d:Le m a)(b:List Ce)(c:bq):ij m b c->ij a b c:=λ⟨f,e,g⟩=>⟨f,e,eO.le g d (mg.le d)⟩
def bZ.le{m a:E}(b:Le m a){s:O}{l:List bq}(h:bZ m s l):bZ a s l:=eO.le h b (ij.le b)
def Jy(a:b∉S)(h:gN m b o l):gN (bI S m) b o l:=λi c d=>eA.2 ⟨a,h i c d⟩
def eO.NV{α:Type}{a:Nat}{R:List Ce->α->Prop}{c:List (List Ce)}{l:List α}(o:∀b∈S,b<d.size)(h:gS d m e a s c.flatten)(q:gU a R c l)(r:0<a)(p:l.length<=9223372036854775807):eO (bI S m) a R s l:=by
 have H:=eO.gG h q r p;refine⟨H.len,H.cap,H.fA,λt x i=>?_⟩;let⟨j,k,n⟩:=H.jD t x i;rcases h.aC with f|f
 .have g:=H.len;have:=az i;rw[f]at g;simp at g;omega
 .exact⟨j,k,Jy (λg=>oh (o _ g)) n⟩
def au.NV{l:List Int}(k:∀b∈S,b<d.size)(h:gS d m e 1 s (l.map Ce.i))(n:l.length<=9223372036854775807):au (bI S m) s l:=by
 have H:=au.gG h n;refine⟨H.len,H.cap,H.fA,λo x f=>?_⟩;let⟨g,i,j⟩:=H.jD o x f;rcases h.aC with a|a
 .have c:=H.len;have:=az f;rw[a]at c;simp at c;omega
 .exact⟨g,i,Jy (λc=>oh (k _ c)) j⟩
end Go.Vc
end
section
namespace Go.Vc
variable{X Y S:List Nat}{a b c m d:E}{f:List Ce}{s:O}{k:Nat}
structure Fz(X:List Nat)(m d:E):Prop where
 size:m.size<=d.size
 same:∀b,b<m.size->b∉X->d[b]? =m[b]?
def Fz.aH(X:List Nat)(m:E):Fz X m m:=⟨ad _,λ_ _ _=>rfl⟩
def Fz.rf(h:Fz X a b)(k:Fz Y b c)(g:∀y∈Y,y∈X\/a.size<=y):Fz X a c:=
 ⟨bJ h.size k.size,λi d e=>(k.same i (aL d h.size) λf=>(g i f).elim e λh=>V).trans (h.same i d e)⟩
def Fz.trans(h:Fz X a b)(k:Fz X b c):Fz X a c:=h.rf k λ_ d=>Or.inl d
def J.fz(h:J m d)(X:List Nat):Fz X m d:=⟨h.size,λb a _=>h.same b a⟩
def Fz.then(h:Fz X a b)(k:J b c):Fz X a c:=h.trans (k.fz X)
def Fz.push{X:List Nat}{a m:E}(h:Fz X a m)(o:Obj):Fz X a (m.push o):=h.then (J.push m o)
def Fz.ext(h:Fz [] m d):J m d:=⟨h.size,λb a=>h.same b a aJ⟩
def Fz.CH(h:Fz X m d)(f:∀b∈X,b∈Y\/m.size<=b):Fz Y m d:=⟨h.size,λb a e=>h.same b a λc=>(f b c).elim e λh=>V⟩
def Fz.aj(h:Fz X a m){b:Nat}(c:b∈X\/a.size<=b)(o:Nat)(l:List Ce):Fz X a (aj m b o l):=
 ⟨by rw[aD];exact h.size,λj f d=>by
  have e:j≠b:=λe=>by subst e;exact c.elim d λc=>V
  rw[bh l m b o e];exact h.same j f d⟩
def Fz.bI(h:Fz X m d){a:List Nat}(f:∀b∈X,b∈S)(e:∀b∈a,b∈S\/m.size<=b):Le (bI S m) (bI a d):=
 oP λb g c=>⟨λi=>(e b i).elim c λh=>V,h.same b g λj=>c (f b j)⟩
def Fz.cR(h:Fz X m d)(a:∀b∈X,b∈S):Le (Vc.bI S m) (Vc.bI S d):=h.bI a λ_ h=>Or.inl h
def Fz.de(h:Fz X m d){l:List Nat}(c:∀b∈l,b<m.size/\b∉X):eF l m d:=λb a=>h.same b (c b a).1 (c b a).2
inductive Ex where
 |mk (op bM:Int) (bH:List Ex)
def Ex.op:Ex->Int| .mk o _ _=>o
def Ex.bM:Ex->Int| .mk _ n _=>n
def Ex.bH:Ex->List Ex| .mk _ _ k=>k
structure LC(β:Type)where
 op:Int
 bM:Int
 bY:Int
 args:List Int
 bH:List β
inductive Bk where
 |mk (aE:List (LC Bk)) (aT:Int)
abbrev cF:=LC Bk
def Bk.aE:Bk->List cF| .mk s _=>s
def Bk.aT:Bk->Int| .mk _ r=>r
@[simp] theorem Ex.VY (o n:Int) (k:List Ex):(Ex.mk o n k).op=o:=rfl
@[simp] theorem Ex.TR (o n:Int) (k:List Ex):(Ex.mk o n k).bM=n:=rfl
@[simp] theorem Ex.Rb (o n:Int) (k:List Ex):(Ex.mk o n k).bH=k:=rfl
@[simp] theorem Bk.jG (s:List cF) (r:Int):(Bk.mk s r).aE=s:=rfl
@[simp] theorem Bk.iZ (s:List cF) (r:Int):(Bk.mk s r).aT=r:=rfl
inductive AH(m:E):List Ce->Ex->Prop
 |mk (op bM:Int) (bH:List Ex) (s:O) (css:Nat->List Ce) (hl:s.len=bH.length) (hc:s.len<=s.cap) (hm:s.len<=9223372036854775807)
  (hr:∀(k:Nat)(x:Ex),bH[k]? =some x->gN m s.aC (s.off+k*3) (css k)) (hk:∀(k:Nat)(x:Ex),bH[k]? =some x->AH m (css k) x):AH m [.i op,.i bM,.s s] (.mk op bM bH)
inductive qO(m:E):List Ce->Bk->Prop
 |mk (aE:List (LC Bk)) (r:Int) (s:O) (hl:s.len=aE.length) (hc:s.len<=s.cap) (hm:s.len<=9223372036854775807) (aa ks:Nat->O) (kcs:Nat->Nat->List Ce)
  (hr:∀(k:Nat)(x:LC Bk),aE[k]? =some x->gN m s.aC (s.off+k*5) [.i x.op,.i x.bM,.i x.bY,.s (aa k),.s (ks k)]/\au m (aa k) x.args/\(ks k).len=x.bH.length/\(ks k).len<=(ks k).cap/\(ks k).len<=9223372036854775807)
  (hb:∀(k:Nat)(x:LC Bk)(j:Nat)(b:Bk),aE[k]? =some x->x.bH[j]? =some b->gN m (ks k).aC ((ks k).off+j*2) (kcs k j))
  (hk:∀(k:Nat)(x:LC Bk)(j:Nat)(b:Bk),aE[k]? =some x->x.bH[j]? =some b->qO m (kcs k j) b):qO m [.s s,.i r] (.mk aE r)
def fQ(m:E)(f:List Ce)(x:cF):Prop:=∃a k,f=[.i x.op,.i x.bM,.i x.bY,.s a,.s k]/\au m a x.args/\eO m 2 (qO m) k x.bH
abbrev fm(m:E)(s:O)(l:List Ex):Prop:=eO m 3 (AH m) s l
abbrev eG(m:E)(s:O)(l:List cF):Prop:=eO m 5 (fQ m) s l
abbrev mU(m:E)(s:O)(l:List Bk):Prop:=eO m 2 (qO m) s l
def AH.le(h:Le m d){e:Ex}(a:AH m f e):AH d f e:=by
 induction a with
 |mk n bM bH s b g c i a o l=>exact .mk n bM bH s b g c i (λk x j=>h.jD (a k x j)) l
def qO.le{m d:E}(h:Le m d){f:List Ce}{b:Bk}(a:qO m f b):qO d f b:=by
 induction a with
 |mk aE t s o n p e ks r a l u q=>
  exact .mk aE t s o n p e ks r (λk x c=>let⟨g,i,j⟩:=a k x c;⟨h.jD g,i.le h,j⟩) (λk x j b c g=>h.jD (l k x j b c g)) q
def eO.choose{α:Type}{m:E}{a:Nat}{R:List Ce->α->Prop}{s:O}{l:List α}(h:eO m a R s l):
 ∃b:Nat->List Ce,∀(k:Nat)(x:α),l[k]? =some x->R (b k) x/\gN m s.aC (s.off+k*a) (b k):=by
 have:∀k:Nat,∃f:List Ce,∀x:α,l[k]? =some x->R f x/\gN m s.aC (s.off+k*a) f:=λk=>by
  cases e:l[k]? with
  |none=>exact⟨[],λx c=>by simp at c⟩
  |some x=>obtain⟨f,d⟩:=h.jD k x e;exact⟨f,λy c=>by simp at c;exact c▸d⟩
 exact⟨λk=>Classical.choose (this k),λk=>fy (this k)⟩
def AH.bC{e:Ex}(h:AH m f e):∃s,f=[.i e.op,.i e.bM,.s s]/\fm m s e.bH:=by
 cases h with
 |mk l bM bH s b g c i j d=>exact⟨s,rfl,g,c,i,λk x a=>⟨b k,d k x a,j k x a⟩⟩
def AH.of{b bM:Int}{bH:List Ex}(h:fm m s bH):AH m [.i b,.i bM,.s s] (.mk b bM bH):=by
 let⟨d,c⟩:=h.choose;exact .mk b bM bH s d h.len h.cap h.fA (λk x a=>(c k x a).2) λk x a=>(c k x a).1
def qO.bC{b:Bk}(h:qO m f b):∃s,f=[.s s,.i b.aT]/\eG m s b.aE:=by
 cases h with
 |mk aE w s r p t d ks v u o q=>
  exact⟨s,rfl,r,p,t,λk x a=>let⟨e,g,i,l,n⟩:=u k x a;⟨_,⟨d k,ks k,rfl,g,i,l,n,λj b c=>⟨v k j,q k x j b a c,o k x j b a c⟩⟩,e⟩⟩
def qO.of{r:Int}{aE:List cF}(h:eG m s aE):qO m [.s s,.i r] (.mk aE r):=by
 let⟨n,l⟩:=h.choose;have:∀k:Nat,∃(a c:O)(kc:Nat->List Ce),∀x:cF,aE[k]? =some x->n k=[.i x.op,.i x.bM,.i x.bY,.s a,.s c]/\au m a x.args/\(c.len=x.bH.length/\c.len<=c.cap/\c.len<=9223372036854775807)/\
  ∀(j:Nat)(b:Bk),x.bH[j]? =some b->qO m (kc j) b/\gN m c.aC (c.off+j*2) (kc j):=λk=>by
  cases o:aE[k]? with
  |none=>exact⟨.nil,.nil,λ_=>[],λx d=>by simp at d⟩
  |some x=>
   obtain⟨⟨a,c,f,g,e⟩,_⟩:=l k x o
   let⟨kc,p⟩:=e.choose
   exact⟨a,c,kc,λy i=>by simp at i;subst i;exact⟨f,g,⟨e.len,e.cap,e.fA⟩,p⟩⟩
 have H:=λk=>fy (fy (fy (this k)));refine .mk aE r s h.len h.cap h.fA (λk=>Classical.choose (this k)) (λk=>Classical.choose (fy (this k))) (λk=>Classical.choose (fy (fy (this k)))) (λk x d=>?_) (λk x j b d i=>((H k x d).2.2.2 j b i).2) λk x j b d i=>((H k x d).2.2.2 j b i).1;obtain⟨f,g,e,_⟩:=H k x d;exact⟨by rw[<-f];exact(l k x d).2,g,e⟩
def fQ.le{m d:E}(h:Le m d){f:List Ce}{x:cF}:fQ m f x->fQ d f x:=λ⟨a,k,b,c,e⟩=>⟨a,k,b,c.le h,eO.le e h λ_ _=>qO.le h⟩
def fm.le{m d:E}(a:Le m d){s:O}{l:List Ex}(h:fm m s l):fm d s l:=eO.le h a λ_ _=>AH.le a
def eG.le{m d:E}(a:Le m d){s:O}{l:List cF}(h:eG m s l):eG d s l:=eO.le h a λ_ _=>fQ.le a
def mU.le{m d:E}(a:Le m d){s:O}{l:List Bk}(h:mU m s l):mU d s l:=eO.le h a λ_ _=>qO.le a
def fm.aQ{l:List Ex}(h:fm m s l){x:Ex}(b:l[k]? =some x):
 ∃t,fm m t x.bH/\af m s.aC (s.off+k*3)=some (vi x.op)/\af m s.aC (s.off+k*3+1)=some (vi x.bM)/\af m s.aC (s.off+k*3+2)=some (O.v t):=by
 let⟨f,d,a⟩:=h.jD k x b
 obtain⟨t,rfl,c⟩:=d.bC
 exact⟨t,c,a 0 _ rfl,a 1 _ rfl,a 2 _ rfl⟩
def eG.aQ{l:List cF}(h:eG m s l){x:cF}(e:l[k]? =some x):
 ∃a t,au m a x.args/\mU m t x.bH/\af m s.aC (s.off+k*5)=some (vi x.op)/\af m s.aC (s.off+k*5+1)=some (vi x.bM)/\af m s.aC (s.off+k*5+2)=some (vi x.bY)/\af m s.aC (s.off+k*5+3)=some (O.v a)/\af m s.aC (s.off+k*5+4)=some (O.v t):=by
 obtain⟨f,⟨a,t,rfl,c,d⟩,b⟩:=h.jD k x e
 exact⟨a,t,c,d,b 0 _ rfl,b 1 _ rfl,b 2 _ rfl,b 3 _ rfl,b 4 _ rfl⟩
def mU.aQ{l:List Bk}(h:mU m s l){x:Bk}(b:l[k]? =some x):
 ∃t,eG m t x.aE/\af m s.aC (s.off+k*2)=some (O.v t)/\af m s.aC (s.off+k*2+1)=some (vi x.aT):=by
 let⟨f,d,a⟩:=h.jD k x b
 obtain⟨t,rfl,c⟩:=d.bC
 exact⟨t,c,a 0 _ rfl,a 1 _ rfl⟩
def Bk.w:Bk->Nat
 | .mk aE _=>1+(aE.map λs=>1+s.args.length+(s.bH.map Bk.w).sum).sum
decreasing_by
 rename_i s a _ _
 have b:=nT a
 have c:=nT (by assumption:_∈s.bH)
 have d:SizeOf.sizeOf s.bH<SizeOf.sizeOf s:=by cases s;simp;omega
 simp;omega
def LC.w(s:LC Bk):Nat:=1+s.args.length+(s.bH.map Bk.w).sum
def Bk.Y4(b:Bk):b.w=1+(b.aE.map LC.w).sum:=by
 cases b;rw[Bk.w];rfl
def Ex.n:Ex->Nat
 | .mk _ _ bH=>1+(bH.map Ex.n).sum
end Go.Vc
end
section
namespace Go.Vc
variable{S Y S' X:List Nat}{d a c:E}{b k n h tb:Nat}{s x:O}{g cs i:List Ce}{f:List (List Ce)}{K:O->E->Prop}
structure nG{α:Type}(sz:Nat)(R:E->List Ce->α->Prop):Prop where
 le:∀{M M':E}{cs:List Ce}{x:α},Le M M'->R M cs x->R M' cs x
 len:∀{M:E}{cs:List Ce}{x:α},R M cs x->cs.length=sz
def tp(_:E)(cs:List Ce)(n:Int):Prop:=UD cs n
def tp.mono:nG 1 tp:=⟨λ_ h=>h,λh=>by rw[h];rfl⟩
def AH.mono:nG 3 AH:=⟨λh=>AH.le h,λh=>by obtain⟨s,rfl,_⟩:=h.bC;rfl⟩
def qO.mono:nG 2 qO:=⟨λh=>qO.le h,λh=>by obtain⟨s,rfl,_⟩:=h.bC;rfl⟩
def fQ.mono:nG 5 fQ:=⟨λh=>fQ.le h,λh=>by obtain⟨_,_,rfl,_⟩:=h;rfl⟩
structure Gr{α:Type}(S:List Nat)(d a:E)(b sz:Nat)(R:E->List Ce->α->Prop)(s:O)(l:List α):Prop where
 gR:s≠.nil
 bg:∃f,gS d a b sz s f.flatten/\gU sz (R (bI (s.aC::S) a)) f l
def Gr.len{α:Type}{S:List Nat}{d a:E}{b e:Nat}{R:E->List Ce->α->Prop}{s:O}{l:List α}(h:Gr S d a b e R s l)(i:0<e):s.len=l.length:=by
 obtain⟨_,f,g,c⟩:=h;have:=g.len;rw[dp c.size]at this;rw[<-c.len,Uo i this]
def Gr.bn{α:Type}{g:Nat}{R:E->List Ce->α->Prop}{l:List α}(h:Gr S d a b g R s l):d.size<=s.aC/\s.aC<a.size:=by
 let⟨c,f,e,i⟩:=h;exact⟨e.aC.resolve_left c,e.lt.resolve_left c⟩
def Gr.new{α:Type}(S:List Nat){d a:E}(h:d.size<=a.size)(b c:Nat)(R:E->List Ce->α->Prop):Gr S d (a.push (.cells (bE []) b)) b c R (.mk a.size 0 0 0) []:=
 ⟨aJ,[],(gS.new (J.aH a) b c [] 0 aJ).cL h,gU.nil _ _⟩
def Gr.fU{α:Type}{g:Nat}{R:E->List Ce->α->Prop}{l:List α}(o:nG g R)(h:Gr S d a b g R s l)(j:Fz Y a c)(i:∀e∈Y,e∈S/\e<d.size):Gr S d c b g R s l:=by
 have q:=h.bn;let⟨k,f,m,n⟩:=h;refine⟨k,f,m.congr (j.same _ q.2 λp=>oh ((i _ p).2)),n.mono λcs x=>o.le ?_⟩;exact j.cR λe p=>ah _ (i e p).1
def Gr.ML{α:Type}{g:Nat}{R:E->List Ce->α->Prop}{l:List α}(n:nG g R)(h:Gr S d a b g R s l)(i:Fz Y a c)(o:∀e∈Y,e∈S)(q:s.aC∉Y):Gr S d c b g R s l:=by
 have r:=h.bn;let⟨j,f,k,m⟩:=h;exact⟨j,f,k.congr (i.same _ r.2 q),m.mono λcs x=>n.le (i.cR λe p=>ah _ (o e p))⟩
def Gr.re{α:Type}{h:Nat}{R:E->List Ce->α->Prop}{l:List α}(o:nG h R)(i:Gr S d a b h R s l)(j:Fz Y a c)(q:∀e∈Y,e∈S)(r:s.aC∉Y)(p:∀e∈S',e∈S\/a.size<=e):Gr S' d c b h R s l:=by
 have t:=i.bn;let⟨k,f,m,n⟩:=i;refine⟨k,f,m.congr (j.same _ t.2 r),n.mono λcs x=>o.le (j.bI (λe g=>ah _ (q e g)) λe g=>?_)⟩;rcases List.mem_cons.1 g with g|g
 .exact Or.inl (by rw[g];exact aZ)
 .exact(p e g).imp (ah _) id
def Gr.ext{α:Type}{e:Nat}{R:E->List Ce->α->Prop}{l:List α}(f:nG e R)(h:Gr S d a b e R s l)(g:J a c):Gr S d c b e R s l:=
 h.fU f (g.fz []) aJ
def Gr.done{α:Type}{c:Nat}{R:E->List Ce->α->Prop}{l:List α}(j:nG c R)(h:Gr S d a b c R s l)(k:∀e∈S,e<d.size)(o:0<c)(n:l.length<=9223372036854775807):eO (bI S a) c (R (bI S a)) s l:=by
 obtain⟨_,f,g,i⟩:=h;exact eO.NV k g (i.mono λcs x=>j.le (gL a λe m=>ah _ m)) o n
def J.NW(h:k<=a.size):J (a.extract 0 k) a:=by
 refine⟨bS,λb c=>?_⟩;have d:b<k:=by simp at c;omega
 rw[Array.getElem?_extract];simp;omega
def jF(h:k<=a.size):(a.extract 0 k).size=k:=bS
def Gr.next{α:Type}{F:Nat}{R:E->List Ce->α->Prop}{C D:List α}(G:nG g.length R)(W:0<g.length)
 (y:Gr S d a b g.length R s C)(H:Fz X d a)(u:x.len=f.length)(T:gN a x.aC x.off f.flatten)(n:gU g.length (R (bI (s.aC::S) a)) f D)(i:(C.length+D.length)*F<=140737488355328)
 (P:∀r c,Gr S d c b g.length R r (C++D)->Fz X d c->(a.size<=c.size/\(r.aC=s.aC\/a.size<=r.aC))->(∀e,e<a.size->e≠s.aC->c[e]? =a[e]?)->K r c):jb a b g F s x K:=by
 have Q:=y.len W
 have hy:=y.bn
 let⟨z,w,O,j⟩:=y
 have q:d.size<=a.size:=H.size
 refine gS.append (g:=a.extract 0 d.size) (zs:=g) (d:=f.flatten) (l:=w.flatten) (O.cL (by rw[jF q];exact ad _)) (J.NW q) ?_ T (by rw[Q,u,n.len];exact i) λr c Y k2 k3 Z k5 B=>?_
 .rw[dp n.size,u]
 have A:∀e,e<a.size->e≠s.aC->c[e]? =a[e]? :=λe i k=>k5 e i λ_=>k
 have U:r≠.nil:=by
  rcases B with⟨h,_⟩|⟨_,_,h⟩|h
  .exact absurd h z
  .exact h
  .intro b;rw[b]at h;simp at h;omega
 have L:a.size<=c.size:=Z
 have I:Le (bI (s.aC::S) a) (bI (r.aC::S) c):=oP λe i k=>by
  simp only[aW,uJ]at k;refine⟨?_,A e i k.1⟩;simp only[aW,uJ];refine⟨?_,k.2⟩;rcases B with⟨h,_⟩|⟨_,h,_⟩|h
  .exact absurd h z
  .rw[h];exact k.1
  .omega
 refine P r c ⟨U,w++f,?_,?_⟩ ⟨bJ q L,λe i u=>?_⟩ ⟨L,?_⟩ A
 .rw[xB]
  exact Y.cL (by rw[jF q];exact ad _)
 .refine⟨by simp[j.len,n.len],λm o=>?_,λM m N t v=>?_⟩
  .rcases List.mem_append.1 o with o|o
   .exact j.size m o
   .exact n.size m o
  .rcases aX M w.length with p|p
   .rw[ay p]at t
    rw[ay (j.len▸p)]at v
    exact G.le I (j.df M m N t v)
   .rw[aI p]at t
    rw[aI (by rw[<-j.len];exact p),<-j.len]at v
    exact G.le I (n.df _ m N t v)
 .rw[A e (aL i q) V];exact H.same e i u
 .rcases B with⟨h,_⟩|⟨_,h,_⟩|h
  .exact absurd h z
  .exact Or.inl h
  .exact Or.inr V
def Gr.kj{α:Type}{n:Nat}{R:E->List Ce->α->Prop}{m:List α}{k:α}(i:nG g.length R)(z:0<g.length)
 (q:Gr S d a b g.length R s m)(w:Fz X d a)(p:R (bI (s.aC::S) a) cs k)(j:(m.length+1)*n<=140737488355328)
 (x:∀r c,Gr S d c b g.length R r (m++[k])->Fz X d c->(a.size<=c.size/\(r.aC=s.aC\/a.size<=r.aC))->(∀f,f<a.size->f≠s.aC->c[f]? =a[f]?)->K r c):jb (a.push (.cells (bE cs) b)) b g n s (.mk a.size 0 1 1) K:=by
 have h:=J.push a (.cells (bE cs) b)
 refine Gr.next (f:=[cs]) (D:=[k]) i z (q.ext i h) (w.then h) rfl ?_ ?_ j λr c t u o v=>x r c t u ⟨bJ h.size o.1,o.2.imp id (bJ h.size)⟩ λf j y=>(v f (aL j h.size) y).trans (h.same f j)
 .have:=(cB.push a (e:=b) (l:=cs)).jD
  simpa using this
 .have:=gU.zg (gU.nil g.length (R (bI (s.aC::S) (a.push (.cells (bE cs) b))))) (i.len p) (i.le (h.cR _) p)
  simpa using this
def eO.V0{α:Type}{b:Nat}{R:List Ce->α->Prop}{l:List α}(z:∀cs x,R cs x->cs.length=b)(r:eO a b R s l):
 ∃f,s.len=f.length/\gN a s.aC s.off f.flatten/\gU b R f l:=by
 let⟨e,k⟩:=r.choose
 have w:∀(c:Nat)(cs:List Ce),((List.range l.length).map e)[c]? =some cs->c<l.length/\cs=e c:=λc cs d=>by
  simp only[bT,jq]at d;let⟨E,o,B⟩:=d;let⟨t,u⟩:=List.getElem?_eq_some_iff.1 o;simp at t u;subst u;exact⟨t,B.symm⟩
 have m:∀cs∈(List.range l.length).map e,cs.length=b:=λcs D=>by
  let⟨c,d⟩:=List.mem_iff_getElem?.1 D;obtain⟨o,rfl⟩:=w c cs d;let⟨x,h⟩:=dJ o;exact z _ _ (k c x h).1
 refine⟨(List.range l.length).map e,by simp[r.len],λi A q=>?_,aJ,m,λc cs x d h=>?_⟩
 .rcases iS b with n|n
  .have g:=az q
   rw[dp m,n]at g;simp at g
  have g:=az q
  rw[dp m]at g
  simp at g
  have d:i/b<l.length:=Nat.div_lt_of_lt_mul (by rw[Nat.mul_comm];exact g)
  let⟨x,h⟩:=dJ d
  have y:i=i/b*b+i%b:=by rw[Nat.mul_comm];exact(Nat.div_add_mod i b).symm
  have H:=Nat.mod_lt i n
  have G:(e (i/b)).length=b:=z _ _ (k _ x h).1
  let⟨F,v⟩:=cq (e (i/b)) (i%b)
  have p:=iH (d:=(List.range l.length).map e) m (b:=i/b) (a:=e (i/b)) (by simp[d]) v
  rw[<-y,q]at p
  simp at p;subst p
  have C:=(k _ x h).2 _ A v
  rw[y,<-dR];exact C
 .obtain⟨_,rfl⟩:=w c cs d
  exact(k c x h).1
def Gr.all{α:Type}{j:Nat}{R:E->List Ce->α->Prop}{l i:List α}(k:nG g.length R)(v:0<g.length)
 (h:Gr S d a b g.length R s l)(t:Fz X d a)(p:eO (bI (s.aC::S) a) g.length (R (bI (s.aC::S) a)) x i)(q:(l.length+i.length)*j<=140737488355328)
 (u:∀r c,Gr S d c b g.length R r (l++i)->Fz X d c->(a.size<=c.size/\(r.aC=s.aC\/a.size<=r.aC))->(∀e,e<a.size->e≠s.aC->c[e]? =a[e]?)->K r c):jb a b g j s x K:=by
 let⟨f,m,n,o⟩:=p.V0 λ_ _ h=>k.len h
 exact Gr.next k v h t m ((bA _ _).jD n) o q u
def Gr.lit{α:Type}{e:Nat}{R:E->List Ce->α->Prop}{l:List α}(j:nG e R)(i:d.size<=a.size)(p:∀g∈S,g<d.size)(k:cs=f.flatten)(m:n=f.length)(h:gU e (R (bI S a)) f l):
 Gr S d (a.push (.cells (bE cs) b)) b e R (.mk a.size 0 n n) l:=by
 subst k m
 refine⟨aJ,f,(gS.new (J.aH a) b e f.flatten f.length (dp h.size)).cL i,h.mono λo x=>j.le ?_⟩
 exact(J.push a _).bI λg c=>by
  rcases List.mem_cons.1 c with c|c
  .exact Or.inr (by simp[c])
  .exact Or.inl c
def Gr.mZ{α:Type}{c:Nat}{R:E->List Ce->α->Prop}{l:List α}(m:nG c R)(h:Gr S d a b c R s l)(n:s.aC∉S)(q:0<c)(p:l.length<=9223372036854775807):eO (bI S a) c (R (bI S a)) s l:=by
 obtain⟨_,f,e,g⟩:=h;have H:=eO.gG e (g.mono λcs x=>m.le (gL a λj i=>ah s.aC i)) q p;exact⟨H.len,H.cap,H.fA,λk x o=>let⟨cs,i,j⟩:=H.jD k x o;⟨cs,i,Jy n j⟩⟩
def Gr.ne{α:Type}{p:Nat}{R:E->List Ce->α->Prop}{o:List α}(k:Gr S d a b p R s o)(g:cB a h tb i)(n:tb≠b):s.aC≠h:=by
 let⟨l,f,m,w⟩:=k;let⟨q,r,tail,j,t,c,u,v⟩:=m.aQ.resolve_left l;intro e;rw[j]at e;simp only[O.fO]at e;subst e;unfold cB at g c;rw[g]at c;simp at c;exact n c.2
def Gr.Kp{α β:Type}{q:E}{r c t:Nat}{R:E->List Ce->α->Prop}{g:E->List Ce->β->Prop}{e:O}{o:List α}{p:List β}(j:Gr S d a b r R s o)(k:Gr S' q a c t g e p)(n:c≠b):s.aC≠e.aC:=by
 let⟨l,f,m,z⟩:=k;let⟨u,v,tail,h,w,i,x,y⟩:=m.aQ.resolve_left l;have:=j.ne i n;rw[h];exact this
def Gr.box{α:Type}{L:List Nat}{j y:Nat}{R:E->List Ce->α->Prop}{u:List α}{w:α}{K:E->Prop}(B:nG g.length R)(U:0<g.length)
 (o:Gr S d a b g.length R s u)(C:Fz X d a)(P:R (bI (s.aC::S) a) cs w)(k:(u.length+1)*y<=140737488355328)
 (p:cB a h tb i)(hi:j<i.length)(G:tb≠b)(t:d.size<=h/\h∈S)(A:∀e∈L,e<a.size/\e≠h/\e≠s.aC)
 (Q:∀r c,Gr S d c b g.length R r (u++[w])->cB c h tb (iO i j [.s r])->Fz X d c->a.size<=c.size->(∀e,e<a.size->e≠s.aC->e≠h->c[e]? =a[e]?)->K c):
 af (a.push (.cells (bE cs) b)) h j=af a h j/\
 jb (a.push (.cells (bE cs) b)) b g y s (.mk a.size 0 1 1) λr c=>eF L (a.push (.cells (bE cs) b)) c/\fq c h j 1/\(eF L c (aj c h j [.s r])/\K (aj c h j [.s r])):=by
 have D:=p.lt
 have H:=J.push a (.cells (bE cs) b)
 have hy:=o.bn
 refine⟨aM (H.same h D) j,Gr.kj B U o C P k λr c z I W v=>?_⟩
 have q:cB c h tb i:=p.congr (v h D (kE (o.ne p G)))
 have T:=z.ne q G
 have n:∀e,e≠h->(aj c h j [.s r])[e]? =c[e]? :=λe k=>bh _ _ _ _ k
 have Z:=C.size
 have Y:=t.1
 refine⟨λe k=>?_,q.fq V,λe k=>n e (A e k).2.1,Q r _ ?_ (cB.aj (m:=c) q) (I.aj (Or.inr t.1) _ _) (by rw[aD];exact W.1) λe l N O=>(n e O).trans (v e l N)⟩
 .have l:=A e k
  rw[v e l.1 l.2.2,H.same e l.1]
 .let⟨M,f,g1,g2⟩:=z
  refine⟨M,f,g1.congr (n _ T),g2.mono λcs x=>B.le ?_⟩
  exact oP λe k F=>⟨F,n e λb=>F (by rw[b];exact ah _ t.2)⟩
def au.lit(b:Nat)(l:List Int)(d:∀c∈S,c<a.size)(c:cs=l.map Ce.i)(f:n=l.length)(e:l.length<=9223372036854775807):au (bI S (a.push (.cells (bE cs) b))) (.mk a.size 0 n n) l:=by
 subst c f;have h:=gS.new (J.aH a) b 1 (l.map Ce.i) l.length aJ;exact au.NV d h e
end Go.Vc
end
section
namespace Go.Vc
variable{x y:Operand}{k:SV->Prop}{l g:List Ce}{f:Int->Prop}{r:List Sh}{a:Int}{e:Array (Nat×Operand)}{Q:Exit->Fr->E->Prop}{c:Code}
section
variable{P:Program}{T:TT}{G:List Nat}{n:Nat}{A:Ou}{m p:E}{h q:Fr}{b o j i t:Nat}{s:Sh}{d:Option Nat}{v:Value}
def nc(n:Nat):Int:=n
def nce{n:Nat}:nc n=n:=rfl
def VJ:SN T h .len [t] [x] k=match fx T t,ev h x with
 |some ⟨.slice _,_,_⟩,.c (.s s)=>k (.c (.i (nc s.len)))
 |_,_=>False:=rfl
def VK{l:List Nat}:SN T h .max l [x,y] k=match ev h x,ev h y with
 | .c (.i a),.c (.i b)=>k (.c (.i (if b>a then b else a)))
 |_,_=>False:=rfl
def VL{l:List Nat}:SN T h .min l [x,y] k=match ev h x,ev h y with
 | .c (.i a),.c (.i b)=>k (.c (.i (if b<a then b else a)))
 |_,_=>False:=rfl
def Rg(m:E)(k:E->Prop):NQ m k=(let p:=m;k p):=rfl
def pa{α:Type}(x:α)(f:α->Prop):Prop:=f x
def Sg(s:Sh)(f:s.ty->Prop):Prop:=∃x,f x
def UH(s:Sh)(f:s.ty->Prop):Prop:=∀x,f x
def exI:Sg .I f=∃x,pa x f:=rfl
def exU{k:IntKind}:Sg (.U k) f=∃x,pa x f:=rfl
def exB{f:Bool->Prop}:Sg .T f=∃x,pa x f:=rfl
def Yj{f:O->Prop}:Sg .S f=∃x,pa x f:=rfl
def exP{f:Nat×Nat->Prop}:Sg .P f=∃x,pa x f:=rfl
def exF{f:Fn×Array Value×Array Value->Prop}:Sg .F f=∃x,pa x f:=rfl
def exM{f:Nat->Prop}:Sg .M f=∃x,pa x f:=rfl
def alI:UH .I f=∀x,f x:=rfl
def alU{k:IntKind}:UH (.U k) f=∀x,f x:=rfl
def alB{f:Bool->Prop}:UH .T f=∀x,f x:=rfl
def XN{f:O->Prop}:UH .S f=∀x,f x:=rfl
def alP{f:Nat×Nat->Prop}:UH .P f=∀x,f x:=rfl
def alF{f:Fn×Array Value×Array Value->Prop}:UH .F f=∀x,f x:=rfl
def alM{f:Nat->Prop}:UH .M f=∀x,f x:=rfl
def cU8{x:Int}:jV (.int .u8 x)=some (.u .u8 x):=rfl
def z0:mf g 0=[]:=rfl
def z1:mf g (n+1)=g++mf g n:=rfl
def tb{a b:Nat}:Nat.testBit a b=(1&&&(a>>>b)!=0):=rfl
def VE{e:Edge}{a:List Edge}:kQ (e::a)=bif Region.binds .any e then 2^e.on|||kQ a else kQ a:=rfl
def b1:Region.binds .any ⟨i,.data⟩=true:=rfl
def b2:Region.binds .any ⟨i,.chain⟩=true:=rfl
def b3:Region.binds .any ⟨i,.guard⟩=true:=rfl
def b4:Region.binds .any ⟨i,.phase⟩=true:=rfl
def b5{x:Departure}:Region.binds .any ⟨i,.gcOnly x⟩=false:=rfl
def b6{x:Departure}:Region.binds .any ⟨i,.textOnly x⟩=false:=rfl
def Q9(c:Ce)(k:List Ce->Prop)(l:List Ce):Prop:=k (c::l)
def U6(k:SV->Prop)(l:List Ce):Prop:=k (.agg l)
def ZY(m:E)(b o j:Nat)(s:Sh)(r:List Sh)(k:List Ce->Prop)(x:s.ty):Prop:=
 af m b (bif j==0 then o else o+j)=some (s.mk x).v/\VW m b o (j+1) r (Q9 (s.mk x) k)
def Yd{k:List Ce->Prop}:VW m b o j (s::r) k=Sg s (ZY m b o j s r k):=by
 cases j<;>rfl
def ZX(m:E)(b o:Nat)(s:Sh)(k:SV->Prop)(x:s.ty):Prop:=af m b o=some (s.mk x).v/\k (.c (s.mk x))
def Ti{t:Nat}:Pe T m t b o k=match fx T t with
 |some ⟨.struct _,a,_⟩=>VW m b o 0 a (U6 k)
 |some ⟨.cell,[s],_⟩=>Sg s (ZX m b o s k)
 |some ⟨.slice _,[_],_⟩=>∃x:O,af m b o=some x.v/\k (.c (.s x))
 |_=>False:=rfl
def ile{b:Int}:Int.le a b=(a<=b):=rfl
def ZW(s:O)(z:Nat)(l:Int)(k:SV->Prop)(h:Int):Prop:=Int.le 0 l/\Int.le l h/\Int.le h (nc s.cap)/\k (.c (.s (s.cut l.toNat h.toNat z)))
def ZZ(h:Fr)(a:Option Operand)(s:O)(z:Nat)(k:SV->Prop)(l:Int):Prop:=LX h a (nc s.len) (ZW s z l k)
def Yb{f:Nat}{mk:Nat->SV}:Ew T t f o mk k=match fx T t with
 |some ⟨.struct c,_,_⟩=>match GN c f with
  |some (a,u)=>match fx T u with
   |some b=>bif b.tS||Nat.beq b.sh.length 0 then False else bif a==0 then k (mk o)else k (mk (o+a))
   |none=>False
  |none=>False
 |_=>False:=by
 have h:∀a,(bif a==0 then k (mk o)else k (mk (o+a)))=k (mk (o+a)):=λa=>by cases a<;>rfl
 simp only[h];rfl
def VI{s:O}{n:Int}:WQ T t s n k=match fx T t with
 |some ⟨.slice e,_,_⟩=>match fx T e with
  |some a=>bif a.tS then False else Int.le 0 n/\n<nc s.len/\k (.c (.p s.aC (s.off+n.toNat*a.sh.length)))
  |none=>False
 |_=>False:=rfl
def Q0{s:O}{b a:Option Operand}:QC T h t s b a k=match fx T t with
 |some ⟨.slice e,_,_⟩=>match fx T e with
  |some c=>bif c.tS then False else LX h b 0 (ZZ h a s c.sh.length k)
  |none=>False
 |_=>False:=rfl
def QX:rd T h m k (.build t e)=match fx T t with
 |some ⟨.struct a,b,_⟩=>bif uw T a then Ep T h a (b.map Sh.zero) e.toList (U6 k)else False
 |_=>False:=rfl
def Z3(s:Sh)(r:List Sh)(k:List Ce->Prop)(x:s.ty):Prop:=Uw r (Q9 (s.mk x) k)
def VG{k:List Ce->Prop}:Uw (s::r) k=Sg s (Z3 s r k):=rfl
def Yp(a:AV)(k:List AV->Prop)(l:List AV):Prop:=k (a::l)
def Z5(T:TT)(r:List Nat)(k:List AV->Prop)(l:List Ce):Prop:=RH T r (Yp (.agg l) k)
def Z4(T:TT)(s:Sh)(r:List Nat)(k:List AV->Prop)(x:s.ty):Prop:=RH T r (Yp (.c (s.mk x)) k)
def VH{r:List Nat}{k:List AV->Prop}:RH T (t::r) k=match fx T t with
 |some ⟨.struct _,a,_⟩=>Uw a (Z5 T r k)
 |some ⟨.cell,[s],_⟩=>Sg s (Z4 T s r k)
 |some ⟨.slice _,[_],_⟩=>∃x:O,RH T r (Yp (.c (.s x)) k)
 |_=>False:=rfl
def Z2(v:Value)(k:SV->Prop)(l:List AV):Prop:=v=.tuple (l.map AV.v).toArray/\k (.Xc l)
def Z1(v:Value)(k:SV->Prop)(l:List Ce):Prop:=v=.agg (l.map Ce.v).toArray/\k (.agg l)
def Z0(v:Value)(s:Sh)(k:SV->Prop)(x:s.ty):Prop:=v=(s.mk x).v/\k (.c (s.mk x))
def VQ:Pm T t v k=match fx T t with
 |some ⟨.tuple [],_,_⟩=>k .iP
 |some ⟨.tuple a,_,_⟩=>RH T a (Z2 v k)
 |some ⟨.struct _,a,_⟩=>Uw a (Z1 v k)
 |some ⟨.cell,[s],_⟩=>Sg s (Z0 v s k)
 |some ⟨.slice _,[_],_⟩=>∃x:O,v=x.v/\k (.c (.s x))
 |_=>False:=rfl
def U7(k:Fr->SV->E->Prop)(h:Fr)(m:E)(x:SV):Prop:=k h x m
def inG(G:List Nat)(g:Nat):Prop:=G.elem g=true
def Yn{G:List Nat}{g:Nat}:inG G g=(G.elem g=true):=rfl
def nz(b:Int):Prop:=b≠0
def nze{b:Int}:nz b=(b≠0):=rfl
def VN{b:Int}:qS .quo a b k=(nz b/\k (.c (.i (cQ (a.tdiv b))))):=rfl
def VP{b:Int}:qS .rem a b k=(nz b/\k (.c (.i (a.tmod b)))):=rfl
def Te{c:Nat}{f:Operand}{a:List Operand}{k:Fr->SV->E->Prop}:SW P T G n h m c f a k=match Tn h (a.map (ev h))with
 |none=>False
 |some q=>match ev h f with
  | .c (.fn (.func g) first b)=>bif G.elem g&&a.all (λx=>(ev h x).ju)then
   aP P g (first.toList++(a.map λx=>(ev h x).v)++b.toList) m λv p=>zd (Lv n q []) m p (Pm T c v (U7 k q p))
   else False
  | .c (.fv b)=>bif a.all (λx=>(ev h x).ju)then
   ∃g,b.1=.func g/\inG G g/\aP P g (b.2.1.toList++(a.map λx=>(ev h x).v)++b.2.2.toList) m λv p=>zd (Lv n q []) m p (Pm T c v (U7 k q p))
   else False
  |_=>False:=rfl
def p3(m:E)(k:Fr->SV->E->Prop)(h:Fr)(x:SV):Prop:=k h x m
def p2(m:E)(k:SV->E->Prop)(x:SV):Prop:=k x m
def Tk{k:Fr->SV->E->Prop}:RP n h none m t l k=NQ (m.push (.cells (bE l) t)) λp=>p3 p k h (.c (.p m.size 0)):=rfl
def Tl{j:Nat}{k:Fr->SV->E->Prop}:RP n h (some j) m t l k=match gK h (n+j)with
 | .yG _ _ _=>False
 |_=>NQ (m.push (.cells (bE l) t)) λp=>p3 p k ((n+j,.box m.size t l)::h) (.c (.bp (n+j) m.size 0)):=rfl
def Yg{x:SV}{k:Fr->SV->E->Prop}:Od n h m x l k=match x with
 | .c (.p b o)=>fq m b o l.length/\NQ (aj m b o l) λp=>zd (Lv n h []) m p (k h .un p)
 | .c (.bp q b o)=>match gK h q with
  | .box a e c=>bif Nat.ble (o+l.length) c.length then NJ a b (NQ (aj m b o l) λp=>p3 p k ((q,.box a e (iO c o l))::h) .un)else False
  | .yG _ _ _=>False
  |_=>fq m b o l.length/\NQ (aj m b o l) λp=>zd (Lv n h []) m p (k h .un p)
 |_=>False:=rfl
def Yf{b:Nat}{k:Fr->SV->E->Prop}:wr P T G n h m d b k (.makeSlice t x y)=match fx T t,ev h x,ev h y with
 |some ⟨.slice e,_,_⟩,.c (.i l),.c (.i c)=>match fx T e with
  |some a=>bif a.tS then False else Int.le 0 l/\Int.le l c/\Int.le (nc a.bytes*c) 281474976710656/\Int.le c 9223372036854775807/\
   NQ (m.push (.cells (bE (mf (a.sh.map Sh.zero) c.toNat)) e)) λp=>p3 p k h (.c (.s (.mk m.size 0 l.toNat c.toNat)))
  |none=>False
 |_,_,_=>False:=rfl
def Ye{a:Nat}{k:Fr->SV->E->Prop}:wr P T G n h m d a k (.makeMap t none)=NQ (m.push (.map #[] 0)) λp=>p3 p k h (.c (.mp m.size)):=rfl
def VF{z:Nat}{s x:O}{k:SV->E->Prop}:WH m z s x k=∃a:List Ce,a.length=Nat.min x.len s.len*z/\gN m x.aC x.off a/\fq m s.aC s.off a.length/\
 NQ (aj m s.aC s.off a) λp=>p2 p k (.c (.i (nc (Nat.min x.len s.len)))):=rfl
def ZU(h:Fr)(m:E)(e a:Nat)(k:Fr->SV->E->Prop)(l:List Ce):Prop:=match Eu h l with
 |some q=>NQ (m.push (.cells (bE l) e)) λp=>p3 p k q (.c (.s (.mk m.size 0 a a)))
 |none=>False
def Ya{f a:Nat}{k:Fr->SV->E->Prop}:wr P T G n h m d f k (.buildSlice t a e)=match fx T t with
 |some ⟨.slice c,_,_⟩=>match fx T c with
  |some b=>bif b.tS||!(Nat.ble (a*b.sh.length) 16777216)then False else
   wh T h b.sh.length (mf (b.sh.map Sh.zero) a) e.toList (ZU h m c a k)
  |none=>False
 |_=>False:=rfl
def ZV(n:Nat)(h:Fr)(m:E)(k:Fr->SV->E->Prop)(x:SV)(p:E):Prop:=zd (Lv n h []) m p (k h x p)
def Tf{b:Nat}{u:Nat}{c:List Nat}{k:Fr->SV->E->Prop}:wr P T G n h m d b k (.call ⟨.builtin .copy,⟨[x,y]⟩,⟨u::c⟩⟩)=match fx T u,ev h x,ev h y with
 |some ⟨.slice e,_,_⟩,.c (.s s),.c (.s z)=>match fx T e with
  |some a=>bif a.tS then False else WH m a.sh.length s z (ZV n h m k)
  |none=>False
 |_,_,_=>False:=rfl
def kw(P:Program)(T:TT)(G:List Nat)(n:Nat)(eC:List Oper)(d:Option Nat)(jZ:List Oper)(k:Fr->E->Prop)(h:Fr)(x:SV)(m:E):Prop:=rH P T G n eC jZ (tr h d x) m k
def kr(P:Program)(T:TT)(G:List Nat)(n:Nat)(eC:List Oper)(d:Option Nat)(jZ:List Oper)(k:Fr->E->Prop)(h:Fr)(m:E)(x:SV):Prop:=rH P T G n eC jZ (tr h d x) m k
def ky(P:Program)(T:TT)(G:List Nat)(n:Nat)(eC:List Oper)(o:Oper)(jZ:List Oper)(k:Fr->E->Prop)(m:E)(h:Fr):Prop:=
 bif Kl o.op then wr P T G n h m o.dst o.type (kw P T G n eC o.dst jZ k) o.op else rd T h m (kr P T G n eC o.dst jZ k h m) o.op
def kn(P:Program)(T:TT)(G:List Nat)(n:Nat)(eC:List Oper)(d:Option Nat)(jZ:List Oper)(k:Fr->E->Prop)(m:E)(h:Fr):Prop:=rH P T G n eC jZ (tr h d .un) m k
def VM{eC:List Oper}{o:Oper}{jZ:List Oper}{k:Fr->E->Prop}:rH P T G n eC (o::jZ) h m k=
 bif rp n o.dst then gd eC h o.guard (ky P T G n eC o jZ k m) (kn P T G n eC o.dst jZ k m)else False:=rfl
abbrev LL:=List (Nat×List (Nat×Nat))
def ZJ(P:Program)(T:TT)(G:List Nat)(n:Nat)(eC:List Oper)(c a:List Nat)(b done:Nat)(o:Oper)(i:Nat)(m:E)(L:LL)(k:Fr->E->Prop)(h:Fr)(x:SV):Prop:=
 nR P T G n eC c a b (done|||2^i) (tr h o.dst x) m ((i,Si T h o.op)::L) k
def ZM(P:Program)(T:TT)(G:List Nat)(n:Nat)(eC:List Oper)(c a:List Nat)(b done:Nat)(o:Oper)(i:Nat)(m:E)(L:LL)(k:Fr->E->Prop)(h:Fr):Prop:=
 rd T h m (ZJ P T G n eC c a b done o i m L k h) o.op
def Zf(P:Program)(T:TT)(G:List Nat)(n:Nat)(eC:List Oper)(c a:List Nat)(b done:Nat)(o:Oper)(i:Nat)(m:E)(L:LL)(k:Fr->E->Prop)(h:Fr):Prop:=
 nR P T G n eC c a b (done|||2^i) (tr h o.dst .un) m L k
def ZK(P:Program)(T:TT)(G:List Nat)(n:Nat)(eC:List Oper)(c a:List Nat)(b done:Nat)(o:Oper)(i:Nat)(m:E)(L:LL)(k:Fr->E->Prop)(h:Fr)(x:SV)(p:E):Prop:=
 CC (tv a i) m p L (nR P T G n eC c a b (done|||2^i) (tr h o.dst x) p L k)
def ZN(P:Program)(T:TT)(G:List Nat)(n:Nat)(eC:List Oper)(c a:List Nat)(b done:Nat)(o:Oper)(i:Nat)(m:E)(L:LL)(k:Fr->E->Prop)(h:Fr):Prop:=
 wr P T G n h m o.dst o.type (ZK P T G n eC c a b done o i m L k) o.op
def ZL(P:Program)(T:TT)(G:List Nat)(n:Nat)(eC:List Oper)(c a:List Nat)(b done:Nat)(m:E)(L:LL)(k:Fr->E->Prop)(h:Fr)(i:Nat):Prop:=match GN eC i with
 |some o=>bif rp n o.dst then gd eC h o.guard (ZN P T G n eC c a b done o i m L k) (Zf P T G n eC c a b done o i m L k)else False
 |none=>False
def Th{eC:List Oper}{a b:List Nat}{c done:Nat}{L:LL}{k:Fr->E->Prop}:nR P T G n eC a b (c+1) done h m L k=match vW done 0 eC a with
 |some i=>match GN eC i with
  |some o=>bif rp n o.dst then gd eC h o.guard (ZM P T G n eC a b c done o i m L k) (Zf P T G n eC a b c done o i m L k)else False
  |none=>False
 |none=>match oX done 0 eC a with
  |[]=>k h m
  |d=>Nw d (ZL P T G n eC a b c done m L k h):=rfl
def Tc{f:Nat->Prop}:Nw [i] f=f i:=rfl
def Td{r:List Nat}{f:Nat->Prop}:Nw (i::j::r) f=(f i/\Nw (j::r) f):=rfl
def kq(Q:Exit->Fr->E->Prop)(h:Fr)(m:E):Prop:=Q .normal h m
def VO{eC:Array Oper}{a:Bool}:vc P T G n A (.region i eC a) h m Q=
 bif a then nR P T G n eC.toList (Vf eC.toList) (SR [] eC.toList) eC.toList.length 0 h m [] (kq Q)
 else rH P T G n eC.toList eC.toList h m (kq Q):=rfl
def ZS(t:Nat)(s:Sh)(r:List (Nat×Sh))(I:s.ty->Gl r)(h:Fr)(k:Fr->(E->Prop)->Prop)(x:s.ty):Prop:=OI r (I x) ((t,.c (s.mk x))::h) k
def VC{r:List (Nat×Sh)}{I:s.ty->Gl r}{k:Fr->(E->Prop)->Prop}:OI ((t,s)::r) I h k=UH s (ZS t s r I h k):=rfl
def ZT(t:Nat)(s:Sh)(r:List (Nat×Sh))(I:s.ty->Gl r)(μ:s.ty->Ns r)(h:Fr)(k:Fr->(E->Prop)->(E->Nat)->Prop)(x:s.ty):Prop:=OJ r (I x) (μ x) ((t,.c (s.mk x))::h) k
def VD{r:List (Nat×Sh)}{I:s.ty->Gl r}{μ:s.ty->Ns r}{k:Fr->(E->Prop)->(E->Nat)->Prop}:OJ ((t,s)::r) I μ h k=UH s (ZT t s r I μ h k):=rfl
def ks(P:Program)(T:TT)(G:List Nat)(n:Nat)(A:Ou)(b:Code)(Q:Exit->Fr->E->Prop):Exit->Fr->E->Prop
 | .normal,q,p=>vc P T G n A b q p Q
 |e,q,p=>Q e q p
def kc(A:Ou)(b:Code)(h:Fr)(l:List (Nat×Sh))(K:Gl l)(Q:Exit->Fr->E->Prop):Exit->Fr->E->Prop
 | .normal,q,p=>Uv h q (kH A b) (Gp l K q p)
 |e,q,p=>Q e q p
def ki(P:Program)(T:TT)(G:List Nat)(n:Nat)(A:Ou)(b:Code)(Q:Exit->Fr->E->Prop)(q:Fr)(a:E->Prop):Prop:=∀p,a p->vc P T G n A b q p Q
def VR{a b:Code}:vc P T G n A (.seq a b) h m Q=match VX A.UW b with
 |none=>vc P T G n A a h m (ks P T G n A b Q)
 |some l=>bif pb (nN a) l then∃K:Gl l,vc P T G n A a h m (kc A b h l K Q)/\
  OI l K (mR (nN a) (tL n (kH A b) h)) (ki P T G n A b Q)else False:=by
 unfold ks kc ki;rfl
def kb(i:Nat)(Q:Exit->Fr->E->Prop):Exit->Fr->E->Prop
 | .exit j,q,p=>bif Nat.beq j i then Q .normal q p else Q (.exit j) q p
 |e,q,p=>Q e q p
def QW:vc P T G n A (.block i c) h m Q=vc P T G n A c h m (kb i Q):=by
 unfold kb;rfl
def ke(A:Ou)(c:Code)(h:Fr)(l:List (Nat×Sh))(I:Gl l)(μ:Ns l)(N:Nat)(Q:Exit->Fr->E->Prop):Exit->Fr->E->Prop
 | .normal,a,b=>Uv h a (kH A c) (Ny l I μ a b N)
 |e,a,b=>Q e a b
def kl(P:Program)(T:TT)(G:List Nat)(n:Nat)(A:Ou)(c:Code)(h:Fr)(l:List (Nat×Sh))(I:Gl l)(μ:Ns l)(Q:Exit->Fr->E->Prop)(q:Fr)(a:E->Prop)(μ':E->Nat):Prop:=
 ∀p,a p->vc P T G n A c q p (ke A c h l I μ (μ' p) Q)
def Tj:vc P T G n A (.loop c) h m Q=match VX A.TC c with
 |none=>False
 |some l=>bif pb (nN c) l then∃(I:Gl l)(μ:Ns l),Gp l I h m/\
  OJ l I μ (mR (nN c) (tL n (kH A c) h)) (kl P T G n A c h l I μ Q)else False:=by
 unfold kl ke;rfl
def kR(m:E)(R:Value->E->Prop)(l:List SV):Prop:=match l with
 |[x]=>R x.v m
 |l=>R (.tuple (l.map SV.v).toArray) m
def kx(x:SV)(k:List SV->Prop)(l:List SV):Prop:=k (x::l)
def kz(T:TT)(h:Fr)(m:E)(r:List ResultVar)(k:List SV->Prop)(x:SV):Prop:=bif x.ju then EU T h m r (kx x k)else False
def QY{r:List ResultVar}{k:List SV->Prop}:EU T h m (.tmp t::r) k=bif (gK h t).ju then EU T h m r (kx (gK h t) k)else False:=rfl
def QZ{p:Nat}{r:List ResultVar}{k:List SV->Prop}:EU T h m (.cell p t::r) k=rd T h m (kz T h m r k) (.load t (.tmp p)):=rfl
def kf(T:TT)(a:List ResultVar)(R:Value->E->Prop):Exit->Fr->E->Prop
 | .normal,h,m=>EU T h m a (kR m R)
 | .ret,h,m=>EU T h m a (kR m R)
 |_,_,_=>False
def Yc{b:List ResultVar}{a:List SV}{R:Value->E->Prop}:Sb P T G A n b c a m R=vc P T G n A c (tK 0 a) m (kf T b R):=by
 unfold kf kR;rfl
end
def Tg(_:Prop):Type:=Prop
def Tg.p{q:Prop}(t:Tg q):Prop:=t
def Tg.lf(q:Prop):Tg q:=q
def Tg.pm{a b:Prop}{h:Tg a=Tg b}:Tg.p (Eq.mpr h (Tg.lf b))=b:=rfl
def rg1:List.range 1=[0]:=rfl
def rg2:List.range 2=[0,1]:=rfl
def rg3:List.range 3=[0,1,2]:=rfl
def rg4:List.range 4=[0,1,2,3]:=rfl
def rg5:List.range 5=[0,1,2,3,4]:=rfl
def rg6:List.range 6=[0,1,2,3,4,5]:=rfl
def rg7:List.range 7=[0,1,2,3,4,5,6]:=rfl
def Tg.pm2{a b c:Prop}{h:Tg a=Tg b}{d:Tg b=Tg c}:Tg.p (Eq.mpr h (Eq.mpr d (Tg.lf c)))=c:=rfl
def Wi(_ _:Prop):Type:=Unit
def mkT{a X:Prop}(_:Wi a X)(t:Tg a)(_:t.p=X):True:=trivial
end Go.Vc
end
namespace Go.Proofs.YtdalfjkmdekijaaGreat
open Go.Vc
section
noncomputable abbrev cv:=Tryz.prog
def WE:TT:=[(0,⟨.tuple [],[],0⟩),
 (3,⟨.cell,[.I],8⟩),
 (4,⟨.cell,[.T],1⟩),
 (5,⟨.cell,[(.U .u8)],1⟩),
 (22,⟨.slice 5,[.S],24⟩),
 (23,⟨.slice 151,[.S],24⟩),
 (24,⟨.slice 81,[.S],24⟩),
 (26,⟨.struct [(0,23),(1,24)],[.S,.S],48⟩),
 (27,⟨.slice 3,[.S],24⟩),
 (28,⟨.slice 38,[.S],24⟩),
 (29,⟨.slice 51,[.S],24⟩),
 (31,⟨.struct [(0,3),(1,3),(2,3),(3,3),(4,27),(5,28),(6,29)],[.I,.I,.I,.I,.S,.S,.S],104⟩),
 (32,⟨.tuple [26,31],[],0⟩),
 (38,⟨.struct [(0,3),(1,3),(2,27)],[.I,.I,.S],40⟩),
 (44,⟨.cell,[.P],8⟩),
 (49,⟨.slice 4,[.S],24⟩),
 (51,⟨.struct [(0,3),(1,3),(2,3),(3,27),(4,27),(5,27)],[.I,.I,.I,.S,.S,.S],96⟩),
 (55,⟨.tuple [3,4],[],0⟩),
 (58,⟨.struct [(0,22),(1,3)],[.S,.I],32⟩),
 (60,⟨.slice 104,[.S],24⟩),
 (62,⟨.struct [(0,23),(1,60)],[.S,.S],48⟩),
 (65,⟨.slice 118,[.S],24⟩),
 (67,⟨.struct [(0,23),(1,65)],[.S,.S],48⟩),
 (77,⟨.slice 27,[.S],24⟩),
 (79,⟨.slice 90,[.S],24⟩),
 (81,⟨.struct [(0,27),(1,27),(2,3),(3,3),(4,79)],[.S,.S,.I,.I,.S],88⟩),
 (84,⟨.slice 143,[.S],24⟩),
 (86,⟨.struct [(0,23),(1,84)],[.S,.S],48⟩),
 (87,⟨.tuple [86,4],[],0⟩),
 (90,⟨.struct [(0,3),(1,3),(2,3),(3,3),(4,27),(5,27)],[.I,.I,.I,.I,.S,.S],80⟩),
 (92,⟨.cell,[.F],8⟩),
 (93,⟨.tuple [27,4],[],0⟩),
 (100,⟨.slice 156,[.S],24⟩),
 (102,⟨.struct [(0,100),(1,3)],[.S,.I],32⟩),
 (104,⟨.struct [(0,27),(1,27),(2,3),(3,102)],[.S,.S,.I,.S,.I],88⟩),
 (105,⟨.cell,[.P],8⟩),
 (107,⟨.struct [(0,79)],[.S],24⟩),
 (114,⟨.slice 116,[.S],24⟩),
 (116,⟨.struct [(0,3),(1,3),(2,114)],[.I,.I,.S],40⟩),
 (118,⟨.struct [(0,27),(1,3),(2,116)],[.S,.I,.I,.I,.S],72⟩),
 (124,⟨.cell,[.P],8⟩),
 (127,⟨.struct [(0,26),(2,31)],[.S,.S,.I,.I,.I,.I,.S,.S,.S],152⟩),
 (134,⟨.slice 49,[.S],24⟩),
 (143,⟨.struct [(0,27),(1,27),(2,3)],[.S,.S,.I],56⟩),
 (146,⟨.tuple [3,3],[],0⟩),
 (149,⟨.slice 153,[.S],24⟩),
 (151,⟨.struct [(0,3),(1,3),(2,149)],[.I,.I,.S],40⟩),
 (153,⟨.struct [(0,27)],[.S],24⟩),
 (154,⟨.slice 102,[.S],24⟩),
 (156,⟨.struct [(0,3),(1,3),(2,3),(3,27),(4,154)],[.I,.I,.I,.S,.S],72⟩),
 (162,⟨.cell,[.P],8⟩),
 (164,⟨.struct [(0,100),(1,3)],[.S,.I],32⟩),
 (205,⟨.tuple [3,153],[],0⟩),
 (228,⟨.cell,[.P],8⟩),
 (229,⟨.tuple [228,4],[],0⟩),
 (232,⟨.struct [(0,27),(1,27),(2,27),(3,27),(4,27),(5,27),(6,27)],[.S,.S,.S,.S,.S,.S,.S],168⟩)]
abbrev fL:Nat:=4
abbrev PB:Nat:=22
abbrev cZ:Nat:=102
abbrev rZ:Nat:=38
abbrev od:Nat:=153
abbrev jL:Nat:=151
abbrev bL:Nat:=116
abbrev eE:Nat:=51
abbrev eW:Nat:=118
abbrev uF:Nat:=26
abbrev dO:Nat:=90
abbrev mC:Nat:=62
abbrev jd:Nat:=81
abbrev jU:Nat:=67
abbrev jA:Nat:=104
abbrev kD:Nat:=31
abbrev fN:Nat:=156
abbrev pt:Nat:=143
abbrev lB:Nat:=86
abbrev aA:Nat:=3
abbrev qy:Nat:=27
abbrev nC:Nat:=107
abbrev AA:Nat:=232
abbrev kV:Nat:=164
abbrev bQ:Nat:=127
abbrev pu:Nat:=58
abbrev Ud:Nat:=5
def QG:tI cv WE:=by
 unfold tI;kernel_rfl
def GL:List Nat:=List.range' 3 289
def ZP:UC cv GL:=by
 unfold UC;kernel_rfl
def Z7:cv.follows .mixedOrders=true:=by kernel_rfl
def nbq(a b:Nat):Nat.beq a b=(a==b):=by rw[lD];simp
def nbl(a b:Nat):Nat.ble a b=(a -b==0):=by rw[lD];simp;omega
def nbt(a b:Nat):Nat.blt a b=(a+1 -b==0):=by rw[lD];simp[Nat.blt];omega
def gel(g:Nat):List.elem g GL=(3 -g==0&&(g -291==0)):=by rw[lD];simp[GL];omega
section
variable{α β:Type}{a:α}{b:β}
def atl(l:List α):(Array.mk l).toList=l:=rfl
end
section
variable(a b c d e f)
def o1:(Oper.mk a b c d e f).dst=a:=rfl
def o2:(Oper.mk a b c d e f).op=b:=rfl
def o3:(Oper.mk a b c d e f).type=c:=rfl
def o5:(Oper.mk a b c d e f).after=e:=rfl
def o6:(Oper.mk a b c d e f).guard=f:=rfl
end
section
variable(a b c)
def a2:(Ou.mk a b c).TC=a:=rfl
def a3:(Ou.mk a b c).UW=b:=rfl
def a4:(Ou.mk a b c).fU=c:=rfl
def t1:(TI.mk a b c).GH=a:=rfl
def t2:(TI.mk a b c).sh=b:=rfl
def t3:(TI.mk a b c).bytes=c:=rfl
def g1:(Edge.mk a b).on=a:=rfl
def g2:(Edge.mk a b).ground=b:=rfl
end
def A0:Ou:=⟨[],[],[]⟩
def cI(x:Int):SV:=.c (.i x)
def cS(x:O):SV:=.c (.s x)
def cP(x:Nat×Nat):SV:=.c (.p x.1 x.2)
instance:Coe Int SV:=⟨cI⟩
instance:Coe O SV:=⟨cS⟩
instance:Coe (Nat×Nat) SV:=⟨cP⟩
instance:Coe Int Ce:=⟨.i⟩
instance:Coe O Ce:=⟨.s⟩
def pG(n:Nat){x:TI}(h:fx WE n=some x:=by cbv):fx WE n=some x:=h
def tg0:=pG 0
def tg3:=pG 3
def tg4:=pG 4
def tg5:=pG 5
def YB:=pG 22
def YC:=pG 23
def YD:=pG 24
def YE:=pG 26
def YF:=pG 27
def YG:=pG 28
def YH:=pG 29
def YI:=pG 31
def YJ:=pG 32
def YK:=pG 38
def YL:=pG 44
def YM:=pG 49
def YN:=pG 51
def YO:=pG 55
def YP:=pG 58
def YQ:=pG 60
def YR:=pG 62
def YS:=pG 65
def YT:=pG 67
def YU:=pG 77
def YV:=pG 79
def YW:=pG 81
def YX:=pG 84
def YY:=pG 86
def YZ:=pG 87
def Y0:=pG 90
def Y1:=pG 92
def Y2:=pG 93
def V3:=pG 100
def V5:=pG 102
def V6:=pG 104
def V7:=pG 105
def V8:=pG 107
def V9:=pG 114
def Wa:=pG 116
def Wb:=pG 118
def Wc:=pG 124
def Wd:=pG 127
def We:=pG 134
def Wf:=pG 143
def Wg:=pG 146
def Wh:=pG 149
def Wj:=pG 151
def Wk:=pG 153
def Wl:=pG 154
def Wm:=pG 156
def Wn:=pG 162
def Wo:=pG 164
def Wp:=pG 205
def Wq:=pG 228
def Wr:=pG 229
def Ws:=pG 232
def cW(m:E)(R:Value->E->Prop)(A:Ou)(a:List SV){f:FuncId}{b:Go.Func}{X:Prop}{c:Code}{n:Nat}{e:List ResultVar}{g:List Value}(k:cv.funcs[f]? =some b)
 (d:(b.body,b.ntmps,b.results)=(some c,n,Array.mk e):=by cbv)
 (i:a.all SV.ju=true:=by kernel_rfl)(l:Nat.ble a.length n=true:=by kernel_rfl)(hd:pM c=true:=by kernel_rfl)
 (o:a.map SV.v=g:=by dsimp only[List.map,cI,cS,cP,SV.v,Ce.v])
 (w:Wi (Sb cv WE GL A n e c a m R) X->True:=by intro w;obtain - :=mkT w (by sym -abstractProof=>simp[gel,A0.eq_1,cI.eq_1,cS.eq_1,cP.eq_1,tg0,tg3,tg4,tg5,YB,YC,YD,YE,YF,YG,YH,YI,YJ,YK,YL,YM,YN,YO,YP,YQ,YR,YS,YT,YU,YV,YW,YX,YY,YZ,Y0,Y1,Y2,V3,V5,V6,V7,V8,V9,Wa,Wb,Wc,Wd,We,Wf,Wg,Wh,Wj,Wk,Wl,Wm,Wn,Wo,Wp,Wq,Wr,Ws,nbq,nbl,nbt,atl,o1,o2,o3,o5,o6,a2,a3,a4,t1,t2,t3,g1,g2,cA,fg,db,dX,Nj,List.all_nil,aY,cE,List.elem_cons,Ni,Bool.false_and,Vx,Vw,Bool.true_or,Nh,Lt,Bool.and_true,lF,Option.map_none,iR,iQ,lO,List.flatMap_nil,List.isEmpty_cons,List.isEmpty_nil,List.any_cons,PK,p7,List.replicate_zero,tK.eq_1,tK.eq_2,vc.eq_1,vc.eq_4,vc.eq_6,vc.eq_7,vc.eq_8,tW.eq_def,Yv.eq_def,VZ.eq_def,qt.eq_1,qt.eq_2,Ky.eq_def,Uv.eq_1,Uv.eq_2,tL.eq_1,Cp.eq_1,Cp.eq_2,kH.eq_1,pb.eq_1,pb.eq_2,nN.eq_def,mR.eq_1,mR.eq_2,OJ.eq_1,OI.eq_1,Ny.eq_1,Ny.eq_2,Gp.eq_1,Gp.eq_2,Qh.eq_def,VX.eq_1,Ct.eq_def,lk.eq_1,lk.eq_2,nR.eq_1,CC.eq_1,CC.eq_2,KG.eq_1,KG.eq_2,oX.eq_def,vW.eq_def,jX.eq_1,nt.eq_1,nt.eq_2,kQ.eq_1,tv.eq_1,tv.eq_2,tv.eq_3,rH.eq_1,yK.eq_1,yK.eq_2,gd.eq_1,gd.eq_2,Ke.eq_1,rp.eq_1,rp.eq_2,Kl.eq_def,wr.eq_1,wr.eq_2,wr.eq_4,wr.eq_6,wr.eq_8,wr.eq_9,wr.eq_10,wr.eq_11,wh.eq_1,wh.eq_2,RH.eq_1,Uw.eq_1,Lv.eq_def,zd.eq_def,rd.eq_1,rd.eq_2,rd.eq_3,rd.eq_4,rd.eq_5,rd.eq_6,rd.eq_7,rd.eq_8,rd.eq_9,rd.eq_10,rd.eq_11,rd.eq_12,rd.eq_13,rd.eq_15,Si.eq_def,VJ,VK,VL,ME.eq_1,FX.eq_1,FX.eq_2,NL.eq_1,LX.eq_1,LX.eq_2,uw.eq_1,uw.eq_2,Ep.eq_1,Ep.eq_2,lI.eq_1,lI.eq_2,lI.eq_3,lI.eq_4,lI.eq_5,SV.cells.eq_def,Zn.eq_def,U8.eq_def,UL.eq_def,qS.eq_1,qS.eq_2,qS.eq_3,qS.eq_6,qS.eq_7,qS.eq_8,qS.eq_9,qS.eq_10,qS.eq_11,qS.eq_12,VN,VP,VW.eq_1,GN.eq_1,GN.eq_2,GN.eq_3,kN.eq_def,SV.ju.eq_def,TI.tS.eq_1,TI.agg.eq_1,Sh.zero.eq_1,Sh.zero.eq_2,Sh.zero.eq_3,Sh.zero.eq_4,Sh.zero.eq_5,Sh.zero.eq_6,Sh.zero.eq_7,ev.eq_1,ev.eq_2,ev.eq_3,ev.eq_4,Es.eq_def,oO.eq_1,oO.eq_2,jV.eq_1,jV.eq_3,jV.eq_4,jV.eq_5,jV.eq_6,jV.eq_7,tr.eq_1,tr.eq_2,SV.nb.eq_def,gK.eq_1,gK.eq_2,AV.sv.eq_1,AV.sv.eq_2,SV.v.eq_1,SV.v.eq_2,SV.v.eq_3,SV.v.eq_4,SV.v.eq_5,SV.v.eq_6,SV.v.eq_7,SV.v.eq_8,SV.v.eq_9,AV.v.eq_1,AV.v.eq_2,Ce.v.eq_1,Ce.v.eq_2,Ce.v.eq_3,Ce.v.eq_4,Ce.v.eq_5,Ce.v.eq_6,Ce.v.eq_7,Ce.v.eq_8,Ce.v.eq_9,Ce.v.eq_10,Ce.v.eq_11,Ce.v.eq_12,Ce.v.eq_13,uv.eq_1,uv.eq_2,Tn.eq_1,Eu.eq_def,iO.eq_1,iO.eq_2,Gl.eq_1,Gl.eq_2,Ns.eq_1,Ns.eq_2,Sh.ty.eq_1,Sh.ty.eq_2,Sh.ty.eq_3,Sh.ty.eq_4,Sh.ty.eq_5,Sh.ty.eq_6,Sh.ty.eq_7,Sh.mk.eq_1,Sh.mk.eq_2,Sh.mk.eq_3,Sh.mk.eq_4,Sh.mk.eq_5,Sh.mk.eq_6,Sh.mk.eq_7,PZ.eq_1,SV.UQ.eq_def,AV.UQ.eq_1,AV.UQ.eq_2,EU.eq_1,Vf.eq_1,Vf.eq_2,SR.eq_1,SR.eq_2,ZY.eq_1,ZX.eq_1,Z3.eq_1,Z4.eq_1,Z0.eq_1,ZS.eq_1,ZT.eq_1,pa.eq_1,p3.eq_1,p2.eq_1,Q9.eq_1,U6.eq_1,ZW.eq_1,ZZ.eq_1,Yp.eq_1,Z5.eq_1,Z2.eq_1,Z1.eq_1,U7.eq_1,ZU.eq_1,ZV.eq_1,kw.eq_1,kr.eq_1,ky.eq_1,kn.eq_1,ZJ.eq_1,ZM.eq_1,Zf.eq_1,ZK.eq_1,ZN.eq_1,ZL.eq_1,kq.eq_1,ks.eq_def,kc.eq_def,ki.eq_1,kb.eq_def,ke.eq_def,kl.eq_1,kR.eq_def,kx.eq_1,kz.eq_1,kf.eq_def,Nw.eq_1,Yd,Ti,Q0,QX,VG,VH,VQ,Te,Ya,Tf,VM,Th,Tc,Td,VO,VR,QW,Tj,QY,QZ,Yc,Yb,VC,VD,exI,exU,exB,Yj,exP,exF,exM,alI,alU,alB,XN,alP,alF,alM,cU8,z0,z1,tb,VE,b1,b2,b3,b4,b5,b6,Tk,Tl,Yg,Yf,Ye,VF,VI,rg1,rg2,rg3,rg4,rg5,rg6,rg7,jo];exact Tg.lf _) (by refine Tg.pm.trans ?_;dsimp -zeta+instances only[↓Rg,ile,↓Yn,nze,nce,Gl,Ns,Sh.ty,Int.cast_ofNat_Int]);trivial)
 (j:X=Sb cv WE GL A n e c a m R:=by kernel_rfl)
 :X->aP cv f g m R:=λh=>by
 subst o
 exact Ec QG ZP Z7 k (tm Prod.fst d) (tm (λx=>x.2.1) d) (tm (λx=>x.2.2) d) i (kY l) hd (j▸h)
def aaf(m:E)(R:Value->E->Prop)(A:Ou)(a:List SV){f:FuncId}{b:Go.Func}{X:Prop}{c:Code}{n:Nat}{e:List ResultVar}{g:List Value}(k:cv.funcs[f]? =some b)
 (d:(b.body,b.ntmps,b.results)=(some c,n,Array.mk e):=by cbv)
 (i:a.all SV.ju=true:=by kernel_rfl)(l:Nat.ble a.length n=true:=by kernel_rfl)(hd:pM c=true:=by kernel_rfl)
 (o:a.map SV.v=g:=by dsimp only[List.map,cI,cS,cP,SV.v,Ce.v])
 (w:Wi (Sb cv WE GL A n e c a m R) X->True:=by intro w;obtain - :=mkT w (by sym -abstractProof=>simp[gel,A0.eq_1,cI.eq_1,cS.eq_1,cP.eq_1,tg0,tg3,tg4,tg5,YB,YC,YD,YE,YF,YG,YH,YI,YJ,YK,YL,YM,YN,YO,YP,YQ,YR,YS,YT,YU,YV,YW,YX,YY,YZ,Y0,Y1,Y2,V3,V5,V6,V7,V8,V9,Wa,Wb,Wc,Wd,We,Wf,Wg,Wh,Wj,Wk,Wl,Wm,Wn,Wo,Wp,Wq,Wr,Ws,nbq,nbl,nbt,atl,o1,o2,o3,o5,o6,a2,a3,a4,t1,t2,t3,g1,g2,cA,fg,db,dX,Nj,List.all_nil,aY,cE,List.elem_cons,Ni,Bool.false_and,Vx,Vw,Bool.true_or,Nh,Lt,Bool.and_true,lF,Option.map_none,iR,iQ,lO,List.flatMap_nil,List.isEmpty_cons,List.isEmpty_nil,List.any_cons,PK,p7,List.replicate_zero,tK.eq_1,tK.eq_2,vc.eq_1,vc.eq_4,vc.eq_6,vc.eq_7,vc.eq_8,tW.eq_def,Yv.eq_def,VZ.eq_def,qt.eq_1,qt.eq_2,Ky.eq_def,Uv.eq_1,Uv.eq_2,tL.eq_1,Cp.eq_1,Cp.eq_2,kH.eq_1,pb.eq_1,pb.eq_2,nN.eq_def,mR.eq_1,mR.eq_2,OJ.eq_1,OI.eq_1,Ny.eq_1,Ny.eq_2,Gp.eq_1,Gp.eq_2,Qh.eq_def,VX.eq_1,Ct.eq_def,lk.eq_1,lk.eq_2,nR.eq_1,CC.eq_1,CC.eq_2,oX.eq_def,vW.eq_def,jX.eq_1,nt.eq_1,nt.eq_2,kQ.eq_1,tv.eq_1,tv.eq_2,tv.eq_3,rH.eq_1,yK.eq_1,yK.eq_2,gd.eq_1,gd.eq_2,Ke.eq_1,rp.eq_1,rp.eq_2,Kl.eq_def,wr.eq_1,wr.eq_2,wr.eq_4,wr.eq_6,wr.eq_8,wr.eq_9,wr.eq_10,wr.eq_11,wh.eq_1,wh.eq_2,RH.eq_1,Uw.eq_1,Lv.eq_def,zd.eq_def,rd.eq_1,rd.eq_2,rd.eq_3,rd.eq_4,rd.eq_5,rd.eq_6,rd.eq_7,rd.eq_8,rd.eq_9,rd.eq_10,rd.eq_11,rd.eq_12,rd.eq_13,rd.eq_15,Si.eq_def,VJ,VK,VL,ME.eq_1,FX.eq_1,FX.eq_2,NL.eq_1,LX.eq_1,LX.eq_2,uw.eq_1,uw.eq_2,Ep.eq_1,Ep.eq_2,lI.eq_1,lI.eq_2,lI.eq_3,lI.eq_4,lI.eq_5,SV.cells.eq_def,Zn.eq_def,U8.eq_def,UL.eq_def,qS.eq_1,qS.eq_2,qS.eq_3,qS.eq_6,qS.eq_7,qS.eq_8,qS.eq_9,qS.eq_10,qS.eq_11,qS.eq_12,VN,VP,VW.eq_1,GN.eq_1,GN.eq_2,GN.eq_3,kN.eq_def,SV.ju.eq_def,TI.tS.eq_1,TI.agg.eq_1,Sh.zero.eq_1,Sh.zero.eq_2,Sh.zero.eq_3,Sh.zero.eq_4,Sh.zero.eq_5,Sh.zero.eq_6,Sh.zero.eq_7,ev.eq_1,ev.eq_2,ev.eq_3,ev.eq_4,Es.eq_def,oO.eq_1,oO.eq_2,jV.eq_1,jV.eq_3,jV.eq_4,jV.eq_5,jV.eq_6,jV.eq_7,tr.eq_1,tr.eq_2,SV.nb.eq_def,gK.eq_1,gK.eq_2,AV.sv.eq_1,AV.sv.eq_2,SV.v.eq_1,SV.v.eq_2,SV.v.eq_3,SV.v.eq_4,SV.v.eq_5,SV.v.eq_6,SV.v.eq_7,SV.v.eq_8,SV.v.eq_9,AV.v.eq_1,AV.v.eq_2,Ce.v.eq_1,Ce.v.eq_2,Ce.v.eq_3,Ce.v.eq_4,Ce.v.eq_5,Ce.v.eq_6,Ce.v.eq_7,Ce.v.eq_8,Ce.v.eq_9,Ce.v.eq_10,Ce.v.eq_11,Ce.v.eq_12,Ce.v.eq_13,uv.eq_1,uv.eq_2,Tn.eq_1,Eu.eq_def,iO.eq_1,iO.eq_2,Gl.eq_1,Gl.eq_2,Ns.eq_1,Ns.eq_2,Sh.ty.eq_1,Sh.ty.eq_2,Sh.ty.eq_3,Sh.ty.eq_4,Sh.ty.eq_5,Sh.ty.eq_6,Sh.ty.eq_7,Sh.mk.eq_1,Sh.mk.eq_2,Sh.mk.eq_3,Sh.mk.eq_4,Sh.mk.eq_5,Sh.mk.eq_6,Sh.mk.eq_7,PZ.eq_1,SV.UQ.eq_def,AV.UQ.eq_1,AV.UQ.eq_2,EU.eq_1,Vf.eq_1,Vf.eq_2,SR.eq_1,SR.eq_2,ZY.eq_1,ZX.eq_1,Z3.eq_1,Z4.eq_1,Z0.eq_1,ZS.eq_1,ZT.eq_1,pa.eq_1,p3.eq_1,p2.eq_1,Q9.eq_1,U6.eq_1,ZW.eq_1,ZZ.eq_1,Yp.eq_1,Z5.eq_1,Z2.eq_1,Z1.eq_1,U7.eq_1,ZU.eq_1,ZV.eq_1,kw.eq_1,kr.eq_1,ky.eq_1,kn.eq_1,ZJ.eq_1,ZM.eq_1,Zf.eq_1,ZK.eq_1,ZN.eq_1,ZL.eq_1,kq.eq_1,ks.eq_def,kc.eq_def,ki.eq_1,kb.eq_def,ke.eq_def,kl.eq_1,kR.eq_def,kx.eq_1,kz.eq_1,kf.eq_def,Nw.eq_1,Yd,Ti,Q0,QX,VG,VH,VQ,Te,Ya,Tf,VM,Th,Tc,Td,VO,VR,QW,Tj,QY,QZ,Yc,Yb,VC,VD,exI,exU,exB,Yj,exP,exF,exM,alI,alU,alB,XN,alP,alF,alM,cU8,z0,z1,tb,VE,b1,b2,b3,b4,b5,b6,Tk,Tl,Yg,Yf,Ye,VF,VI];simp[cA,fg,jo,KG.eq_1,KG.eq_2,rg1,rg2,rg3,rg4,rg5,rg6,rg7];exact Tg.lf _) (by refine Tg.pm2.trans ?_;dsimp -zeta+instances only[↓Rg,ile,↓Yn,nze,nce,Gl,Ns,Sh.ty,Int.cast_ofNat_Int]);trivial)
 (j:X=Sb cv WE GL A n e c a m R:=by kernel_rfl)
 :X->aP cv f g m R:=λh=>by
 subst o
 exact Ec QG ZP Z7 k (tm Prod.fst d) (tm (λx=>x.2.1) d) (tm (λx=>x.2.2) d) i (kY l) hd (j▸h)
end
section
open Tryz
variable{m:E}{R:Value->E->Prop}
variable{a b c d e f g h p q r u v w x y:O}{i j k l n o s t z A B C D F G H:Int}
def sO(a:O):=cW m R A0 [a] func5
def wa(a:O):=cW m R A0 [.agg [a,b],.agg [i,j,k,l,c,d,e]] func6
def yV(a:O):=cW m R ⟨[(4,[(5,.I)])],[],[]⟩ [a,b] func7
def wq(a:O):=cW m R A0 [.agg [a,b],.agg [i,j,k,l,c,d,e]] func8
def xG(a:O):=cW m R A0 [.agg [a,b],.agg [i,j,k,l,c,d,e]] func9
def CU(a:O):=cW m R ⟨[(6,[(6,.S),(19,.I)])],[],[(6,[42,41])]⟩ [.agg [a,b],.agg [i,j,k,l,c,d,e]] func10
def IJ(a:O):=cW m R ⟨[(2,[(5,.I)])],[],[]⟩ [a,i] func11
def C3(a:O):=cW m R ⟨[(2,[(3,.I)])],[],[]⟩ [a] func12
def CV(a:O):=cW m R ⟨[(5,[(6,.S)])],[],[]⟩ [a,b] func16
def zX(a:O):=cW m R A0 [a] func19
def wK(p:Nat×Nat):=cW m R A0 [p,i] func20
end
section
open Tryz
variable{m:E}{R:Value->E->Prop}
variable{a b p d e f g h r u v w x y z B:O}{i j k l q o s t C D F G H I J K:Int}
def tG(p:Nat×Nat):=cW m R A0 [p] func21
def xO(p:Nat×Nat):=cW m R A0 [p] func22
def we(a:O):=cW m R ⟨[(3,[(5,.S),(13,.I)]),(6,[(5,.S),(25,.I)])],[],[(3,[63,62]),(6,[67,63,62])]⟩ [.agg [a,b],.agg [i,j,k,l,p,d,e]] func23
def yu(a:O):=cW m R ⟨[(8,[(5,.I)])],[(5,[])],[(5,[93,92]),(8,[93,92])]⟩ [.agg [a,b],.agg [i,j,k,l,p,d,e]] func24
def DK(a:O):=cW m R ⟨[(3,[(6,.S)]),(11,[(8,.S),(9,.I)])],[],[]⟩ [a,b] func25
def zV(a:O):=cW m R ⟨[(3,[(5,.S),(6,.I)])],[],[(3,[60,59])]⟩ [.agg [a,b],.agg [i,j,k,l,p,d,e]] func26
def xF(a:O):=cW m R ⟨[(5,[(20,.I)]),(13,[(66,.I)])],[(12,[])],[(5,[82,80]),(12,[85,82,80]),(13,[85,82,80])]⟩ [.agg [a,b]] func27
def xJ(a:O):=cW m R ⟨[(10,[(95,.I)]),(20,[(158,.I)])],[(3,[]),(16,[]),(24,[])],[(3,[191,190]),(10,[191,190]),(16,[197,191,190]),(20,[191,190]),(24,[191,190])]⟩ [.agg [a,b],.agg [i,j,k,l,p,d,e]] func28
def qG(a:O):=cW m R A0 [a,i] func29
def I5(a:O):=cW m R ⟨[(2,[(5,.I)])],[],[]⟩ [a,i] func30
def yR(a:O):=cW m R ⟨[(3,[(3,.S),(8,.I)])],[],[]⟩ [a] func31
def yO(a:O):=cW m R A0 [a] func32
def sM(a:O):=cW m R A0 [a] func33
def EI(a:O):=cW m R A0 [a,i] func34
def Dv(a:O):=cW m R ⟨[(3,[(4,.I)])],[],[(3,[75,74])]⟩ [.agg [a,b]] func35
def Ds(a:O):=cW m R ⟨[(3,[(4,.I)])],[],[(3,[38,37])]⟩ [.agg [a,b]] func36
def Ab(a:O):=cW m R ⟨[(3,[(4,.I)])],[(8,[(7,.P)])],[(3,[51,50]),(8,[54,51,50])]⟩ [.agg [a,b]] func37
def rE(r:Nat×Nat)(m:E)(R:Value->E->Prop):Prop:=
 let M:E:=m.push (.cells (bE [.s O.nil,.s O.nil]) 67)
 aP cv 72 [vp r.1 r.2] M λca b=>
 eF [m.size] M b/\
 ∃o:O,ca=O.v o/\
 let b7:E:=b.push (.cells (bE [.s O.nil,.s O.nil]) 67)
 NJ b.size b.size (
 let aa:E:=aj b7 b.size 0 [.s o,.s O.nil]
 let ai:E:=aa.push (.cells (bE [.i (1:Int)]) 3)
 aP cv 73 [O.v (O.mk aa.size 0 1 1),vi (0:Int)] ai λcl F=>
 eF [b.size,m.size] ai F/\
 ∃ap:O,∃aI:Int,∃a0:Int,∃bg:Int,∃bx:O,cl=.agg #[O.v ap,vi aI,vi a0,vi bg,O.v bx]/\
 let an:E:=F.push (.cells (bE [.i (1:Int),.i (1:Int)]) 3)
 aP cv 73 [O.v (O.mk F.size 0 2 2),vi (1:Int)] an λcs H=>
 eF [b.size,m.size] an H/\
 ∃aq:O,∃aS:Int,∃a9:Int,∃bh:Int,∃bz:O,cs=.agg #[O.v aq,vi aS,vi a9,vi bh,O.v bz]/\
 let ao:E:=H.push (.cells (bE [.i (1:Int)]) 3)
 aP cv 73 [O.v (O.mk H.size 0 1 1),vi (1:Int)] ao λct I=>
 eF [b.size,m.size] ao I/\
 ∃aA:O,∃aT:Int,∃a_:Int,∃bp:Int,∃bI:O,ct=.agg #[O.v aA,vi aT,vi a_,vi bp,O.v bI]/\
 let N:E:=I.push (.cells (bE [.i (1:Int),.i (0:Int)]) 3)
 aP cv 73 [O.v (O.mk I.size 0 2 2),vi (1:Int)] N λcu t=>
 eF [b.size,m.size] N t/\
 ∃aB:O,∃aU:Int,∃ba:Int,∃bq:Int,∃bJ:O,cu=.agg #[O.v aB,vi aU,vi ba,vi bq,O.v bJ]/\
 let P:E:=t.push (.cells (bE [.i (2:Int),.i (1:Int)]) 3)
 aP cv 73 [O.v (O.mk t.size 0 2 2),vi (1:Int)] P λcw u=>
 eF [b.size,m.size] P u/\
 ∃aC:O,∃aV:Int,∃bb:Int,∃br:Int,∃bK:O,cw=.agg #[O.v aC,vi aV,vi bb,vi br,O.v bK]/\
 let Q:E:=u.push (.cells (bE [.i (1:Int),.i (1:Int)]) 3)
 aP cv 73 [O.v (O.mk u.size 0 2 2),vi (0:Int)] Q λcx a=>
 eF [b.size,m.size] Q a/\
 ∃aD:O,∃aW:Int,∃bc:Int,∃bs:Int,∃bL:O,cx=.agg #[O.v aD,vi aW,vi bc,vi bs,O.v bL]/\
 let S:E:=a.push (.cells (bE [.s ap,.i aI,.i a0,.i bg,.s bx,.s aq,.i aS,.i a9,.i bh,.s bz,.s aA,.i aT,.i a_,.i bp,.s bI,.s aB,.i aU,.i ba,.i bq,.s bJ,.s aC,.i aV,.i bb,.i br,.s bK,.s aD,.i aW,.i bc,.i bs,.s bL]) 118)
 let T:E:=S.push (.cells (bE [.i (3:Int)]) 3)
 aP cv 73 [O.v (O.mk S.size 0 1 1),vi (0:Int)] T λcb v=>
 eF [b.size,m.size] T v/\
 ∃aE:O,∃aX:Int,∃bd:Int,∃bt:Int,∃bM:O,cb=.agg #[O.v aE,vi aX,vi bd,vi bt,O.v bM]/\
 let U:E:=v.push (.cells (bE [.i (0:Int)]) 3)
 aP cv 73 [O.v (O.mk v.size 0 1 1),vi (1:Int)] U λcc w=>
 eF [b.size,m.size] U w/\
 ∃aF:O,∃aY:Int,∃be:Int,∃bu:Int,∃bN:O,cc=.agg #[O.v aF,vi aY,vi be,vi bu,O.v bN]/\
 let V:E:=w.push (.cells (bE [.i (0:Int),.i (1:Int)]) 3)
 aP cv 73 [O.v (O.mk w.size 0 2 2),vi (1:Int)] V λcd x=>
 eF [b.size,m.size] V x/\
 ∃aG:O,∃aZ:Int,∃bf:Int,∃bv:Int,∃bO:O,cd=.agg #[O.v aG,vi aZ,vi bf,vi bv,O.v bO]/\
 let W:E:=x.push (.cells (bE [.i (3:Int),.i (0:Int)]) 3)
 aP cv 73 [O.v (O.mk x.size 0 2 2),vi (3:Int)] W λce y=>
 eF [b.size,m.size] W y/\
 ∃aH:O,∃aJ:Int,∃a1:Int,∃bw:Int,∃bP:O,ce=.agg #[O.v aH,vi aJ,vi a1,vi bw,O.v bP]/\
 let X:E:=y.push (.cells (bE [.i (3:Int)]) 3)
 aP cv 73 [O.v (O.mk y.size 0 1 1),vi (1:Int)] X λcf z=>
 eF [b.size,m.size] X z/\
 ∃ar:O,∃aK:Int,∃a2:Int,∃bi:Int,∃bA:O,cf=.agg #[O.v ar,vi aK,vi a2,vi bi,O.v bA]/\
 let Y:E:=z.push (.cells (bE [.i (1:Int),.i (3:Int),.i (0:Int)]) 3)
 aP cv 73 [O.v (O.mk z.size 0 3 3),vi (0:Int)] Y λcg d=>
 eF [b.size,m.size] Y d/\
 ∃au:O,∃aL:Int,∃a3:Int,∃bj:Int,∃bB:O,cg=.agg #[O.v au,vi aL,vi a3,vi bj,O.v bB]/\
 let Z:E:=d.push (.cells (bE [.s aE,.i aX,.i bd,.i bt,.s bM,.s aF,.i aY,.i be,.i bu,.s bN,.s aG,.i aZ,.i bf,.i bv,.s bO,.s aH,.i aJ,.i a1,.i bw,.s bP,.s ar,.i aK,.i a2,.i bi,.s bA,.s au,.i aL,.i a3,.i bj,.s bB]) 118)
 let ab:E:=Z.push (.cells (bE [.i (0:Int)]) 3)
 aP cv 73 [O.v (O.mk Z.size 0 1 1),vi (0:Int)] ab λch A=>
 eF [b.size,m.size] ab A/\
 ∃av:O,∃aM:Int,∃a4:Int,∃bk:Int,∃bC:O,ch=.agg #[O.v av,vi aM,vi a4,vi bk,O.v bC]/\
 let ac:E:=A.push (.cells (bE [.i (0:Int),.i (0:Int)]) 3)
 aP cv 73 [O.v (O.mk A.size 0 2 2),vi (0:Int)] ac λci B=>
 eF [b.size,m.size] ac B/\
 ∃aw:O,∃aN:Int,∃a5:Int,∃bl:Int,∃bD:O,ci=.agg #[O.v aw,vi aN,vi a5,vi bl,O.v bD]/\
 let ad:E:=B.push (.cells (bE [.i (1:Int),.i (0:Int)]) 3)
 aP cv 73 [O.v (O.mk B.size 0 2 2),vi (0:Int)] ad λcj C=>
 eF [b.size,m.size] ad C/\
 ∃ax:O,∃aO:Int,∃a6:Int,∃bm:Int,∃bF:O,cj=.agg #[O.v ax,vi aO,vi a6,vi bm,O.v bF]/\
 let ae:E:=C.push (.cells (bE [.i (0:Int)]) 3)
 aP cv 73 [O.v (O.mk C.size 0 1 1),vi (1:Int)] ae λck j=>
 eF [b.size,m.size] ae j/\
 ∃ay:O,∃aQ:Int,∃a7:Int,∃bn:Int,∃bG:O,ck=.agg #[O.v ay,vi aQ,vi a7,vi bn,O.v bG]/\
 let ag:E:=j.push (.cells (bE [.s av,.i aM,.i a4,.i bk,.s bC,.s aw,.i aN,.i a5,.i bl,.s bD,.s ax,.i aO,.i a6,.i bm,.s bF,.s ay,.i aQ,.i a7,.i bn,.s bG]) 118)
 let ah:E:=ag.push (.cells (bE []) 3)
 aP cv 73 [O.v (O.mk ag.size 0 0 0),vi (0:Int)] ah λcm D=>
 eF [b.size,m.size] ah D/\
 ∃az:O,∃aR:Int,∃a8:Int,∃bo:Int,∃bH:O,cm=.agg #[O.v az,vi aR,vi a8,vi bo,O.v bH]/\
 aP cv 20 [vp r.1 r.2,vi ((O.mk a.size 0 6 6).len:Int)] D λcn k=>
 eF [b.size,m.size] D k/\
 ∃e:Int,cn=vi e/\
 (0:Int)<=e/\e<((O.mk a.size 0 6 6).len:Int)/\
 ∃bR:O,af k ((O.mk a.size 0 6 6).aC) ((O.mk a.size 0 6 6).off+Int.toNat e*5)=some (O.v bR)/\
 ∃bS:Int,af k ((O.mk a.size 0 6 6).aC) ((O.mk a.size 0 6 6).off+Int.toNat e*5+1)=some (vi bS)/\
 ∃bT:Int,af k ((O.mk a.size 0 6 6).aC) ((O.mk a.size 0 6 6).off+Int.toNat e*5+2)=some (vi bT)/\
 ∃bU:Int,af k ((O.mk a.size 0 6 6).aC) ((O.mk a.size 0 6 6).off+Int.toNat e*5+3)=some (vi bU)/\
 ∃bV:O,af k ((O.mk a.size 0 6 6).aC) ((O.mk a.size 0 6 6).off+Int.toNat e*5+4)=some (O.v bV)/\
 aP cv 20 [vp r.1 r.2,vi ((O.mk d.size 0 6 6).len:Int)] k λco g=>
 eF [b.size,m.size] k g/\
 ∃i:Int,co=vi i/\
 af g ((O.mk a.size 0 6 6).aC) ((O.mk a.size 0 6 6).off+Int.toNat e*5)=af k ((O.mk a.size 0 6 6).aC) ((O.mk a.size 0 6 6).off+Int.toNat e*5)/\
 af g ((O.mk a.size 0 6 6).aC) ((O.mk a.size 0 6 6).off+Int.toNat e*5+1)=af k ((O.mk a.size 0 6 6).aC) ((O.mk a.size 0 6 6).off+Int.toNat e*5+1)/\
 af g ((O.mk a.size 0 6 6).aC) ((O.mk a.size 0 6 6).off+Int.toNat e*5+2)=af k ((O.mk a.size 0 6 6).aC) ((O.mk a.size 0 6 6).off+Int.toNat e*5+2)/\
 af g ((O.mk a.size 0 6 6).aC) ((O.mk a.size 0 6 6).off+Int.toNat e*5+3)=af k ((O.mk a.size 0 6 6).aC) ((O.mk a.size 0 6 6).off+Int.toNat e*5+3)/\
 af g ((O.mk a.size 0 6 6).aC) ((O.mk a.size 0 6 6).off+Int.toNat e*5+4)=af k ((O.mk a.size 0 6 6).aC) ((O.mk a.size 0 6 6).off+Int.toNat e*5+4)/\
 (0:Int)<=i/\i<((O.mk d.size 0 6 6).len:Int)/\
 ∃bW:O,af g ((O.mk d.size 0 6 6).aC) ((O.mk d.size 0 6 6).off+Int.toNat i*5)=some (O.v bW)/\
 ∃bX:Int,af g ((O.mk d.size 0 6 6).aC) ((O.mk d.size 0 6 6).off+Int.toNat i*5+1)=some (vi bX)/\
 ∃bY:Int,af g ((O.mk d.size 0 6 6).aC) ((O.mk d.size 0 6 6).off+Int.toNat i*5+2)=some (vi bY)/\
 ∃bZ:Int,af g ((O.mk d.size 0 6 6).aC) ((O.mk d.size 0 6 6).off+Int.toNat i*5+3)=some (vi bZ)/\
 ∃b0:O,af g ((O.mk d.size 0 6 6).aC) ((O.mk d.size 0 6 6).off+Int.toNat i*5+4)=some (O.v b0)/\
 aP cv 20 [vp r.1 r.2,vi ((O.mk j.size 0 4 4).len:Int)] g λcp c=>
 eF [b.size,m.size] g c/\
 ∃n:Int,cp=vi n/\
 af c ((O.mk d.size 0 6 6).aC) ((O.mk d.size 0 6 6).off+Int.toNat i*5)=af g ((O.mk d.size 0 6 6).aC) ((O.mk d.size 0 6 6).off+Int.toNat i*5)/\
 af c ((O.mk d.size 0 6 6).aC) ((O.mk d.size 0 6 6).off+Int.toNat i*5+1)=af g ((O.mk d.size 0 6 6).aC) ((O.mk d.size 0 6 6).off+Int.toNat i*5+1)/\
 af c ((O.mk d.size 0 6 6).aC) ((O.mk d.size 0 6 6).off+Int.toNat i*5+2)=af g ((O.mk d.size 0 6 6).aC) ((O.mk d.size 0 6 6).off+Int.toNat i*5+2)/\
 af c ((O.mk d.size 0 6 6).aC) ((O.mk d.size 0 6 6).off+Int.toNat i*5+3)=af g ((O.mk d.size 0 6 6).aC) ((O.mk d.size 0 6 6).off+Int.toNat i*5+3)/\
 af c ((O.mk d.size 0 6 6).aC) ((O.mk d.size 0 6 6).off+Int.toNat i*5+4)=af g ((O.mk d.size 0 6 6).aC) ((O.mk d.size 0 6 6).off+Int.toNat i*5+4)/\
 af c ((O.mk a.size 0 6 6).aC) ((O.mk a.size 0 6 6).off+Int.toNat e*5)=af g ((O.mk a.size 0 6 6).aC) ((O.mk a.size 0 6 6).off+Int.toNat e*5)/\
 af c ((O.mk a.size 0 6 6).aC) ((O.mk a.size 0 6 6).off+Int.toNat e*5+1)=af g ((O.mk a.size 0 6 6).aC) ((O.mk a.size 0 6 6).off+Int.toNat e*5+1)/\
 af c ((O.mk a.size 0 6 6).aC) ((O.mk a.size 0 6 6).off+Int.toNat e*5+2)=af g ((O.mk a.size 0 6 6).aC) ((O.mk a.size 0 6 6).off+Int.toNat e*5+2)/\
 af c ((O.mk a.size 0 6 6).aC) ((O.mk a.size 0 6 6).off+Int.toNat e*5+3)=af g ((O.mk a.size 0 6 6).aC) ((O.mk a.size 0 6 6).off+Int.toNat e*5+3)/\
 af c ((O.mk a.size 0 6 6).aC) ((O.mk a.size 0 6 6).off+Int.toNat e*5+4)=af g ((O.mk a.size 0 6 6).aC) ((O.mk a.size 0 6 6).off+Int.toNat e*5+4)/\
 (0:Int)<=n/\n<((O.mk j.size 0 4 4).len:Int)/\
 ∃b1:O,af c ((O.mk j.size 0 4 4).aC) ((O.mk j.size 0 4 4).off+Int.toNat n*5)=some (O.v b1)/\
 ∃b2:Int,af c ((O.mk j.size 0 4 4).aC) ((O.mk j.size 0 4 4).off+Int.toNat n*5+1)=some (vi b2)/\
 ∃b3:Int,af c ((O.mk j.size 0 4 4).aC) ((O.mk j.size 0 4 4).off+Int.toNat n*5+2)=some (vi b3)/\
 ∃b4:Int,af c ((O.mk j.size 0 4 4).aC) ((O.mk j.size 0 4 4).off+Int.toNat n*5+3)=some (vi b4)/\
 ∃b5:O,af c ((O.mk j.size 0 4 4).aC) ((O.mk j.size 0 4 4).off+Int.toNat n*5+4)=some (O.v b5)/\
 let b8:E:=c.push (.cells (bE [.s az,.i aR,.i a8,.i bo,.s bH,.s bR,.i bS,.i bT,.i bU,.s bV,.s bW,.i bX,.i bY,.i bZ,.s b0,.s b1,.i b2,.i b3,.i b4,.s b5]) 118)
 NJ b.size b.size (
 let ak:E:=aj b8 b.size 1 [.s (O.mk c.size 0 4 4)]
 let al:E:=ak.push (.cells (bE [.i (4:Int),.i (4:Int),.i (3:Int),.i (2:Int),.i (4:Int)]) 3)
 aP cv 74 [vp r.1 r.2,O.v (O.mk ak.size 0 5 5)] al λcq am=>
 eF [b.size,m.size] al am/\
 ∃h:Int,cq=vi h/\
 NJ b.size b.size (
 (0:Int)<=(0:Int)/\(0:Int)<=h/\h<=((O.mk c.size 0 4 4).cap:Int)/\
 NJ b.size b.size (
 let b9:E:=aj am b.size 1 [.s (O.cut (O.mk c.size 0 4 4) (Int.toNat (0:Int)) (Int.toNat h) 5)]
 ∃(s:Int->E->Prop)(μ0:Int->E->Nat),
 s (cQ (h -(1:Int))) b9/\
 (∀(f:Int)(p:E),s f p->
 ((decide (f>=(0:Int)))=true->
 NJ b.size b.size (
 aP cv 75 [vp r.1 r.2,.agg #[O.v o,O.v (O.cut (O.mk c.size 0 4 4) (Int.toNat (0:Int)) (Int.toNat h) 5)],vi f] p λcr l=>
 eF [b.size,m.size] p l/\
 ∃J:Int,∃K:Int,∃L:O,cr=.agg #[vi J,vi K,O.v L]/\
 let b_:E:=l.push (.cells (bE [.i (0:Int),.i (0:Int),.s O.nil]) 116)
 NJ l.size l.size (
 let q:E:=aj b_ l.size 0 [.i J,.i K,.s L]
 NJ b.size b.size (
 NJ b.size b.size (
 (0:Int)<=f/\f<((O.cut (O.mk c.size 0 4 4) (Int.toNat (0:Int)) (Int.toNat h) 5).len:Int)/\
 ∃b6:O,af q ((O.cut (O.mk c.size 0 4 4) (Int.toNat (0:Int)) (Int.toNat h) 5).aC) ((O.cut (O.mk c.size 0 4 4) (Int.toNat (0:Int)) (Int.toNat h) 5).off+Int.toNat f*5)=some (O.v b6)/\
 NJ b.size b.size (
 (0:Int)<=f/\f<((O.cut (O.mk c.size 0 4 4) (Int.toNat (0:Int)) (Int.toNat h) 5).len:Int)/\
 ∃bQ:Int,af q ((O.cut (O.mk c.size 0 4 4) (Int.toNat (0:Int)) (Int.toNat h) 5).aC) ((O.cut (O.mk c.size 0 4 4) (Int.toNat (0:Int)) (Int.toNat h) 5).off+Int.toNat f*5+1)=some (vi bQ)/\
 NJ l.size l.size (
 (0:Int)<=f/\f<((O.cut (O.mk c.size 0 4 4) (Int.toNat (0:Int)) (Int.toNat h) 5).len:Int)/\
 fq q ((O.cut (O.mk c.size 0 4 4) (Int.toNat (0:Int)) (Int.toNat h) 5).aC) ((O.cut (O.mk c.size 0 4 4) (Int.toNat (0:Int)) (Int.toNat h) 5).off+Int.toNat f*5) 5/\
 let G:E:=aj q ((O.cut (O.mk c.size 0 4 4) (Int.toNat (0:Int)) (Int.toNat h) 5).aC) ((O.cut (O.mk c.size 0 4 4) (Int.toNat (0:Int)) (Int.toNat h) 5).off+Int.toNat f*5) [.s b6,.i bQ,.i J,.i K,.s L]
 eF [l.size,b.size,m.size] q G/\
 Yi (SV.box b.size 67 [.s o,.s (O.cut (O.mk c.size 0 4 4) (Int.toNat (0:Int)) (Int.toNat h) 5)]) (SV.box b.size 67 [.s o,.s (O.cut (O.mk c.size 0 4 4) (Int.toNat (0:Int)) (Int.toNat h) 5)]) (
 Yi (SV.box m.size 67 [.s O.nil,.s O.nil]) (SV.box m.size 67 [.s O.nil,.s O.nil]) (
 s (cQ (f -(1:Int))) G/\μ0 (cQ (f -(1:Int))) G<μ0 f p)))))))))/\
 ((decide (f>=(0:Int)))=false->
 NJ b.size b.size (
 NJ m.size m.size (
 let l:E:=aj p m.size 0 [.s o,.s (O.cut (O.mk c.size 0 4 4) (Int.toNat (0:Int)) (Int.toNat h) 5)]
 NJ m.size m.size (
 R (.agg #[O.v o,O.v (O.cut (O.mk c.size 0 4 4) (Int.toNat (0:Int)) (Int.toNat h) 5)]) l)))))))))
def wC(r:Nat×Nat)(m:E)(R:Value->E->Prop)(a:rE r m R):aP cv 38 [vp r.1 r.2] m R:=
 Ec (o:=⟨[(9,[(8,.I)])],[],[(9,[113,112])]⟩) (d:=110) (r:=[.cell 2 67]) (a:=[.c (.p r.1 r.2)]) QG ZP Z7 Tryz.func38 (m:=PZ Tryz.f38) (by kernel_rfl) (by kernel_rfl) (by kernel_rfl) (by kernel_rfl) aJ (by kernel_rfl) (Eq.mp (by kernel_rfl) a)
end
section
open Tryz
variable{m:E}{R:Value->E->Prop}
variable{a b c d e f g h p q r u v w x y:O}{i j k l n o s t z A B C D F G H:Int}
def zK(p:Nat×Nat):=cW m R A0 [p,.agg [a,b]] func39
def Bi(p:Nat×Nat):=cW m R A0 [p] func40
def yo(a:O):=cW m R ⟨[(4,[(3,.I)])],[],[(4,[30])]⟩ [.agg [a,b]] func41
def yi(p:Nat×Nat):=cW m R A0 [p,.agg [i,j,k,l,a,b,c]] func42
def Be(a:O):=cW m R ⟨[(4,[(9,.I)]),(9,[(50,.I)]),(12,[(59,.I)]),(21,[(103,.I)])],[(19,[])],[(4,[126,122]),(9,[129,126,122]),(12,[129,126,122]),(19,[129,126,122]),(21,[129,126,122])]⟩ [.agg [a,b],i,j] func43
def Dx(i:Int):=cW m R A0 [i,j,k] func44
def xL(a:O):=cW m R ⟨[(2,[(3,.I)])],[],[]⟩ [a] func45
def Ap(a:O):=cW m R ⟨[(4,[(3,.I)]),(10,[(5,.I)])],[(3,[])],[]⟩ [a] func46
def ym(a:O):=cW m R A0 [.agg [a,b],.agg [i,j,k,l,c,d,e],n] func47
def BG(i:Int):=cW m R ⟨[(3,[(4,.I)]),(6,[(5,.I)]),(14,[(7,.I)])],[],[(3,[101]),(6,[101]),(14,[101])]⟩ [.agg [i,j,k,l,a,b,c]] func48
def wB(i:Int):=cW m R ⟨[(4,[(5,.I)])],[],[(4,[44])]⟩ [.agg [i,j,k,l,a,b,c]] func49
def mQ(a:O):=cW m R A0 [a] func50
def Ft(a:O):=cW m R A0 [a,i] func51
def BO(a:O):=cW m R ⟨[(3,[(6,.I)]),(8,[(7,.S),(9,.I)])],[],[]⟩ [a,i] func52
def DY(a:O):=cW m R ⟨[(3,[(5,.S),(6,.I)])],[],[]⟩ [a,i] func53
def DZ(i:Int):=cW m R ⟨[(3,[(5,.S),(6,.I)])],[],[(3,[28])]⟩ [.agg [i,j,k,a,b,c],d] func54
def yQ(a:O):=cW m R ⟨[(5,[(18,.I)])],[],[(5,[43,42])]⟩ [.agg [a,b]] func55
def oR(a:O):=cW m R ⟨[(6,[(88,.I)])],[(5,[])],[(5,[147,146,145,144]),(6,[147,146,145,144])]⟩ [.agg [a,b],.agg [c,d,i,j,e],k,.agg [l,n,o,s,f,g]] func56
end
section
open Tryz
variable{m:E}{R:Value->E->Prop}
variable{a b c d e f g h p q r u v w x y:O}{i j k l n o s t z A B C D F G H:Int}
def Gz(i:Int):=cW m R A0 [i] func57
def wc(a:O):=cW m R ⟨[(3,[(26,.I)]),(8,[(37,.I)]),(21,[(12,.S),(73,.I)]),(28,[(12,.S),(13,.I)]),(33,[(12,.S),(127,.I)])],[(17,[])],[(8,[165]),(33,[175])]⟩ [a] func58
def oA(s:O)(f:Fn×Array Value×Array Value):=cW m R A0 [s,.c (.fv f)] func59
def va(i:Int):=cW m R A0 [i] func60
def xI(a:O):=cW m R ⟨[(7,[(63,.I)])],[],[(7,[97,95,94])]⟩ [.agg [a,b],.agg [i,j,k,c,d,e]] func61
def vY(i:Int):=cW m R ⟨[(2,[(17,.I)])],[(9,[])],[(2,[82]),(9,[82])]⟩ [.agg [i,j,k,a,b,c],d,e,f] func62
def sN(a:O):=cW m R ⟨[(2,[(8,.I)])],[],[]⟩ [a,i] func63
def zt(a:O):=cW m R ⟨[(3,[(3,.S),(4,.I)]),(7,[(5,.S),(6,.I)])],[],[]⟩ [a] func64
def wJ(i:Int):=cW m R ⟨[(3,[(5,.S),(6,.I)])],[],[]⟩ [i,j] func65
def uy(p:Nat×Nat):=cW m R ⟨[(2,[(3,.S),(4,.S),(10,.I)])],[(17,[])],[(2,[104,103]),(17,[108,104,103])]⟩ [p,.agg [a,b],.agg [c,i],d,e] func66
def wA(p:Nat×Nat):=cW m R A0 [p,.agg [i,j,k,l,a,b]] func67
def FD(a:O):=cW m R ⟨[(3,[(5,.I),(6,.I)]),(7,[(5,.I),(7,.I)])],[],[]⟩ [a,i] func68
def Ck(a:O):=cW m R A0 [.agg [a,b,i,c,j],.agg [d,k]] func69
def zA(a:O):=cW m R ⟨[(5,[(6,.S),(7,.S),(8,.I)])],[],[(5,[69,68,67])]⟩ [.agg [a,b],.agg [c,d,i,e,j]] func70
def xY(a:O):=cW m R A0 [.agg [a,b],.agg [i,j,c],d,k] func71
def zI(p:Nat×Nat):=cW m R A0 [p] func72
def Lc(a:O):=cW m R A0 [a,i] func73
def ye(p:Nat×Nat):=cW m R A0 [p,a] func74
end
section
open Tryz
variable{m:E}{R:Value->E->Prop}
variable{a b c d e f g h p q r u v w x y:O}{i j k l n o s t z A B C D F G H:Int}
def Fc(p:Nat×Nat):=cW m R ⟨[],[(7,[(34,.T)]),(9,[(51,.T)]),(11,[(77,.T)]),(15,[])],[(7,[131,127,125]),(9,[131,127,125]),(11,[131,127,125]),(15,[127,125])]⟩ [p,.agg [a,b],i] func75
def yl(a:O):=cW m R A0 [.agg [a,b],i] func76
def wI(p:Nat×Nat):=cW m R ⟨[(2,[(5,.I)])],[],[]⟩ [p,i] func77
def zy(i:Int):=cW m R ⟨[(3,[(4,.I)])],[(2,[(3,.P)])],[(2,[58,57]),(3,[58,57])]⟩ [.agg [i,j,k,l,a,b,c]] func78
def zJ(p:Nat×Nat):=cW m R A0 [p] func79
def zl(p:Nat×Nat):=cW m R ⟨[(3,[(6,.I)])],[],[(3,[57,56,55])]⟩ [p,.agg [a,b]] func80
def yg(p:Nat×Nat):=cW m R A0 [p,.agg [a,b],i] func81
def Ax(a:O):=cW m R ⟨[(4,[(3,.I)])],[],[(4,[65])]⟩ [.agg [a,b]] func82
def wM(a:O):=cW m R ⟨[(3,[(4,.I)])],[],[(3,[37,36])]⟩ [.agg [a,b]] func83
def Av(a:O):=cW m R ⟨[(5,[(6,.I)])],[],[(5,[62,61])]⟩ [.agg [a,b],.agg [c,d,i,j,e]] func84
def rU(p:Nat×Nat):=cW m R A0 [p,a] func85
def vZ(i:Int):=cW m R A0 [.agg [i,j,k,l,a,b],n] func86
def uZ(i:Int):=cW m R A0 [i] func87
def An(a:O):=cW m R ⟨[(6,[(5,.I)])],[],[(6,[59])]⟩ [a,.agg [i,j,b]] func88
def FC(a:O):=cW m R ⟨[(3,[(4,.I)]),(6,[(5,.I)])],[],[]⟩ [a] func89
def zO(a:O):=cW m R ⟨[(4,[(4,.I),(5,.T)]),(7,[(4,.I),(5,.T),(6,.I)])],[],[]⟩ [a] func90
def Aw(a:O):=cW m R ⟨[(2,[(5,.I)])],[],[(2,[53])]⟩ [a,.agg [i,j,k,b,c,d]] func91
def zQ(i:Int):=cW m R A0 [i] func92
end
end Go.Proofs.YtdalfjkmdekijaaGreat
