/- Part of a proof. -/
import Derived.KernelRfl
import Derived.Laws.Append
import Derived.Laws.Cells
import Derived.Laws.Entries
import Derived.Laws.IdiomCopy
import Derived.Orders
import Derived.OrdersHeld
import Derived.Still
import Derived.Tactics
set_option linter.all false
set_option maxHeartbeats 8000000
set_option maxRecDepth 100000
namespace Go.Vc
def ad:=@Nat.le_refl
def ae:=@if_neg
def ai:=@List.mem_cons_of_mem
def aj:=@beq_eq_false_iff_ne
def an:=@if_pos
def ar:=@decide_eq_true_eq
def ax:=@List.getElem?_append_left
def aG:=@beq_iff_eq
def aI:=@List.getElem?_append_right
def aO:=@Nat.lt_of_lt_of_le
def aV:=@List.mem_cons
def aW:=@Nat.lt_or_ge
def aZ:=@List.length_cons
def be:=@List.length_append
def bg:=@List.mem_cons_self
def bq:=@Nat.eq_of_beq_eq_true
def br:=@Bool.or_eq_false_iff
def bH:=@Nat.le_trans
def bI:=@List.mem_append_left
def bK:=@Bool.and_eq_true
def bL:=@decide_eq_false_iff_not
def bQ:=@Bool.or_eq_true
def bT:=@Nat.zero_add
def cr:=@List.getElem?_set_ne
def cB:=@List.mem_or_eq_of_mem_set
def cJ:=@List.getElem?_map
def cK:=@List.map_cons
def cO:=@List.getElem?_eq_none
def cZ:=@List.cons_append
def dg:=@Int.le_refl
def dh:=@Nat.mul_le_mul_right
def dj:=@Nat.add_assoc
def dm:=@List.take_append_drop
def dx:=@List.getElem?_set_self
def dA:=@List.mem_of_mem_take
def dG:=@List.getElem?_take_of_lt
def dL:=@Nat.zero_le
def dP:=@Classical.byContradiction
def dQ:=@Classical.em
def dX:=@List.append_nil
def dY:=@List.length_map
def dZ:=@List.length_set
def eD:=@List.mem_append_right
def eE:=@List.nil_append
def eQ:=@Nat.mul_one
def eV:=@List.length_nil
def eW:=@Nat.not_lt_zero
def fq:=@List.dropLast_concat_getLast
def ft:=@List.map_append
def fu:=@List.take_length
def fC:=@List.append_assoc
def fD:=@List.map_nil
def fK:=@Classical.choose_spec
def fR:=@List.getD_eq_getElem?_getD
def gC:=@List.getLast?_eq_some_getLast
def gH:=@List.length_take
def gL:=@Nat.add_mul
def gU:=@List.ext_getElem?
def hO:=@List.getElem?_cons_succ
def iv:=@List.mem_of_getElem?
def iy:=@List.set_cons_zero
def iJ:=@bne_eq_false_iff_eq
def iL:=@Bool.not_eq_true'
def jb:=@Nat.min_eq_left
def ji:=@Bool.false_eq_true
def jm:=@List.set_cons_succ
def jC:=@List.flatten_cons
def jD:=@List.getElem?_set
def jE:=@Nat.add_zero
def jF:=@Option.map_eq_some_iff
def jG:=@cond_true
def jJ:=@Option.some.inj
def jP:=@Array.getElem?_setIfInBounds_ne
def jW:=@List.not_mem_nil
def jX:=@Nat.eq_zero_or_pos
def kC:=@Ne.symm
def kD:=@gt_iff_lt
def lE:=@List.getElem?_take
def lF:=@List.mem_singleton
def lG:=@Array.getElem?_modify
def lH:=@List.getElem?_toArray
def lI:=@Nat.le_of_ble_eq_true
def mu:=@List.flatMap_cons
def mG:=@cond_false
def mK:=@Array.getElem?_push
def mL:=@List.length_reverse
def nh:=@List.map_toArray
def np:=@List.take_append_of_le_length
def nB:=@List.take_of_length_le
def nC:=@Nat.lt_of_le_of_lt
def nQ:=@Option.map_some
def nY:=@ge_iff_le
def oH:=@List.sizeOf_lt_of_mem
def oU:=@Nat.le_succ_of_le
def pU:=@Int.tdiv_eq_ediv_of_nonneg
def pV:=@congrArg
def pW:=@Nat.succ_mul
def pZ:=@List.drop_eq_getElem_cons
def qH:=@List.flatten_append
def qI:=@List.length_take_le
def qJ:=@List.replicate_succ
def rE:=@List.set_eq_of_length_le
def rG:=@if_false
def rW:=@List.getElem?_drop
def sj:=@List.getElem?_cons_zero
def tR:=@Int.toNat_natCast
def tS:=@List.findIdx_lt_length_of_exists
def tT:=@List.map_set
def tU:=@Nat.le_of_eq
def vo:=@Option.getD_some
def vr:=@bne_iff_ne
def vt:=@not_or
def wF:=@List.mem_of_mem_drop
def zg:=@Array.getD_eq_getD_getElem?
def BC:=@Array.ext_getElem?
def BD:=@or_false
def DE:=@List.size_toArray
def DF:=@Option.some.injEq
def Hh:=@Nat.add_sub_cancel_left
def Hi:=@Nat.le_of_not_lt
def IY:=@Array.getElem?_eq_none
def IZ:=@Int.lt_or_le
def I5:=@List.drop_of_length_le
def Ju:=@Bool.eq_iff_iff
def Mh:=@Bool.not_false
def Mi:=@List.set_append_left
def Mj:=@List.take_take
def Mk:=@Nat.mul_le_mul
def Mm:=@if_true
def MZ:=@List.getElem?_range
def Na:=@List.replicate_zero
def Nb:=@List.take_succ_cons
def Nc:=@Nat.testBit_two_pow
def NR:=@Bool.not_true
def NS:=@Bool.true_and
def NU:=@List.all_cons
def NV:=@List.map_take
def NW:=@Prod.mk.injEq
def O9:=@List.set_eq_take_append_cons_drop
def Qh:=@List.any_nil
def Qi:=@List.reverse_cons
def Qj:=@Nat.le_of_lt
def Qk:=@Nat.sub_self
def Ql:=@Nat.zero_mul
def Rb:=@List.prefix_refl
def SA:=@List.range_succ
def SE:=@Iff.rfl
def SF:=@dif_pos
def Uj:=@List.mapM_cons
def Uk:=@Nat.eq_of_mul_eq_mul_right
def Ul:=@Nat.testBit_or
def Ur:=@Array.mapM_eq_mapM_toList
def Us:=@List.exists_mem_of_ne_nil
def Vi:=@Array.getElem?_replicate
def Vj:=@Bool.false_or
def Vk:=@Bool.or_false
def Vl:=@List.eq_of_mem_replicate
def Xl:=@List.map_map
def Xm:=@List.mem_map
def Xn:=@List.set_set
def Xo:=@Nat.sub_zero
def Xz:=@Array.getElem?_mapIdx
def XB:=@Array.getElem?_toList
def XC:=@List.set_append_right
def XD:=@Nat.ble_eq_true_of_le
def Zd:=@Int.add_mul
def Zt:=@Array.length_toList
def Zu:=@Array.toList_zipIdx
def aai:=@Array.foldl_toList
def aaj:=@Bool.not_eq_false'
theorem dit{p A B:Prop}{i:Decidable p}(f:p->A)(g:¬p->B):(decide p=true->A)/\(decide p=false->B):=⟨λh=>f (of_decide_eq_true h),λh=>g (of_decide_eq_false h)⟩
theorem V{p:Prop}(h:p:=by omega):p:=h
theorem aL{p:Prop}(h:p:=by simp):p:=h
theorem bh{p:Prop}(h:p:=by decide):p:=h
theorem bE{p:Prop}(h:p:=by simp;omega):p:=h
end Go.Vc
section
namespace Go.Vc
variable{n:Nat}{a:Act}
abbrev E:=Array Obj
def af(m:E)(b o:Nat):Option Value:=
 match m[b]? with
 |some (.cells c _ _)=>c[o]?
 |_=>none
def vC(m:E)(b o:Nat):Bool:=
 match m[b]? with
 |some (.cells _ _ (c,a))=>c<=o&&o<a
 |_=>false
def rh(m:E)(b o:Nat)(v:Value):E:=
 m.modify b λ
  | .cells c e f=>.cells (c.setIfInBounds o v) e f
  |x=>x
def zA(w:World)(b o:Nat):w.cell? ⟨b,o,none⟩=af w.heap b o:=by
 simp only[World.cell?,af];cases h:w.heap[b]? with
 |none=>rfl
 |some x=>cases x<;>simp
def QI(w:World)(b o:Nat):w.frozen? ⟨b,o,none⟩=vC w.heap b o:=by
 simp only[World.frozen?,vC];cases h:w.heap[b]? with
 |none=>rfl
 |some x=>cases x<;>simp
def OI(w:World)(b o:Nat)(v:Value):(w.setCell ⟨b,o,none⟩ v).heap=rh w.heap b o v:=by
 simp only[World.setCell,rh];congr 1
structure ph(w w':World):Prop where
 os:w'.os=w.os
 tape:w'.tape=w.tape
 output:w'.output=w.output
def ph.az(w:World):ph w w:=⟨rfl,rfl,rfl⟩
def ph.trans{a b c:World}(h:ph a b)(k:ph b c):ph a c:=⟨k.os.trans h.os,k.tape.trans h.tape,k.output.trans h.output⟩
def aN(P:Program)(f:FuncId)(b:List Value)(m:E)(K:Value->E->Prop):Prop:=
 ∀w:World,w.heap=m->Calls P f b.toArray w λe a=>∃v,e=.returned v/\ph w a/\K v a.heap
def aN.mono{P:Program}{f:FuncId}{b:List Value}{m:E}{K a:Value->E->Prop}(h:aN P f b m K)
 (e:∀v c,K v c->a v c):aN P f b m a:=
 λw i=>(h w i).mono λ_ _⟨v,d,g,c⟩=>⟨v,d,g,e _ _ c⟩
inductive O where
 |nil
 |mk (b o len cap:Nat)
 |zD (b o sp:Nat)
def O.v:O->Value
 | .nil=>.slice none 0 0
 | .mk b o l c=>.slice (some ⟨b,o,none⟩) l c
 | .zD b o a=>.slice (some ⟨b,o,some a⟩) 0 0
def O.len:O->Nat
 | .nil=>0
 | .mk _ _ l _=>l
 | .zD _ _ _=>0
def O.cap:O->Nat
 | .nil=>0
 | .mk _ _ _ c=>c
 | .zD _ _ _=>0
def O.D:O->Nat
 | .nil=>0
 | .mk b _ _ _=>b
 | .zD b _ _=>b
def O.off:O->Nat
 | .nil=>0
 | .mk _ o _ _=>o
 | .zD _ o _=>o
@[simp] theorem O.RF (b o sp:Nat):(O.zD b o sp).len=0:=rfl
@[simp] theorem O.UG (b o sp:Nat):(O.zD b o sp).cap=0:=rfl
@[simp] theorem O.OB:O.nil.len=0:=rfl
@[simp] theorem O.UH:O.nil.cap=0:=rfl
@[simp] theorem O.Zj:O.nil.D=0:=rfl
@[simp] theorem O.Zp:O.nil.off=0:=rfl
@[simp] theorem O.gE (b o l c:Nat):(O.mk b o l c).len=l:=rfl
@[simp] theorem O.Oh (b o l c:Nat):(O.mk b o l c).cap=c:=rfl
@[simp] theorem O.jA (b o l c:Nat):(O.mk b o l c).D=b:=rfl
@[simp] theorem O.mT (b o l c:Nat):(O.mk b o l c).off=o:=rfl
def O.FT:O->Bool
 | .nil=>true
 | .mk _ _ _ _=>false
 | .zD _ _ _=>false
@[simp] theorem O.Xv:O.nil.FT=true:=rfl
@[simp] theorem O.Xu (b o sp:Nat):(O.zD b o sp).FT=false:=rfl
@[simp] theorem O.Yu (b o l c:Nat):(O.mk b o l c).FT=false:=rfl
def O.cx:O->Option Addr
 | .nil=>none
 | .mk b o _ _=>some ⟨b,o,none⟩
 | .zD b o a=>some ⟨b,o,some a⟩
def O.Xk(s:O):s.v=.slice s.cx s.len s.cap:=by cases s<;>rfl
inductive Ce where
 |i (n:Int)
 |u (k:IntKind) (n:Int)
 |t (x:Bool)
 |s (x:O)
 |p (b o:Nat)
 |pn
 |fn (f:Fn) (first captured:Array Value)
 |fv (q:Fn×Array Value×Array Value)
 |nf
 |str (x:ByteArray)
 |mp (b:Nat)
 |mn
 |bp (k b o:Nat)
def Ce.v:Ce->Value
 | .i n=>.int .i64 n
 | .u k n=>.int k n
 | .t x=>.bool x
 | .s x=>x.v
 | .p b o=>.pointer (some ⟨b,o,none⟩)
 | .pn=>.pointer none
 | .fn f a c=>.func f a c
 | .fv q=>.func q.1 q.2.1 q.2.2
 | .nf=>.nilFunc
 | .str x=>.string x
 | .mp b=>.map (some b)
 | .mn=>.map none
 | .bp _ b o=>.pointer (some ⟨b,o,none⟩)
inductive AV where
 |c (x:Ce)
 |agg (l:List Ce)
def AV.v:AV->Value
 | .c x=>x.v
 | .agg l=>.agg (l.map Ce.v).toArray
inductive SV where
 |c (x:Ce)
 |tt
 |ff
 |agg (l:List Ce)
 |Xj (l:List AV)
 |un
 |fS
 |box (b e:Nat) (l:List Ce)
 |zt (b e:Nat) (l:List Ce)
def SV.v:SV->Value
 | .c x=>x.v
 | .tt=>.bool true
 | .ff=>.bool false
 | .agg l=>.agg (l.map Ce.v).toArray
 | .Xj l=>.tuple (l.map AV.v).toArray
 | .un=>undef
 | .fS=>undef
 | .box _ _ _=>undef
 | .zt _ _ _=>undef
def SV.Is:SV->Value->Prop
 | .fS,_=>True
 | .box _ _ _,_=>True
 | .zt _ _ _,_=>True
 |s,v=>v=s.v
def AV.sv:AV->SV
 | .c x=>.c x
 | .agg l=>.agg l
def AV.aag(x:AV):x.sv.v=x.v:=by cases x<;>rfl
abbrev Fr:=List (Nat×SV)
def ic:Fr->Nat->SV
 |[],_=>.fS
 |(u,x)::r,t=>bif Nat.beq u t then x else ic r t
def SV.nb:SV->SV
 | .box _ _ _=>.fS
 | .zt _ _ _=>.fS
 |x=>x
def tW(a:Fr)(d:Option Nat)(x:SV):Fr:=
 match d with
 |some d=>(d,x.nb)::a
 |none=>a
def SV.TR{x:SV}{v:Value}(h:x.Is v):x.nb.Is v:=by
 cases x<;>first|exact h|trivial
def Ce.lJ(x:Ce):x.v.cells=#[x.v]:=by
 cases x with
 |s y=>cases y<;>rfl
 |_=>rfl
def kJ:Value->Option Ce
 | .int .i64 n=>some (.i n)
 | .int k n=>some (.u k n)
 | .bool x=>some (.t x)
 | .slice none 0 0=>some (.s .nil)
 | .pointer none=>some .pn
 | .nilFunc=>some .nf
 | .string x=>some (.str x)
 |_=>none
def Nr{x:Value}{c:Ce}(h:kJ x=some c):c.v=x:=by
 unfold kJ at h;split at h<;>simp at h<;>subst h<;>rfl
def px:List Value->Option (List Ce)
 |[]=>some []
 |v::b=>match kJ v,px b with
  |some c,some a=>some (c::a)
  |_,_=>none
def KB:∀{b:List Value}{a:List Ce},px b=some a->a.map Ce.v=b
 |[],_,h=>by simp[px]at h;subst h;rfl
 |v::b,a,h=>by
  simp only[px]at h;split at h
  .rename_i e f c d;simp at h;subst h;simp[Nr c,KB d]
  .simp at h
def Fu:Value->SV
 | .bool true=>.tt
 | .bool false=>.ff
 | .agg a=>match px a.toList with
  |some l=>.agg l
  |none=>.fS
 | .tuple a=>bif a.toList.isEmpty then .un else .fS
 |v=>match kJ v with
  |some c=>.c c
  |none=>.fS
def Qx(x:Value):(Fu x).Is x:=by
 unfold Fu;split
 .rfl
 .rfl
 .rename_i a;split
  .rename_i l b;show Value.agg a=.agg (l.map Ce.v).toArray;rw[KB b]
  .trivial
 .rename_i a;cases h:a.toList.isEmpty
  .trivial
  .show Value.tuple a=undef;have:a=#[]:=by simpa using h
   rw[this];rfl
 .split
  .rename_i c a;exact(Nr a).symm
  .trivial
def ev(a:Fr):Operand->SV
 | .tmp t=>(ic a t).nb
 | .const v=>Fu v
 | .global g=>.c (.p g 0)
 | .func f=>.c (.fn (.func f) #[] #[])
structure jY(n:Nat)(fr:Fr)(a:Act):Prop where
 size:a.tmps.size=n
 defers:a.defers=[]
 aF:∀t,(ic fr t).Is (a.tmps.getD t undef)
def jY.ev{b:Fr}(h:jY n b a)(x:Operand):(ev b x).Is (a.eval x):=by
 cases x with
 |tmp t=>exact SV.TR (h.aF t)
 |const v=>exact Qx v
 |global g=>rfl
 |func f=>rfl
def jY.put{n:Nat}{b:Fr}{a:Act}(h:jY n b a){d:Option Nat}{x:SV}{v:Value}(g:x.Is v)(hd:∀t,d=some t->t<n):
 jY n (tW b d x) (a.put d v):=by
 cases d with
 |none=>exact h
 |some d=>
  refine⟨by simpa[Act.put]using h.size,h.defers,λt=>?_⟩
  have f:d<a.tmps.size:=by rw[h.size];exact hd d rfl
  simp only[tW,ic,Act.put]
  by_cases e:d=t
  .subst e
   simp only[Nat.beq_refl,jG]
   simpa[f]using SV.TR g
  .have:Nat.beq d t=false:=by
    cases c:Nat.beq d t
    .rfl
    .exact absurd (bq c) e
   simp only[this,mG]
   have:=h.aF t
   simpa[jP e]using this
def jY.cons{b:Fr}(h:jY n b a)(t:Nat){x:SV}(c:∀v,x.Is v):jY n ((t,x)::b) a:=by
 refine⟨h.size,h.defers,λu=>?_⟩;simp only[ic];cases d:Nat.beq t u
 .exact h.aF u
 .exact c _
def jY.fS{b:Fr}(h:jY n b a)(t:Nat):jY n ((t,.fS)::b) a:=by
 refine⟨h.size,h.defers,λu=>?_⟩;simp only[ic];cases c:Nat.beq t u
 .exact h.aF u
 .trivial
end Go.Vc
end
section
namespace Go.Vc
variable{P:Program}{t b e:Nat}
inductive Sh where
 |I
 |U (k:IntKind)
 |T
 |S
 |P
 |F
 |M
 deriving DecidableEq
abbrev Sh.ty:Sh->Type
 | .I=>Int
 | .U _=>Int
 | .T=>Bool
 | .S=>O
 | .P=>Nat×Nat
 | .F=>Fn×Array Value×Array Value
 | .M=>Nat
abbrev Sh.mk:(s:Sh)->s.ty->Ce
 | .I,n=>.i n
 | .U k,n=>.u k n
 | .T,x=>.t x
 | .S,x=>.s x
 | .P,q=>.p q.1 q.2
 | .F,v=>.fv v
 | .M,b=>.mp b
def Sh.zero:Sh->Ce
 | .I=>.i 0
 | .U k=>.u k 0
 | .T=>.t false
 | .S=>.s .nil
 | .P=>.pn
 | .F=>.nf
 | .M=>.mn
inductive TK where
 |cell
 |slice (elem:Nat)
 |struct (offs:List (Nat×Nat))
 |tuple (ts:List Nat)
 |map (key elem:Nat)
structure TI where
 HK:TK
 sh:List Sh
 bytes:Nat
abbrev TT:=List (Nat×TI)
def fI:TT->Nat->Option TI
 |[],_=>none
 |(u,x)::r,t=>bif Nat.beq u t then some x else fI r t
def OK:Sh->Value->Bool
 | .I,.int .i64 0=>true
 | .U k,.int a 0=>decide (k=a)
 | .T,.bool false=>true
 | .S,.slice none 0 0=>true
 | .P,.pointer none=>true
 | .F,.nilFunc=>true
 | .M,.map none=>true
 |_,_=>false
def OL{s:Sh}{v:Value}(h:OK s v=true):v=s.zero.v:=by
 unfold OK at h;split at h<;>first|rfl|(simp at h;subst h;rfl)|simp at h
def Fb:List Value->List Sh->Bool
 |[],[]=>true
 |v::b,s::a=>OK s v&&Fb b a
 |_,_=>false
def BA:∀{b:List Value}{a:List Sh},Fb b a=true->b=a.map λs=>s.zero.v
 |[],[],_=>rfl
 |v::b,s::a,h=>by
  simp only[Fb,bK]at h;simp[OL h.1,BA h.2]
 |[],_::_,h=>by simp[Fb]at h
 |_::_,[],h=>by simp[Fb]at h
def Nx:List Field->List (Nat×Nat)->Bool
 |[],[]=>true
 |f::a,(o,t)::r=>Nat.beq f.offset o&&Nat.beq f.type t&&Nx a r
 |_,_=>false
def Lf:∀{a:List Field}{b:List (Nat×Nat)},Nx a b=true->a.map (λf=>(f.offset,f.type))=b
 |[],[],_=>rfl
 |f::a,(o,t)::r,h=>by
  simp only[Nx,bK]at h;simp[bq h.1.1,bq h.1.2,Lf h.2]
 |[],_::_,h=>by simp[Nx]at h
 |_::_,[],h=>by simp[Nx]at h
def zZ:TypeDesc->List Sh->Bool
 | .bool,[.T]=>true
 | .int .i64,[.I]=>true
 | .int k,[.U k']=>decide (k=k')
 | .pointer _,[.P]=>true
 | .func ..,[.F]=>true
 |_,_=>false
def BK(i:TypeInfo)(a:TI)(b:Bool):Bool:=
 Nat.beq i.size a.sh.length&&Nat.beq i.bytes a.bytes&&
 (match i.zero with
  |some (.agg c)=>b&&Fb c.toList a.sh
  |some z=>!b&&Fb [z] a.sh
  |none=>false)
def YG(t:Nat):Nat:=t+1000000
def UK(P:Program)(t:Nat):Bool:=
 match P.underlying t with
 |some (.struct a)=>a.toList.all (λf=>f.name != "_")&&!P.stoodInHeld t&&!P.eqGuardType P.depth t
 |_=>false
def yh(P:Program)(t:Nat)(a:TI):Bool:=
 match a.HK with
 | .tuple _=>if t<1000000 then true else UK P (t -1000000)
 | .slice e=>match P.info? t,P.underlying t with
  |some i,some (.slice b)=>Nat.beq e b&&BK i a false
  |_,_=>false
 | .struct d=>match P.info? t,P.underlying t with
  |some i,some (.struct c)=>Nx c.toList d&&BK i a true
  |_,_=>false
 | .map k e=>match P.info? t,P.underlying t with
  |some i,some (.map c b)=>Nat.beq k c&&Nat.beq e b&&BK i a false
  |_,_=>false
 | .cell=>match P.info? t,P.underlying t with
  |some i,some d=>zZ d a.sh&&BK i a false
  |_,_=>false
def ui(P:Program)(T:TT):Prop:=T.all (λx=>yh P x.1 x.2)=true
def P7:∀{T:TT}{t:Nat}{b:TI},fI T t=some b->(t,b)∈T
 |[],_,_,h=>by simp[fI]at h
 |(u,x)::r,t,b,h=>by
  simp only[fI]at h;cases a:Nat.beq u t
  .rw[a]at h;exact ai _ (P7 h)
  .rw[a]at h;have:=bq a;simp at h;subst h;subst this;exact bg
def ui.yh{T:TT}(h:ui P T){a:TI}(b:fI T t=some a):yh P t a=true:=
 List.all_eq_true.1 h _ (P7 b)
def ui.cmp{T:TT}(h:ui P T){l:List Nat}{c:List Sh}(a:fI T (YG t)=some ⟨.tuple l,c,b⟩):UK P t=true:=by
 have:=h.yh a;simp only[Go.Vc.yh]at this;rw[ae (by unfold YG;omega),show YG t -1000000=t by unfold YG;omega]at this;exact this
structure Kn(P:Program)(t:Nat)(ti:TI)(agg:Bool):Prop where
 aam:∃i,P.info? t=some i/\i.size=ti.sh.length/\i.bytes=ti.bytes/\
  ∃z,i.zero=some z/\z.cells.toList=(ti.sh.map λs=>s.zero.v)/\(agg=false->∀cs,z≠.agg cs)
def sG{g:TI}{i:TypeInfo}{c:Bool}(j:P.info? t=some i)(h:BK i g c=true):Kn P t g c:=by
 simp only[BK,bK]at h;refine⟨i,j,bq h.1.1,bq h.1.2,?_⟩;have a:=h.2;split at a
 .rename_i d b;simp only[bK]at a;exact⟨_,b,by simpa[Value.cells]using BA a.2,λf=>by rw[f]at a;simp at a⟩
 .rename_i z f b;simp only[bK]at a;refine⟨_,b,?_,λ_ d e=>f d (by rw[e])⟩;have:=BA a.2;rw[<-this];cases z<;>first|rfl|exact(f _ rfl).elim
 .simp at a
def j9{a:List Sh}(h:yh P t ⟨.slice e,a,b⟩=true):P.underlying t=some (.slice e)/\Kn P t ⟨.slice e,a,b⟩ false:=by
 simp only[yh]at h;split at h
 .rename_i i f c d;simp only[bK]at h;have:=bq h.1;subst this;exact⟨d,sG c h.2⟩
 .simp at h
def BY{k:Nat}{a:List Sh}(h:yh P t ⟨.map k e,a,b⟩=true):P.underlying t=some (.map k e)/\Kn P t ⟨.map k e,a,b⟩ false:=by
 simp only[yh]at h;split at h
 .rename_i j l i f g;simp only[bK]at h;have c:=bq h.1.1;have d:=bq h.1.2;subst c;subst d;exact⟨g,sG f h.2⟩
 .simp at h
def mZ{c:List (Nat×Nat)}{d:List Sh}(h:yh P t ⟨.struct c,d,b⟩=true):
 (∃a,P.underlying t=some (.struct a)/\a.toList.map (λf=>(f.offset,f.type))=c)/\Kn P t ⟨.struct c,d,b⟩ true:=by
 simp only[yh]at h
 split at h
 .rename_i i a e f
  simp only[bK]at h
  exact⟨⟨a,f,Lf h.1⟩,sG e h.2⟩
 .simp at h
def nP{a:List Sh}(h:yh P t ⟨.cell,a,b⟩=true):
 (∃d,P.underlying t=some d/\zZ d a=true)/\Kn P t ⟨.cell,a,b⟩ false:=by
 simp only[yh]at h
 split at h
 .rename_i i d c e
  simp only[bK]at h
  exact⟨⟨d,e,h.1⟩,sG c h.2⟩
 .simp at h
def TI.agg(a:TI):Bool:=match a.HK with| .struct _=>true|_=>false
def TI.uw(a:TI):Bool:=match a.HK with| .tuple _=>true|_=>false
def ku{T:TT}(f:ui P T){d:TI}(g:fI T t=some d)(j:d.uw=false)(w:World):
 (sizeOf t).run P w=.ok d.sh.length w:=by
 have h:=f.yh g
 obtain⟨HK,k,b⟩:=d
 have:∃i,P.info? t=some i/\i.size=k.length:=by
  cases HK with
  |cell=>obtain⟨_,⟨i,a,c,_⟩⟩:=nP h;exact⟨i,a,c⟩
  |slice e=>obtain⟨_,⟨i,a,c,_⟩⟩:=j9 h;exact⟨i,a,c⟩
  |map l e=>obtain⟨_,⟨i,a,c,_⟩⟩:=BY h;exact⟨i,a,c⟩
  |struct o=>obtain⟨_,⟨i,a,c,_⟩⟩:=mZ h;exact⟨i,a,c⟩
  |tuple l=>simp[TI.uw]at j
 obtain⟨i,a,c⟩:=this
 simp[sizeOf,typeInfo,a,c]
def Gd{T:TT}(g:ui P T){f:TI}(j:fI T t=some f)(k:f.uw=false):
 ∃i,i.bytes=f.bytes/\i.size=f.sh.length/\(∀w,(typeInfo t).run P w=.ok i w)/\P.info? t=some i:=by
 have h:=g.yh j
 obtain⟨HK,l,b⟩:=f
 have:∃i,P.info? t=some i/\i.size=l.length/\i.bytes=b:=by
  cases HK with
  |cell=>obtain⟨_,⟨i,a,c,d,_⟩⟩:=nP h;exact⟨i,a,c,d⟩
  |slice e=>obtain⟨_,⟨i,a,c,d,_⟩⟩:=j9 h;exact⟨i,a,c,d⟩
  |map m e=>obtain⟨_,⟨i,a,c,d,_⟩⟩:=BY h;exact⟨i,a,c,d⟩
  |struct o=>obtain⟨_,⟨i,a,c,d,_⟩⟩:=mZ h;exact⟨i,a,c,d⟩
  |tuple m=>simp[TI.uw]at k
 obtain⟨i,a,c,d⟩:=this
 exact⟨i,d,c,λw=>by simp[typeInfo,a],a⟩
def vU{T:TT}(m:ui P T){k:TI}(n:fI T t=some k)(o:k.uw=false):
 ∃z,z.cells.toList=k.sh.map (λs=>s.zero.v)/\(∀w,(zeroValue t).run P w=.ok z w)/\(k.agg=false->∀a,z≠.agg a):=by
 have h:=m.yh n
 obtain⟨HK,l,b⟩:=k
 have:∃i,P.info? t=some i/\∃z,i.zero=some z/\z.cells.toList=(l.map λs=>s.zero.v)/\((TI.mk HK l b).agg=false->∀a,z≠.agg a):=by
  cases HK with
  |cell=>obtain⟨_,⟨i,a,g,j,z,c,d,f⟩⟩:=nP h;exact⟨i,a,z,c,d,λ_=>f rfl⟩
  |slice e=>obtain⟨_,⟨i,a,g,j,z,c,d,f⟩⟩:=j9 h;exact⟨i,a,z,c,d,λ_=>f rfl⟩
  |map p e=>obtain⟨_,⟨i,a,g,j,z,c,d,f⟩⟩:=BY h;exact⟨i,a,z,c,d,λ_=>f rfl⟩
  |struct p=>obtain⟨_,⟨i,a,g,j,z,c,d,f⟩⟩:=mZ h;exact⟨i,a,z,c,d,λh=>by simp[TI.agg]at h⟩
  |tuple d=>simp[TI.uw]at o
 obtain⟨i,a,z,g,j,c⟩:=this
 exact⟨z,j,λw=>by simp[zeroValue,typeInfo,a,g],c⟩
def HZ{T:TT}(d:ui P T){a:TI}(f:fI T t=some a)(g:a.uw=false)(w:World):
 (isAgg t).run P w=.ok a.agg w:=by
 have h:=d.yh f
 obtain⟨HK,j,b⟩:=a
 cases HK with
 |cell=>
  obtain⟨⟨i,hd,c⟩,_⟩:=nP h
  unfold zZ at c
  split at c<;>first|(simp at c;done)|simp[isAgg,run_underlying hd,TI.agg]
 |slice e=>obtain⟨hd,_⟩:=j9 h;simp[isAgg,run_underlying hd,TI.agg]
 |map k e=>obtain⟨hd,_⟩:=BY h;simp[isAgg,run_underlying hd,TI.agg]
 |struct o=>obtain⟨⟨c,hd,_⟩,_⟩:=mZ h;simp[isAgg,run_underlying hd,TI.agg]
 |tuple c=>simp[TI.uw]at g
end Go.Vc
end
section
namespace Go.Vc
def lp:SV->Option Bool
 | .tt=>some true
 | .ff=>some false
 | .c (.t x)=>some x
 |_=>none
def SV.jH:SV->Bool
 | .fS=>false
 | .box _ _ _=>false
 | .zt _ _ _=>false
 |_=>true
def cT(n:Int):Int:=IntKind.i64.wrap n
def HO{α:Type}:List α->Nat->Option α
 |[],_=>none
 |x::_,0=>some x
 |_::r,n+1=>HO r n
def pF{α:Type}:∀(l:List α)(n:Nat),HO l n=l[n]?
 |[],_=>by simp[HO]
 |x::_,0=>by simp[HO]
 |_::r,n+1=>by simp[HO,pF r n]
def VN(m:E)(b o:Nat):Nat->List Sh->(List Ce->Prop)->Prop
 |_,[],k=>k []
 |j,s::r,k=>∃x:s.ty,af m b (o+j)=some (s.mk x).v/\VN m b o (j+1) r λl=>k (s.mk x::l)
def Vg(a b:Int):Int:=cT ((a%18446744073709551616).toNat^^^(b%18446744073709551616).toNat:Nat)
def rK(c:BinOp)(a b:Int)(k:SV->Prop):Prop:=
 match c with
 | .add=>k (.c (.i (cT (a+b))))
 | .sub=>k (.c (.i (cT (a -b))))
 | .mul=>k (.c (.i (cT (a*b))))
 | .quo=>b≠0/\k (.c (.i (cT (a.tdiv b))))
 | .rem=>b≠0/\k (.c (.i (a.tmod b)))
 | .xor=>k (.c (.i (Vg a b)))
 | .eql=>k (.c (.t (a==b)))
 | .neq=>k (.c (.t (a !=b)))
 | .lss=>k (.c (.t (decide (a<b))))
 | .leq=>k (.c (.t (decide (a<=b))))
 | .gtr=>k (.c (.t (decide (a>b))))
 | .geq=>k (.c (.t (decide (a>=b))))
 |_=>False
def UC(c:BinOp)(a b:Bool)(k:SV->Prop):Prop:=
 match c with
 | .eql=>k (.c (.t (a==b)))
 | .neq=>k (.c (.t (!(a==b))))
 |_=>False
def UW(a:BinOp)(s:O)(k:SV->Prop):Prop:=
 match a with
 | .eql=>k (.c (.t s.FT))
 | .neq=>k (.c (.t (!s.FT)))
 |_=>False
def Zs(a:UnOp)(x:SV)(k:SV->Prop):Prop:=
 match a,x with
 | .not,.tt=>k .ff
 | .not,.ff=>k .tt
 | .not,.c (.t b)=>k (.c (.t (!b)))
 | .neg,.c (.i n)=>k (.c (.i (cT (0 -n))))
 |_,_=>False
def O.cut(x:O)(a d e:Nat):O:=
 match x with
 | .nil=>.nil
 | .mk b o _ c=>.mk b (if c=a then o else o+a*e) (d -a) (c -a)
 | .zD b o c=>.zD b o c
def SV.cells:SV->Option (List Ce)
 | .c x=>some [x]
 | .tt=>some [.t true]
 | .ff=>some [.t false]
 | .agg l=>some l
 |_=>none
def mf(l:List Ce)(b:Nat)(a:List Ce):List Ce:=
 match b,l with
 |0,l=>match a,l with
  |[],l=>l
  |n::a,_::l=>n::mf l 0 a
  |_::_,[]=>[]
 |b+1,x::l=>x::mf l b a
 |_+1,[]=>[]
termination_by structural l
def Fq(T:TT)(c:Fr)(e:List (Nat×Nat)):List Ce->List (Nat×Operand)->(List Ce->Prop)->Prop
 |a,[],k=>k a
 |a,(i,x)::r,k=>
  match HO e i,(ev c x).cells with
  |some (d,t),some b=>
   match fI T t with
   |some f=>bif !f.uw&&Nat.beq b.length f.sh.length&&Nat.ble (d+b.length) a.length then Fq T c e (mf a d b) r k else False
   |none=>False
  |_,_=>False
def uX(T:TT):List (Nat×Nat)->Bool
 |[]=>true
 |(_,t)::r=>(match fI T t with|some a=>!a.uw|none=>false)&&uX T r
def MG(a:Fr)(x:Option Operand)(d:Int)(k:Int->Prop):Prop:=
 match x with
 |none=>k d
 |some x=>match ev a x with
  | .c (.i n)=>k n
  |_=>False
def W0(T:TT)(t:Nat)(s:O)(n:Int)(k:SV->Prop):Prop:=
 match fI T t with
 |some ⟨.slice e,_,_⟩=>match fI T e with
  |some a=>bif a.uw then False else 0<=n/\n<(s.len:Int)/\k (.c (.p s.D (s.off+n.toNat*a.sh.length)))
  |none=>False
 |_=>False
def PI(T:TT)(m:E)(t b o:Nat)(k:SV->Prop):Prop:=
 match fI T t with
 |some ⟨.struct _,a,_⟩=>VN m b o 0 a λl=>k (.agg l)
 |some ⟨.cell,[s],_⟩=>∃x:s.ty,af m b o=some (s.mk x).v/\k (.c (s.mk x))
 |some ⟨.slice _,[_],_⟩=>∃x:O,af m b o=some x.v/\k (.c (.s x))
 |_=>False
def Q5(T:TT)(a:Fr)(t:Nat)(s:O)(d c:Option Operand)(k:SV->Prop):Prop:=
 match fI T t with
 |some ⟨.slice e,_,_⟩=>match fI T e with
  |some b=>bif b.uw then False else
   MG a d 0 λl=>MG a c (s.len:Int) λh=>0<=l/\l<=h/\h<=(s.cap:Int)/\k (.c (.s (s.cut l.toNat h.toNat b.sh.length)))
  |none=>False
 |_=>False
def Ot(T:TT)(t f:Nat)(l:List Ce)(k:SV->Prop):Prop:=
 match fI T t with
 |some ⟨.struct c,_,_⟩=>match HO c f with
  |some (b,u)=>match fI T u with
   |some a=>bif a.uw then False else bif a.agg then k (.agg ((l.drop b).take a.sh.length))else(match HO l b with|some x=>k (.c x)|none=>False)
   |none=>False
  |none=>False
 |_=>False
def Fx(T:TT)(t f o:Nat)(mk:Nat->SV)(k:SV->Prop):Prop:=
 match fI T t with
 |some ⟨.struct c,_,_⟩=>match HO c f with
  |some (b,u)=>match fI T u with
   |some a=>bif a.uw||Nat.beq a.sh.length 0 then False else k (mk (o+b))
   |none=>False
  |none=>False
 |_=>False
def Mt(a b:Nat)(k:Prop):Prop:=a=b/\k
def aC(b:Nat)(k:Prop):Mt b b k=k:=by simp[Mt]
def Hb:List Ce->Nat->Nat->Option (List Ce)
 |_,_,0=>some []
 |l,o,n+1=>match HO l o,Hb l (o+1) n with
  |some c,some r=>some (c::r)
  |_,_=>none
def Np(T:TT)(t:Nat)(a:List Ce)(o:Nat)(k:SV->Prop):Prop:=
 match fI T t with
 |some ⟨.struct _,b,_⟩=>match Hb a o b.length with
  |some l=>k (.agg l)
  |none=>False
 |some ⟨.cell,[_],_⟩=>match HO a o with
  |some c=>k (.c c)
  |none=>False
 |some ⟨.slice _,[_],_⟩=>match HO a o with
  |some c=>k (.c c)
  |none=>False
 |some ⟨.map _ _,[_],_⟩=>match HO a o with
  |some c=>k (.c c)
  |none=>False
 |_=>False
def Te(T:TT)(c:Fr)(d:Builtin)(e:List Nat)(f:List Operand)(k:SV->Prop):Prop:=
 match d,e,f with
 | .len,[t],[x]=>match fI T t,ev c x with
  |some ⟨.slice _,_,_⟩,.c (.s s)=>k (.c (.i (s.len:Int)))
  |_,_=>False
 | .max,_,[x,y]=>match ev c x,ev c y with
  | .c (.i a),.c (.i b)=>k (.c (.i (if b>a then b else a)))
  |_,_=>False
 | .min,_,[x,y]=>match ev c x,ev c y with
  | .c (.i a),.c (.i b)=>k (.c (.i (if b<a then b else a)))
  |_,_=>False
 |_,_,_=>False
def Xt(T:TT):Nat->List (Nat×Nat)->List Ce->List Ce->Option Bool
 |_,[],[],[]=>some true
 |i,(o,u)::c,.i a::l,.i b::r=>bif Nat.beq o i then match fI T u,Xt T (i+1) c l r with
  |some ⟨.cell,[.I],_⟩,some z=>some (a==b&&z)
  |_,_=>none else none
 |_,_,_,_=>none
def eqA(T:TT)(t:Nat)(l r:List Ce)(k:SV->Prop):Prop:=
 match fI T (YG t),fI T t with
 |some ⟨.tuple _,_,_⟩,some ⟨.struct a,_,_⟩=>match Xt T 0 a l r with
  |some z=>k (.c (.t z))
  |none=>False
 |_,_=>False
def rd(T:TT)(a:Fr)(m:E)(k:SV->Prop):Op->Prop
 | .move x| .assign x=>k (ev a x)
 | .pick d c b=>match ev a d with
  | .tt=>k (ev a c)
  | .ff=>k (ev a b)
  | .c (.t x)=>match lp (ev a c),lp (ev a b)with
   |some y,some z=>k (.c (.t (bif x then y else z)))
   |_,_=>False
  |_=>False
 | .nilCheck x=>match ev a x with
  | .c (.p b o)=>k (.c (.p b o))
  | .c (.bp q b o)=>k (.c (.bp q b o))
  | .c (.fn (.func f) c d)=>k (.c (.fn (.func f) c d))
  | .c (.fv q)=>∃g,q.1=.func g/\k (.c (.fv q))
  |_=>False
 | .binOp d t x y _=>match ev a x,ev a y with
  | .c (.i c),.c (.i b)=>rK d c b k
  | .c (.s s),.c (.s .nil)=>match fI T t with
   |some ⟨.slice _,_,_⟩=>UW d s k
   |_=>False
  | .agg l,.agg r=>match d with
   | .eql=>eqA T t l r k
   |_=>False
  |sx,e=>match fI T t,lp sx,lp e with
   |some ⟨.cell,[.T],_⟩,some c,some b=>UC d c b k
   |_,_,_=>False
 | .unOp d _ x=>Zs d (ev a x) k
 | .convert s t x=>match fI T s,fI T t,ev a x with
  |some ⟨.cell,[_],_⟩,some ⟨.cell,[.I],_⟩,.c (.u _ n)=>k (.c (.i (cT n)))
  |_,_,_=>False
 | .fieldAddr t x f=>match ev a x with
  | .c (.p b o)=>Fx T t f o (λo=>.c (.p b o)) k
  | .c (.bp q b o)=>Fx T t f o (λo=>.c (.bp q b o)) k
  |_=>False
 | .field t x f=>match ev a x with
  | .agg l=>Ot T t f l k
  |_=>False
 | .indexAddr t x i=>match ev a x,ev a i with
  | .c (.s s),.c (.i n)=>W0 T t s n k
  |_,_=>False
 | .load t x=>match ev a x with
  | .c (.p b o)=>PI T m t b o k
  | .c (.bp q b o)=>match ic a q with
   | .box c _ d=>Mt c b (Np T t d o k)
   | .zt c _ d=>Mt c b (Np T t d o k)
   |_=>PI T m t b o k
  |_=>False
 | .extract x i=>match ev a x with
  | .Xj l=>match HO l i with
   |some y=>k y.sv
   |none=>False
  |_=>False
 | .slice t x c b none=>match ev a x with
  | .c (.s s)=>Q5 T a t s c b k
  |_=>False
 | .build t c=>match fI T t with
  |some ⟨.struct b,d,_⟩=>bif uX T b then Fq T a b (d.map Sh.zero) c.toList λl=>k (.agg l)else False
  |_=>False
 | .call ⟨.builtin c,b,d⟩=>Te T a c d.toList b.toList k
 |_=>False
def lK(a:Fr)(q b e:Nat)(l:List Ce):Prop:=ic a q=.box b e l\/ic a q=.zt b e l
structure Bx(n:Nat)(fr:Fr)(m:E):Prop where
 D:∀q b e l,lK fr q b e l->m[b]? =some (.cells (l.map Ce.v).toArray e)
 Ok:∀q q' b e l b' e' l',q≠q'->lK fr q b e l->lK fr q' b' e' l'->b≠b'
 key:∀q b e l,lK fr q b e l->n<=q
def SD(T:TT)(c:Fr):Op->List (Nat×Nat)
 | .load t x=>match ev c x,fI T t with
  | .c (.p b o),some a=>(List.range a.sh.length).map λj=>(b,o+j)
  | .c (.bp _ b o),some a=>(List.range a.sh.length).map λj=>(b,o+j)
  |_,_=>[]
 |_=>[]
end Go.Vc
end
section
namespace Go.Vc
variable{s:SV}{b:Bool}
def SV.Is.eq{v:Value}(h:s.Is v)(a:s.jH=true):v=s.v:=by
 cases s<;>first|exact h|simp[SV.jH]at a
def nI(s:SV):s.Is s.v:=by cases s<;>first|rfl|trivial
def jY.eq{n:Nat}{b:Fr}{a:Act}(h:jY n b a){x:Operand}{s:SV}(c:Vc.ev b x=s)(d:s.jH=true):a.eval x=s.v:=by
 have:=h.ev x;rw[c]at this;exact this.eq d
def wI(h:lp s=some b):s.jH=true/\s.v=.bool b:=by
 unfold lp at h;split at h<;>simp_all [SV.jH,SV.v,Ce.v]
def jY.Zl{n:Nat}{c:Fr}{a:Act}(h:jY n c a){x:Operand}(d:lp (Vc.ev c x)=some b):a.eval x=.bool b:=by
 rw[h.eq rfl (wI d).1,(wI d).2]
def vB(b o n:Nat):(⟨b,o,none⟩:Addr).add n=⟨b,o+n,none⟩:=by
 unfold Addr.add;split
 .rename_i h;subst h;rfl
 .rfl
def BQ:∀(l:List Ce)(a:Nat)(b:List Ce)(i:Nat),a+b.length<=l.length->
 (mf l a b)[i]? =if a<=i/\i<a+b.length then b[i -a]? else l[i]?
 |[],0,[],i,_=>by simp[mf]
 |[],0,_::_,_,h=>by simp at h
 |[],_+1,_,_,h=>by simp at h
 |x::l,0,[],i,_=>by simp[mf]
 |x::l,0,n::b,i,h=>by
  simp only[mf];cases i with
  |zero=>simp
  |succ i=>
   have:=BQ l 0 b i (by simp at h;omega);simp only[hO,this];simp
 |x::l,a+1,b,i,h=>by
  simp only[mf];cases i with
  |zero=>simp
  |succ i=>
   have:=BQ l a b i (by simp at h;omega);simp only[hO,this];have e:(i+1 -(a+1))=i -a:=V;simp only[e];congr 1;simp;omega
def Nt(c:List Value):∀(k a:Nat)(b:Array Value)(i:Nat),
 ((c.zipIdx k).foldl (λ(d:Array Value)(p:Value×Nat)=>d.setIfInBounds (a+p.2) p.1) b)[i]? =
  if a+k<=i/\i<a+k+c.length/\i<b.size then c[i -(a+k)]? else b[i]? :=by
 induction c with
 |nil=>intro k a b i;simp;intro h;omega
 |cons v c g=>
  intro k a b i
  simp only[List.zipIdx_cons,List.foldl_cons,g,Array.size_setIfInBounds,aZ]
  by_cases d:i=a+k
  .subst d
   by_cases e:a+k<b.size
   .simp[e];try omega
   .simp[e];try omega
  .have:¬(a+k=i):=λf=>d f.symm
   rw[jP this]
   by_cases e:a+k<=i/\i<a+k+(c.length+1)/\i<b.size
   .rw[an e,an V]
    have:i -(a+k)=(i -(a+(k+1)))+1:=V
    rw[this,hO]
   .rw[ae e,ae V]
def pw{l:List Ce}(h:s.cells=some l):s.jH=true/\s.v.cells=(l.map Ce.v).toArray:=by
 cases s with
 |c x=>simp[SV.cells]at h;subst h;exact⟨rfl,by simp[SV.v,Ce.lJ]⟩
 |tt=>simp[SV.cells]at h;subst h;exact⟨rfl,rfl⟩
 |ff=>simp[SV.cells]at h;subst h;exact⟨rfl,rfl⟩
 |agg a=>simp[SV.cells]at h;subst h;exact⟨rfl,rfl⟩
 |Xj _=>simp[SV.cells]at h
 |un=>simp[SV.cells]at h
 |fS=>simp[SV.cells]at h
 |box _ _ _=>simp[SV.cells]at h
 |zt _ _ _=>simp[SV.cells]at h
end Go.Vc
end
section
namespace Go.Vc
variable{x y:Operand}{c:TypeId}{h b f o:Nat}{g:List Ce}
variable{e:Program}{T:TT}
def oK(e:Program)(T:TT)(b:Fr)(m:E)(a:Act)(o:Oper)(k:SV->Prop):Prop:=
 ∃x v,k x/\x.Is v/\∀w:World,(∀q∈SD T b o.op,af w.heap q.1 q.2=af m q.1 q.2)->(execOp a.eval o).run e w=.ok (.value v) w
section
variable{n:Nat}{i:Fr}{a:Act}{j:E}{k:SV->Prop}{q:Option Tmp}{v:TypeId}{u:String}{p:Array Edge}{r:Option (Nat×Bool)}
def TF(b:jY n i a)(h:k (ev i x)):oK e T i j a ⟨q,.move x,v,u,p,r⟩ k:=
 ⟨_,_,h,b.ev x,λw _=>by simp[execOp]⟩
def Si(b:jY n i a)(h:k (ev i x)):oK e T i j a ⟨q,.assign x,v,u,p,r⟩ k:=
 ⟨_,_,h,b.ev x,λw _=>by simp[execOp]⟩
def QM(c:jY n i a){f:Operand}(h:rd T i j k (.pick f x y)):oK e T i j a ⟨q,.pick f x y,v,u,p,r⟩ k:=by
 simp only[rd]at h;split at h
 .rename_i d;exact⟨_,_,h,c.ev x,λw _=>by simp[execOp,c.eq d rfl,SV.v,asBool]⟩
 .rename_i d;exact⟨_,_,h,c.ev y,λw _=>by simp[execOp,c.eq d rfl,SV.v,asBool]⟩
 .rename_i b d;split at h
  .rename_i m o g l;refine⟨_,_,h,nI _,λw _=>?_⟩;simp[execOp,c.eq d rfl,SV.v,Ce.v,asBool,c.Zl g,c.Zl l];try (cases b<;>rfl)
  .exact h.elim
 .exact h.elim
def KN(d:jY n i a)(h:rd T i j k (.nilCheck x)):oK e T i j a ⟨q,.nilCheck x,v,u,p,r⟩ k:=by
 simp only[rd]at h;split at h
 .rename_i b o c;exact⟨_,_,h,nI _,λw _=>by simp[execOp,d.eq c rfl,SV.v,Ce.v]⟩
 .rename_i m b o c;exact⟨_,_,h,nI _,λw _=>by simp[execOp,d.eq c rfl,SV.v,Ce.v]⟩
 .rename_i f g l c;exact⟨_,_,h,nI _,λw _=>by simp[execOp,d.eq c rfl,SV.v,Ce.v]⟩
 .rename_i m c;obtain⟨s,g,l⟩:=h;exact⟨_,_,l,nI _,λw _=>by simp[execOp,d.eq c rfl,SV.v,Ce.v,g]⟩
 .exact h.elim
def UD{a:BinOp}{x y:Int}(h:rK a x y k):∃s v,k s/\s.Is v/\∀w:World,(binOp a c (.int .i64 x) (.int .i64 y)).run e w=.ok v w:=by
 cases a<;>simp only[rK]at h
 case quo=>exact⟨_,_,h.2,nI _,λw=>by simp[binOp,Op.intDiv,h.1,SV.v,Ce.v,cT]⟩
 case rem=>exact⟨_,_,h.2,nI _,λw=>by simp[binOp,Op.intDiv,h.1,SV.v,Ce.v]⟩
 case xor=>exact⟨_,_,h,nI _,λw=>by simp[binOp,Op.intBits,SV.v,Ce.v,cT,Vg,IntKind.bits];rfl⟩
 all_goals exact⟨_,_,h,nI _,λw=>by simp[binOp,Op.intArith,Op.intCmp,SV.v,Ce.v,cT]⟩
def Pv(a:BinOp)(c:TypeId)(d f:Operand)(b:IntKind)(x:Int)(y:Value)(w:World):(eqGuard a c d f (.int b x) y).run e w=.ok () w:=by
 cases a<;>simp[eqGuard]
def Oo(a:BinOp)(c:TypeId)(b d:Operand)(x:Bool)(y:Value)(w:World):(eqGuard a c b d (.bool x) y).run e w=.ok () w:=by
 cases a<;>simp[eqGuard]
def QD(hd:e.underlying c=some .bool)(x y:Bool)(w:World):(Op.equal c (.bool x) (.bool y)).run e w=.ok (x==y) w:=by
 have:Op.equal c (.bool x) (.bool y)=Op.equalIn (9999+1) c (.bool x) (.bool y):=rfl;rw[this];generalize 9999=h;simp[Op.equalIn,run_underlying hd]
def Jx{a:TypeId}(hd:e.underlying c=some (.slice a))(s:O)(w:World):(Op.equal c s.v (.slice none 0 0)).run e w=.ok s.FT w:=by
 have:Op.equal c s.v (.slice none 0 0)=Op.equalIn (9999+1) c s.v (.slice none 0 0):=rfl;rw[this];generalize 9999=h;cases s<;>simp[Op.equalIn,run_underlying hd,O.v]
def Pw(hd:e.underlying c=some (.int .i64))(x y:Int)(w:World):(Op.equalIn (h+1) c (.int .i64 x) (.int .i64 y)).run e w=.ok (x==y) w:=by
 simp[Op.equalIn,run_underlying hd]
def PM(d:ui e T){u:Nat}(f:fI T u=some ⟨.cell,[.I],b⟩){a:Array Value}{c:Nat}{v:Value}(h:a[c]? =some v)(w:World):(part u a c).run e w=.ok v w:=by
 simp[part,HZ d f rfl,TI.agg,h]
def TB(n:ui e T){X Y:Array Value}(A:World):∀(j:List Field)(i:Nat)(l:List (Nat×Nat))(g r:List Ce)(z:Bool),j.map (λf=>(f.offset,f.type))=l->(∀f∈j,f.name≠ "_")->
 (∀k d,g[k]? =some d->X[i+k]? =some d.v)->(∀k d,r[k]? =some d->Y[i+k]? =some d.v)->Xt T i l g r=some z->
 (forIn (m:=Sem) j ((none,()):Option Bool×PUnit) λf _=>do
  if f.name≠ "_" then
   if !(<-Op.equalIn (h+1) f.type (<-part f.type X f.offset) (<-part f.type Y f.offset))then pure (.done (some false,()))else pure (.yield (none,()))
  else pure (.yield (none,()))).run e A=.ok (if z=true then(none,())else(some false,())) A:=by
 intro j
 induction j with
 |nil=>
  intro i l g r z u v p q c
  subst u
  cases g<;>cases r<;>simp[Xt]at c
  subst c
  simp
 |cons f j K=>
  intro i l g r z u v p q c
  subst u
  simp only[cK]at c
  unfold Xt at c
  split at c
  .simp at*
  .rename_i i _ _ _ _ o N l a g b r C
   obtain⟨⟨rfl,rfl⟩,rfl⟩:=by simpa using C
   cases s:Nat.beq f.offset i
   .rw[s]at c;simp at c
   .rw[s]at c;simp only[jG]at c
    have x:=bq s
    split at c
    .rename_i M L w J
     simp only[DF]at c
     obtain⟨⟨B,D,y⟩,_⟩:=nP (n.yh w)
     have F:B=.int .i64:=by unfold zZ at y;split at y<;>simp_all
     subst F
     have H:X[f.offset]? =some (.int .i64 a):=by have:=p 0 (.i a) rfl;rw[x];exact this
     have I:Y[f.offset]? =some (.int .i64 b):=by have:=q 0 (.i b) rfl;rw[x];exact this
     have G:=K (i+1) _ g r L rfl (λt E=>v t (ai _ E)) (λk d t=>by have:=p (k+1) d (by simpa using t);rw[<-this];congr 1;omega) (λk d t=>by have:=q (k+1) d (by simpa using t);rw[<-this];congr 1;omega) J
     rw[List.forIn_cons,Sem.run_bind,an (v f bg)]
     simp only[Sem.run_bind,PM n w H,PM n w I,Result.andThen_ok,Pw D]
     cases t:(a==b)
     .rw[t]at c;subst c;simp
     .rw[t]at c;simp only[NS]at c;subst c
      simp only[NR,ji,rG,Sem.run_pure,Result.andThen_ok]
      exact G
    .simp at c
  .simp at c
def Oq(j:ui e T){a:Array Field}(p:e.underlying c=some (.struct a))(o:e.stoodInHeld c=false)(n:∀f∈a.toList,f.name≠ "_"){r:List Ce}{z:Bool}
 (l:Xt T 0 (a.toList.map λf=>(f.offset,f.type)) g r=some z)(w:World):(Op.equal c (.agg (g.map Ce.v).toArray) (.agg (r.map Ce.v).toArray)).run e w=.ok z w:=by
 have:Op.equal c (.agg (g.map Ce.v).toArray) (.agg (r.map Ce.v).toArray)=Op.equalIn (9998+1+1) c (.agg (g.map Ce.v).toArray) (.agg (r.map Ce.v).toArray):=rfl
 rw[this]
 generalize 9998=h
 rw[Op.equalIn]
 simp only[Sem.run_bind,run_underlying p,Result.andThen_ok]
 have m:=TB j (h:=h) (X:=(g.map Ce.v).toArray) (Y:=(r.map Ce.v).toArray) w a.toList 0 _ g r z rfl n (λk i b=>by simp[b]) (λk i b=>by simp[b]) l
 have b:(program:Sem Program).run e w=.ok e w:=rfl
 rw[b,Result.andThen_ok,ae (by simp[o]),Sem.run_bind,<-Array.forIn_toList,m]
 cases z<;>rfl
def Sb(h:UK e c=true):∃a,e.underlying c=some (.struct a)/\(∀f∈a.toList,f.name≠ "_")/\e.stoodInHeld c=false/\e.eqGuardType e.depth c=false:=by
 unfold UK at h;split at h
 .rename_i a b;simp only[bK,List.all_eq_true,vr,iL]at h;exact⟨a,b,h.1.1,h.1.2,h.2⟩
 .cases h
def Pu(h:e.eqGuardType e.depth c=false)(f g:Operand)(a b:Array Value)(w:World):(eqGuard .eql c f g (.agg a) (.agg b)).run e w=.ok () w:=by
 have d:(program:Sem Program).run e w=.ok e w:=rfl;simp only[eqGuard,Sem.run_bind];simp[d,h]
def Ms(a:BinOp)(c:TypeId)(b d:Operand)(s:O)(y:Value)(w:World):(eqGuard a c b d s.v y).run e w=.ok () w:=by
 cases s<;>cases a<;>simp[eqGuard,O.v]
def PA(m:ui e T)(d:jY n i a){z:BinOp}{D:TypeId}(b:rd T i j k (.binOp z c x y D)):oK e T i j a ⟨q,.binOp z c x y D,v,u,p,r⟩ k:=by
 simp only[rd]at b;split at b
 .rename_i L M f l;obtain⟨s,E,A,w,C⟩:=UD (e:=e) (c:=c) b;refine⟨s,E,A,w,λB _=>?_⟩;simp only[execOp,d.eq f rfl,d.eq l rfl,SV.v,Ce.v,Sem.run_bind];simp[Pv,C]
 .rename_i s f l;split at b
  .rename_i I J H A;have w:=(j9 (m.yh A)).1;have F:a.eval x=s.v:=d.eq f rfl;have G:a.eval y=.slice none 0 0:=d.eq l rfl;cases z<;>simp only[UW]at b
   all_goals
    first
    |exact b.elim
    |exact⟨_,_,b,nI _,λB _=>by
     have C:∀o:BinOp,o=.eql\/o=.neq->binOp o c s.v (.slice none 0 0)=(if o=.eql then(do pure (.bool (<-Op.equal c s.v (.slice none 0 0))))else(do pure (.bool (!(<-Op.equal c s.v (.slice none 0 0)))))):=by
      intro o E;rcases E with rfl|rfl<;>cases s<;>rfl
     simp only[execOp,F,G,Sem.run_bind,Ms,Result.andThen_ok];rw[C _ aL];simp[Jx w,SV.v,Ce.v]⟩
  .exact b.elim
 .rename_i g N f l;split at b
  .unfold eqA at b;split at b
   .rename_i G A;split at b
    .rename_i R C;obtain⟨O,w,J,K,H⟩:=Sb (m.cmp G);obtain⟨⟨Q,s,I⟩,_⟩:=mZ (m.yh A);rw[w]at s;obtain rfl:=(TypeDesc.struct.inj (jJ s));rw[<-I]at C;refine⟨_,_,b,nI _,λB _=>?_⟩;have E:a.eval x=.agg (g.map Ce.v).toArray:=d.eq f rfl;have F:a.eval y=.agg (N.map Ce.v).toArray:=d.eq l rfl;simp only[execOp,E,F,Sem.run_bind,Pu H,Result.andThen_ok,binOp,Oq m w K J C];rfl
    .exact b.elim
   .exact b.elim
  .exact b.elim
 .split at b
  .rename_i L M w f l;obtain⟨⟨h,hd,A⟩,_⟩:=nP (m.yh w);have s:h=.bool:=by
    cases h<;>simp_all [zZ]
   subst s;cases z<;>simp only[UC]at b
   all_goals
    first
    |exact b.elim
    |exact⟨_,_,b,nI _,λB _=>by
     simp only[execOp,d.Zl f,d.Zl l,Sem.run_bind,Oo,Result.andThen,binOp,QD hd];rfl⟩
  .exact b.elim
def My(d:ui e T)(l:jY n i a){s:TypeId}(b:rd T i j k (.convert s c x)):oK e T i j a ⟨q,.convert s c x,v,u,p,r⟩ k:=by
 simp only[rd]at b;split at b
 .rename_i B b1 b2 z A t w y;obtain⟨⟨h,hd,_⟩,_⟩:=nP (d.yh t);obtain⟨⟨g,m,f⟩,_⟩:=nP (d.yh w);have o:g=.int .i64:=by unfold zZ at f;split at f<;>simp_all
  subst o;exact⟨_,_,b,nI _,λC _=>by
   simp only[execOp,l.eq y rfl,SV.v,Ce.v,Sem.run_bind];simp[convert,run_underlying hd,run_underlying m,Conv.intToInt,cT]⟩
 .exact b.elim
def QN(b:jY n i a){f:UnOp}(h:rd T i j k (.unOp f c x)):oK e T i j a ⟨q,.unOp f c x,v,u,p,r⟩ k:=by
 simp only[rd]at h;generalize d:ev i x=sx at h;unfold Zs at h;split at h
 .exact⟨_,_,h,nI _,λw _=>by simp[execOp,b.eq d rfl,SV.v,Op.unary]⟩
 .exact⟨_,_,h,nI _,λw _=>by simp[execOp,b.eq d rfl,SV.v,Op.unary]⟩
 .exact⟨_,_,h,nI _,λw _=>by simp[execOp,b.eq d rfl,SV.v,Ce.v,Op.unary]⟩
 .exact⟨_,_,h,nI _,λw _=>by simp[execOp,b.eq d rfl,SV.v,Ce.v,Op.unary,Op.intArith,cT]⟩
 .exact h.elim
def Dk(l:ui e T)(L:jY n i a){mk:Nat->SV}(E:∀o,(mk o).v=.pointer (some ⟨b,o,none⟩))(J:a.eval x=.pointer (some ⟨b,o,none⟩))(h:Fx T c f o mk k):
 oK e T i j a ⟨q,.fieldAddr c x f,v,u,p,r⟩ k:=by
 unfold Fx at h
 split at h
 .rename_i N O K H
  split at h
  .rename_i M P s
   split at h
   .rename_i g I
    cases d:(g.uw||Nat.beq g.sh.length 0)
    .rw[d]at h
     simp only[br]at d
     obtain⟨⟨z,C,D⟩,_⟩:=mZ (l.yh H)
     rw[pF,<-D,cJ]at s
     obtain⟨y,A,m⟩:=Option.map_eq_some_iff.1 s
     simp only[NW]at m
     obtain⟨rfl,rfl⟩:=m
     have G:=λw=>ku l I d.1 w
     have F:g.sh.length≠0:=λt=>by rw[t]at d;simp at d
     refine⟨_,_,h,nI _,λw _=>?_⟩
     have B:z[f]? =some y:=by simpa using A
     rw[E]
     simp[execOp,Instr.fieldAt,J,run_underlying C,B,Instr.sureAddr,fieldPlace,G,F,vB]
    .rw[d]at h;exact h.elim
   .exact h.elim
  .exact h.elim
 .exact h.elim
def Jy(l:ui e T)(d:jY n i a)(h:rd T i j k (.fieldAddr c x f)):oK e T i j a ⟨q,.fieldAddr c x f,v,u,p,r⟩ k:=by
 simp only[rd]at h;split at h
 .rename_i b o g;exact Dk l d (λo=>rfl) (d.eq g rfl) h
 .rename_i m b o g;exact Dk l d (λo=>rfl) (d.eq g rfl) h
 .exact h.elim
def PC(l:ui e T)(m:jY n i a)(h:rd T i j k (.field c x f)):oK e T i j a ⟨q,.field c x f,v,u,p,r⟩ k:=by
 simp only[rd]at h;split at h
 .rename_i g C;unfold Ot at h;split at h
  .rename_i N O L K;split at h
   .rename_i M P A;split at h
    .rename_i E B;cases b:E.uw
     .rw[b]at h;obtain⟨⟨G,z,I⟩,_⟩:=mZ (l.yh K);rw[pF,<-I,cJ]at A;obtain⟨F,H,s⟩:=Option.map_eq_some_iff.1 A;simp only[NW]at s;obtain⟨rfl,rfl⟩:=s;have J:=λw=>ku l B b w;have o:=λw=>HZ l B b w;have t:G[f]? =some F:=by simpa using H
      cases d:E.agg
      .simp only[d,mG]at h;split at h
       .rename_i y D;refine⟨_,_,h,nI _,λw _=>?_⟩;rw[pF]at D;simp[execOp,Instr.field,m.eq C rfl,SV.v,run_underlying z,t,asAgg,part,o,d,D]
       .exact h.elim
      .simp only[d,mG,jG]at h;refine⟨_,_,h,nI _,λw _=>?_⟩;simp[execOp,Instr.field,m.eq C rfl,SV.v,run_underlying z,t,asAgg,part,o,d,J,List.map_drop,NV]
     .rw[b]at h;exact h.elim
    .exact h.elim
   .exact h.elim
  .exact h.elim
 .exact h.elim
def Jz(l:ui e T)(g:jY n i a)(h:rd T i j k (.indexAddr c x y)):oK e T i j a ⟨q,.indexAddr c x y,v,u,p,r⟩ k:=by
 simp only[rd]at h;split at h
 .rename_i E J C D;unfold W0 at h;split at h
  .rename_i I L G A;split at h
   .rename_i F t;cases f:F.uw
    .rw[f]at h;obtain⟨m,d,s⟩:=h;have B:=(j9 (l.yh A)).1;have z:=λw=>ku l t f w;cases E with
     |nil=>simp[O.len]at d;omega
     |zD _ _ _=>simp[O.len]at d;omega
     |mk b o K H=>
      refine⟨_,_,s,nI _,λw _=>?_⟩;simp only[O.len]at d;simp[execOp,Instr.indexAt,g.eq C rfl,g.eq D rfl,SV.v,Ce.v,O.v,asIntOf,run_underlying B,m,d,z,vB,O.D,O.off]
    .rw[f]at h;exact h.elim
   .exact h.elim
  .exact h.elim
 .exact h.elim
def PH:∀(d:List Sh)(b o a:Nat)(k:List Ce->Prop),VN j b o a d k->∃g,k g/\g.length=d.length/\∀i,i<d.length->af j b (o+a+i)=(g[i]?).map Ce.v
 |[],_,_,_,_,h=>⟨[],h,rfl,λi c=>by simp at c⟩
 |s::r,b,o,a,k,h=>by
  obtain⟨x,n,h⟩:=h;obtain⟨g,l,m,f⟩:=PH r b o (a+1) _ h;refine⟨s.mk x::g,l,by simp[m],λi c=>?_⟩;cases i with
  |zero=>simpa using n
  |succ i=>
   have:=f i (by simpa using c);have e:o+(a+1)+i=o+a+(i+1):=V;rw[e]at this;simpa using this
def mQ(B:ui e T)(S:jY n i a)(I:a.eval x=.pointer (some ⟨b,o,none⟩)){f:TI}(H:fI T c=some f)(G:f.uw=false)
 (K:∀d,d<f.sh.length->(b,o+d)∈SD T i (.load c x))(E:g.length=f.sh.length)(L:∀z,z<f.sh.length->af j b (o+z)=(g[z]?).map Ce.v)
 {s:SV}(U:s.jH=true)(O:(f.agg=true/\s.v=.agg (g.map Ce.v).toArray)\/(f.agg=false/\∃m,g=[m]/\s.v=m.v))(N:k s):
 oK e T i j a ⟨q,.load c x,v,u,p,r⟩ k:=by
 refine⟨s,s.v,N,nI _,λl R=>?_⟩
 have Q:=ku B H G l
 have C:=HZ B H G l
 have D:∀d,d<f.sh.length->af l.heap b (o+d)=(g[d]?).map Ce.v:=λd h=>by rw[R (b,o+d) (K d h),L d h]
 rcases O with⟨t,y⟩|⟨t,m,y,J⟩
 .have F:=run_loadCells_list (P:=e) (w:=l) ⟨b,o,none⟩ (g.map Ce.v) (λd V h=>by
   rw[vB,zA];have M:d<f.sh.length:=by
    rcases aW d f.sh.length with A|A
    .exact A
    .rw[cO bE]at h;simp at h
   rw[D d M,<-cJ,h])
  simp only[dY]at F
  simp only[execOp,Instr.loadAt,I,Instr.sureAddr,loadVar,Sem.run_bind,Sem.run_pure,C,t,Result.andThen_ok,Q,Mm]
  simp[<-E,F,y]
 .subst y
  have A:=D 0 (by rw[<-E];simp)
  simp at A
  simp only[execOp,Instr.loadAt,I,Instr.sureAddr,loadVar,Sem.run_bind,Sem.run_pure,C,t,Result.andThen_ok]
  simp[zA,A,J]
def Jc(C:ui e T)(B:jY n i a)(D:a.eval x=.pointer (some ⟨b,o,none⟩))
 (A:∀d f,fI T c=some d->f<d.sh.length->(b,o+f)∈SD T i (.load c x))(h:PI T j c b o k):oK e T i j a ⟨q,.load c x,v,u,p,r⟩ k:=by
 unfold PI at h
 split at h
 .rename_i H I F d
  obtain⟨g,w,G,E⟩:=PH _ _ _ _ _ h
  exact mQ C B D d rfl (λf t=>A _ f d t) G (λz m=>by simpa using E z m) (s:=.agg g) rfl (Or.inl ⟨rfl,rfl⟩) w
 .rename_i G F d
  obtain⟨y,E,w⟩:=h
  exact mQ C B D d rfl (λf t=>A _ f d t) (g:=[G.mk y]) rfl (λz m=>by
   have:z=0:=by simpa using m
   subst this;exact E) (s:=.c (G.mk y)) rfl (Or.inr ⟨rfl,_,rfl,rfl⟩) w
 .rename_i G H F d
  obtain⟨y,E,w⟩:=h
  exact mQ C B D d rfl (λf t=>A _ f d t) (g:=[.s y]) rfl (λz m=>by
   have:z=0:=by simpa using m
   subst this;exact E) (s:=.c (.s y)) rfl (Or.inr ⟨rfl,_,rfl,rfl⟩) w
 .exact h.elim
def Mb:∀{a:List Ce}{b o:Nat}{g:List Ce},Hb a o b=some g->g.length=b/\∀i,i<b->a[o+i]? =g[i]?
 |a,0,o,g,h=>by simp[Hb]at h;subst h;simp
 |a,b+1,o,g,h=>by
  simp only[Hb]at h;split at h
  .rename_i j r c f;simp at h;subst h;obtain⟨d,e⟩:=Mb f;refine⟨by simp[d],λi k=>?_⟩;cases i with
   |zero=>rw[pF]at c;simpa using c
   |succ i=>
    have:=e i V;rw[show o+(i+1)=o+1+i by omega];simpa using this
  .simp at h
def Jb(C:ui e T)(B:jY n i a){H:Nat}{G:List Ce}(E:a.eval x=.pointer (some ⟨b,o,none⟩))
 (A:∀d m,fI T c=some d->m<d.sh.length->(b,o+m)∈SD T i (.load c x))(I:j[b]? =some (.cells (G.map Ce.v).toArray H))(h:Np T c G o k):
 oK e T i j a ⟨q,.load c x,v,u,p,r⟩ k:=by
 have D:∀f,af j b f=(G[f]?).map Ce.v:=λf=>by simp[af,I]
 unfold Np at h
 split at h
 .rename_i K L F d
  split at h
  .rename_i g J
   obtain⟨t,w⟩:=Mb J
   exact mQ C B E d rfl (λm z=>A _ m d z) t (λf y=>by rw[D,w f y]) (s:=.agg g) rfl (Or.inl ⟨rfl,rfl⟩) h
  .exact h.elim
 .rename_i J F d
  split at h
  .rename_i t w
   rw[pF]at w
   exact mQ C B E d rfl (λm z=>A _ m d z) (g:=[t]) rfl (λf y=>by
    have:f=0:=by simpa using y
    subst this;rw[D];simp[w]) (s:=.c t) rfl (Or.inr ⟨rfl,_,rfl,rfl⟩) h
  .exact h.elim
 .rename_i H J F d
  split at h
  .rename_i t w
   rw[pF]at w
   exact mQ C B E d rfl (λm z=>A _ m d z) (g:=[t]) rfl (λf y=>by
    have:f=0:=by simpa using y
    subst this;rw[D];simp[w]) (s:=.c t) rfl (Or.inr ⟨rfl,_,rfl,rfl⟩) h
  .exact h.elim
 .rename_i L K J F d
  split at h
  .rename_i t w
   rw[pF]at w
   exact mQ C B E d rfl (λm z=>A _ m d z) (g:=[t]) rfl (λf y=>by
    have:f=0:=by simpa using y
    subst this;rw[D];simp[w]) (s:=.c t) rfl (Or.inr ⟨rfl,_,rfl,rfl⟩) h
  .exact h.elim
 .exact h.elim
def QL(l:ui e T)(d:jY n i a)(B:Bx n i j)(h:rd T i j k (.load c x)):oK e T i j a ⟨q,.load c x,v,u,p,r⟩ k:=by
 simp only[rd]at h;split at h
 .rename_i b o f;exact Jc l d (d.eq f rfl) (λm g A z=>by simp only[SD,f,A];exact List.mem_map.2 ⟨g,List.mem_range.2 z,rfl⟩) h
 .rename_i C b o f;have w:∀m g,fI T c=some m->g<m.sh.length->(b,o+g)∈SD T i (.load c x):=λm g A z=>by simp only[SD,f,A];exact List.mem_map.2 ⟨g,List.mem_range.2 z,rfl⟩
  split at h
  .rename_i D t s y;obtain⟨rfl,h⟩:=h;exact Jb l d (d.eq f rfl) w (B.D C _ t s (Or.inl y)) h
  .rename_i D t s y;obtain⟨rfl,h⟩:=h;exact Jb l d (d.eq f rfl) w (B.D C _ t s (Or.inr y)) h
  .exact Jc l d (d.eq f rfl) w h
 .exact h.elim
end
end Go.Vc
end
section
namespace Go.Vc
variable{x:Operand}{t:TypeId}
variable{P:Program}{T:TT}
section
variable{n:Nat}{b:Fr}{a:Act}{m:E}{k:SV->Prop}{d:Option Tmp}{g:TypeId}{f:String}{c:Array Edge}{e:Option (Nat×Bool)}
def Mz(l:jY n b a){j:Nat}(h:rd T b m k (.extract x j)):oK P T b m a ⟨d,.extract x j,g,f,c,e⟩ k:=by
 simp only[rd]at h;split at h
 .rename_i p o;split at h
  .rename_i y i;refine⟨_,_,h,nI _,λw _=>?_⟩;rw[pF]at i;rw[AV.aag];have:a.eval x=.tuple (p.map AV.v).toArray:=l.eq o rfl;simp[execOp,Instr.extract,this,i]
  .exact h.elim
 .exact h.elim
def Nz(c:jY n b a){x:Option Operand}{d:Int}{k:Int->Prop}(h:MG b x d k):
 (x=none/\k d)\/∃y i,x=some y/\a.eval y=.int .i64 i/\k i:=by
 unfold MG at h
 split at h
 .exact Or.inl ⟨rfl,h⟩
 .rename_i y
  split at h
  .rename_i i e
   exact Or.inr ⟨y,i,rfl,c.eq e rfl,h⟩
  .exact h.elim
def pJ(k:IntKind)(i:Int)(y:Nat)(c:BoundsCode)(a:0<=i)(b:i<=y)(w:World):(Instr.sliceBound (.int k i) y c).run P w=.ok i.toNat w:=by
 simp[Instr.sliceBound,asIntOf,a,b]
def Yc(b o l c a d e:Nat):(O.cut (.mk b o l c) a d e).v=.slice (if c=a then some ⟨b,o,none⟩else(some (⟨b,o,none⟩:Addr)).map (·.add (a*e))) (d -a) (c -a):=by
 show Value.slice _ _ _=_;simp only[vB,nQ];split<;>rfl
def PD(J:ui P T)(r:jY n b a){A y:Option Operand}(i:rd T b m k (.slice t x A y none)):oK P T b m a ⟨d,.slice t x A y none,g,f,c,e⟩ k:=by
 simp only[rd]at i;split at i
 .rename_i s G;unfold Q5 at i;split at i
  .rename_i v N M L;split at i
   .rename_i B K;cases D:B.uw
    .rw[D]at i;have F:=(j9 (J.yh L)).1;have E:=λw=>ku J K D w;have z:∀(l h:Int),0<=l->l<=h->h<=(s.cap:Int)->
      (∀w:World,(Instr.sliceBounds true s.len s.cap (A.map a.eval) (y.map a.eval) none).run P w=.ok (l.toNat,h.toNat,s.cap) w)->
      ∀w:World,(execOp a.eval ⟨d,.slice t x A y none,g,f,c,e⟩).run P w=.ok (.value (Ce.s (s.cut l.toNat h.toNat B.sh.length)).v) w:=by
      intro l h o p j q w
      cases s with
      |nil=>
       simp only[O.cap,O.len]at q j
       have:h=0:=V
       have:l=0:=V
       subst this;subst h
       simp[execOp,Instr.sliceAt,r.eq G rfl,SV.v,Ce.v,O.v,run_underlying F,Instr.slice,q,E,O.cut]
      |zD u C H=>
       simp only[O.cap,O.len]at q j
       have:h=0:=V
       have:l=0:=V
       subst this;subst h
       simp[execOp,Instr.sliceAt,r.eq G rfl,SV.v,Ce.v,O.v,run_underlying F,Instr.slice,q,E,O.cut]
      |mk u I H C=>
       simp only[O.cap,O.len]at q
       have v:(Ce.s ((O.mk u I H C).cut l.toNat h.toNat B.sh.length)).v=_:=Yc u I H C l.toNat h.toNat B.sh.length
       rw[v]
       have:a.eval x=.slice (some ⟨u,I,none⟩) H C:=r.eq G rfl
       simp[execOp,Instr.sliceAt,this,run_underlying F,Instr.slice,q,E]
     simp only[mG]at i;rcases Nz r i with⟨rfl,C⟩|⟨Q,l,rfl,H,C⟩<;>rcases Nz r C with⟨rfl,o,p,j,u⟩|⟨R,h,rfl,I,o,p,j,u⟩
     .exact⟨_,_,u,nI _,λw _=>z _ _ o p j (λw=>by simp[Instr.sliceBounds]) w⟩
     .exact⟨_,_,u,nI _,λw _=>z _ _ o p j (λw=>by simp[Instr.sliceBounds,I,pJ _ _ _ _ (by omega:0<=h) j]) w⟩
     .exact⟨_,_,u,nI _,λw _=>z _ _ o p j (λw=>by simp[Instr.sliceBounds,H,pJ _ _ _ _ o p]) w⟩
     .exact⟨_,_,u,nI _,λw _=>z _ _ o p j (λw=>by
       have v:l<=(h.toNat:Int):=V;simp[Instr.sliceBounds,I,H,pJ _ _ _ _ (by omega:0<=h) j,pJ _ _ _ _ o v]) w⟩
    .rw[D]at i;exact i.elim
   .exact i.elim
  .exact i.elim
 .exact i.elim
def Ky(w:ui P T)(q:jY n b a)(p:List (Nat×Nat))(jc:Nat->Option (Nat×Nat))
 (r:∀i d t f,HO p i=some (d,t)->fI T t=some f->f.uw=false->jc i=some (d,f.sh.length)):
 ∀(s:List (Nat×Operand))(c:List Ce)(k:List Ce->Prop),Fq T b p c s k->
  ∃l,k l/\Instr.fill jc (c.map Ce.v).toArray (s.map λe=>(e.1,a.eval e.2))=some (l.map Ce.v).toArray
 |[],c,k,h=>⟨c,h,rfl⟩
 |(i,x)::H,c,k,h=>by
  simp only[Fq]at h;split at h
  .rename_i d t e E D;split at h
   .rename_i f F;cases g:(!f.uw&&Nat.beq e.length f.sh.length&&Nat.ble (d+e.length) c.length)
    .rw[g]at h;exact h.elim
    .rw[g]at h;simp only[bK,iL]at g;obtain⟨⟨y,m⟩,o⟩:=g;have m:=bq m;have o:=lI o;obtain⟨l,A,C⟩:=Ky w q p jc r H (mf c d e) k h;refine⟨l,A,?_⟩;obtain⟨B,z⟩:=pw D;have G:a.eval x=(ev b x).v:=q.eq rfl B;simp only[cK,Instr.fill,r i d t f E F y,G,z,DE,dY,m];rw[ae bE,<-C];congr 1;apply BC;intro j;have u:=Nt (e.map Ce.v) 0 d (c.map Ce.v).toArray j;rw[<-aai,Zu];have v:=BQ c d e j o;rw[show((List.map Ce.v (mf c d e)).toArray)[j]? =((mf c d e)[j]?).map Ce.v by simp,v];rw[u];simp;split<;>split<;>first|rfl|(exfalso;omega)|(congr 1;omega)
   .exact h.elim
  .exact h.elim
def YF(T:TT)(t:Nat):Nat:=match fI T t with|some a=>a.sh.length|none=>0
def Ji(c:ui P T)(w:World):∀(a:List Field),(∀f∈a,∃b,fI T f.type=some b/\b.uw=false)->
 (a.mapM (λf=>do pure (f.offset,<-sizeOf f.type):Field->Sem (Nat×Nat))).run P w=.ok (a.map λf=>(f.offset,YF T f.type)) w
 |[],_=>aL
 |f::a,h=>by
  obtain⟨b,d,j⟩:=h f aL;have e:=Ji c w a (λg i=>h g (by simp[i]));simp only[Uj,Sem.run_bind,ku c d j,Result.andThen_ok,Sem.run_pure]at e⊢;rw[e];simp[YF,d]
def Jk:∀{d:List (Nat×Nat)},uX T d=true->∀p∈d,∃a,fI T p.2=some a/\a.uw=false
 |[],_,_,h=>by simp at h
 |(o,t)::r,h,p,c=>by
  simp only[uX,bK]at h;rcases List.mem_cons.1 c with rfl|c
  .have b:=h.1;split at b
   .rename_i a e;exact⟨a,e,by simpa using b⟩
   .simp at b
  .exact Jk h.2 p c
def PB(l:ui P T)(z:jY n b a){o:Array (Nat×Operand)}(i:rd T b m k (.build t o)):oK P T b m a ⟨d,.build t o,g,f,c,e⟩ k:=by
 simp only[rd]at i;split at i
 .rename_i y K M v;cases q:uX T y
  .rw[q]at i;exact i.elim
  rw[q]at i;obtain⟨⟨j,D,s⟩,_⟩:=mZ (l.yh v);obtain⟨L,I,J,Q⟩:=vU l v rfl;have A:∀h∈j.toList,∃r,fI T h.type=some r/\r.uw=false:=λh B=>
   Jk q (h.offset,h.type) (by rw[<-s];exact List.mem_map.2 ⟨h,B,rfl⟩)
  have G:∀w:World,(j.mapM (λh=>do pure (h.offset,<-sizeOf h.type):Field->Sem (Nat×Nat))).run P w=.ok (j.toList.map λh=>(h.offset,YF T h.type)).toArray w:=by
   intro w;rw[Ur,Sem.run_map,Ji l w j.toList A];rfl
  obtain⟨R,E,F⟩:=Ky l z y (λx=>((j.toList.map λh=>(h.offset,YF T h.type)).toArray)[x]?) (λx S t r u H O=>by
   rw[pF,<-s,cJ]at u;obtain⟨N,C,p⟩:=Option.map_eq_some_iff.1 u;simp only[NW]at p;obtain⟨rfl,rfl⟩:=p;simp only[lH,cJ,C,nQ,YF,H]) _ _ _ i
  refine⟨_,_,E,nI _,λw _=>?_⟩;have u:L.cells=((K.map Sh.zero).map Ce.v).toArray:=by
   apply Array.toList_inj.1;simp[I]
  have C:(o.map λp=>(p.1,a.eval p.2)).toList=o.toList.map λp=>(p.1,a.eval p.2):=aL;simp only[execOp,Instr.build,Sem.run_bind,J,Result.andThen_ok,run_underlying D,G,u,C,F];simp[SV.v]
 .exact i.elim
def BL(d:jY n b a):∀{c:List Operand},c.all (λx=>(ev b x).jH)=true->c.map a.eval=c.map λx=>(ev b x).v
 |[],_=>rfl
 |x::c,h=>by
  simp only[NU,bK]at h;simp only[cK,d.eq rfl h.1,BL d h.2]
def Mx(v:ui P T)(l:jY n b a){s:Builtin}{i:Array Operand}{r:Array TypeId}(h:rd T b m k (.call ⟨.builtin s,i,r⟩)):
 oK P T b m a ⟨d,.call ⟨.builtin s,i,r⟩,g,f,c,e⟩ k:=by
 simp only[rd]at h
 unfold Te at h
 split at h
 .rename_i t x z p
  split at h
  .rename_i D E C q y o
   refine⟨_,_,h,nI _,λw _=>?_⟩
   have A:=(j9 (v.yh y)).1
   have u:r=#[t]:=Array.toList_inj.1 (by simpa using z)
   have j:i=#[x]:=Array.toList_inj.1 (by simpa using p)
   subst u;subst j
   have B:a.eval x=q.v:=l.eq o rfl
   cases q<;>simp[execOp,resolve,invoke,builtin,Builtin.len_,run_underlying A,B,O.v,goInt,SV.v,Ce.v,O.len]
  .exact h.elim
 .rename_i x y p
  split at h
  .rename_i u z o q
   refine⟨_,_,h,nI _,λw _=>?_⟩
   have j:i=#[x,y]:=Array.toList_inj.1 (by simpa using p)
   subst j
   simp[execOp,resolve,invoke,builtin,Builtin.max_,Builtin.max2,l.eq o rfl,l.eq q rfl,SV.v,Ce.v]
  .exact h.elim
 .rename_i x y p
  split at h
  .rename_i u z o q
   refine⟨_,_,h,nI _,λw _=>?_⟩
   have j:i=#[x,y]:=Array.toList_inj.1 (by simpa using p)
   subst j
   simp[execOp,resolve,invoke,builtin,Builtin.min_,Builtin.min2,l.eq o rfl,l.eq q rfl,SV.v,Ce.v]
  .exact h.elim
 .exact h.elim
def Li(j:ui P T)(i:jY n b a)(s:Bx n b m)(o:Oper)(h:rd T b m k o.op):oK P T b m a o k:=by
 obtain⟨d,l,g,f,c,e⟩:=o;cases l with
 |move x=>exact TF i h
 |assign x=>exact Si i h
 |pick p x y=>exact QM i h
 |nilCheck x=>exact KN i h
 |binOp l t x y q=>exact PA j i h
 |unOp l t x=>exact QN i h
 |convert q t x=>exact My j i h
 |fieldAddr t x q=>exact Jy j i h
 |field t x q=>exact PC j i h
 |indexAddr t x y=>exact Jz j i h
 |load t x=>exact QL j i s h
 |extract x r=>exact Mz i h
 |slice t x u r mx=>cases mx with
  |none=>exact PD j i h
  |some y=>exact h.elim
 |build t r=>exact PB j i h
 |call p=>
  obtain⟨r,u,w⟩:=p;cases r with
  |builtin v=>exact Mx j i h
  |value q=>exact h.elim
  |invoke v q=>exact h.elim
 |_=>exact h.elim
end
end Go.Vc
end
section
namespace Go.Vc
variable{m m':E}{b o e n q:Nat}{l:List Ce}
def ah(m:E)(b o:Nat):List Ce->E
 |[]=>m
 |c::r=>ah (rh m b o c.v) b (o+1) r
def fJ(m:E)(b o n:Nat):Prop:=∀j,j<n->(af m b (o+j)).isSome=true/\vC m b (o+j)=false
def fP(m:E)(b o:Nat)(l:List Ce):Prop:=∀(i:Nat)(c:Ce),l[i]? =some c->af m b (o+i)=some c.v
def mF(a:List Ce)(n:Nat):List Ce:=(List.replicate n a).flatten
def bt(l:List Ce):Array Value:=(l.map Ce.v).toArray
def Q1(m:E)(b o:Nat)(v:Value):(rh m b o v).size=m.size:=by simp[rh]
def Lq(m:E)(b o:Nat)(v:Value){j:Nat}(h:j≠b):(rh m b o v)[j]? =m[j]? :=by
 simp only[rh,lG];rw[ae (λe=>h e.symm)]
def aw:∀(l:List Ce)(m:E)(b o:Nat),(ah m b o l).size=m.size
 |[],_,_,_=>rfl
 |c::r,m,b,o=>by simp only[ah];rw[aw r,Q1]
def bd:∀(l:List Ce)(m:E)(b o:Nat){j:Nat},j≠b->(ah m b o l)[j]? =m[j]?
 |[],_,_,_,_,_=>rfl
 |c::r,m,b,o,j,h=>by simp only[ah];rw[bd r _ _ _ h,Lq m b o _ h]
def lZ{v:Value}(h:af m b o=some v):b<m.size:=by
 rcases aW b m.size with a|a
 .exact a
 .simp[af,IY a]at h
def aJ(h:m'[b]? =m[b]?)(o:Nat):af m' b o=af m b o:=by simp only[af,h]
def cE(m:E)(b:Nat)(e:Nat)(l:List Ce):Prop:=m[b]? =some (.cells (bt l) e)
def Uc(l:List Ce)(i:Nat):(bt l)[i]? =(l[i]?).map Ce.v:=by simp[bt]
def cE.bZ(h:cE m b e l)(o:Nat):af m b o=(l[o]?).map Ce.v:=by
 have a:m[b]? =some (.cells (bt l) e (0,0)):=h;simp only[af,a,Uc]
def cE.iA(h:cE m b e l):fP m b 0 l:=λi c a=>by rw[h.bZ,bT,a];rfl
def cE.lt(h:cE m b e l):b<m.size:=(Array.getElem?_eq_some_iff.1 h).1
def cE.vC{m:E}{b e:Nat}{l:List Ce}(h:cE m b e l)(o:Nat):vC m b o=false:=by
 have a:m[b]? =some (.cells (bt l) e (0,0)):=h;simp[Vc.vC,a]
def cE.fJ(h:cE m b e l)(c:o+n<=l.length):fJ m b o n:=λj a=>by
 refine⟨?_,h.vC _⟩;rw[h.bZ];simp;omega
def cE.push(m:E)(l:List Ce)(e:Nat):cE (m.push (.cells (bt l) e)) m.size e l:=by simp[cE]
def cE.congr(a:cE m b e l)(h:m'[b]? =m[b]?):cE m' b e l:=by
 unfold cE at*;rw[h];exact a
def cE.rh{m:E}{b e:Nat}{l:List Ce}(h:cE m b e l)(o:Nat)(c:Ce):cE (rh m b o c.v) b e (l.set o c):=by
 have d:m[b]? =some (.cells (bt l) e (0,0)):=h;have f:=h.lt;simp only[cE,Vc.rh,lG,Mm,d,nQ];congr 2;apply BC;intro i;simp only[bt,Array.getElem?_setIfInBounds,lH,cJ,jD,DE,dY];by_cases e:o=i
 .subst e;by_cases a:o<l.length
  .simp[a]
  .simp[a]
 .simp[e]
def iZ(l:List Ce)(o:Nat):List Ce->List Ce
 |[]=>l
 |c::r=>iZ (l.set o c) (o+1) r
def kO:∀(r l:List Ce)(o:Nat),(iZ l o r).length=l.length
 |[],_,_=>rfl
 |c::r,l,o=>by simp only[iZ];rw[kO r];simp
def vV:∀(r l:List Ce)(o i:Nat),(iZ l o r)[i]? =if o<=i/\i<o+r.length/\i<l.length then r[i -o]? else l[i]?
 |[],l,o,i=>by simp[iZ];intro h;omega
 |c::r,l,o,i=>by
  simp only[iZ];rw[vV r,jD];simp only[dZ,aZ];by_cases b:o=i
  .subst b;by_cases a:o<l.length
   .simp[a];try omega
   .simp[a];try omega
  .by_cases a:o<=i/\i<o+(r.length+1)/\i<l.length
   .rw[an a,an V,show i -o=(i -(o+1))+1 by omega,hO]
   .rw[ae a,ae V];simp[b]
def cE.ah{m:E}{b e:Nat}:∀{r l:List Ce}{m:E}{o:Nat},cE m b e l->cE (ah m b o r) b e (iZ l o r)
 |[],_,_,_,h=>h
 |c::r,l,m,o,h=>by
  simp only[Vc.ah,iZ];exact cE.ah (m:=m) (h.rh o c)
def uV(t:Nat):List Nat->Bool
 |[]=>false
 |u::r=>Nat.beq u t||uV t r
def HL{t:Nat}:∀{M:List Nat},uV t M=true->t∈M
 |[],h=>by simp[uV]at h
 |u::r,h=>by
  simp only[uV,bQ]at h;rcases h with h|h
  .rw[bq h];exact bg
  .exact ai _ (HL h)
def Ml(n:Nat):Fr->List Nat->List Nat
 |[],_=>[]
 |(q,x)::r,a=>bif Nat.ble n q&&!uV q a then
  match x with
  | .box b _ _=>b::Ml n r (q::a)
  | .zt b _ _=>b::Ml n r (q::a)
  |_=>Ml n r (q::a)
  else Ml n r a
def eF(l:List Nat)(m m':E):Prop:=∀b∈l,m'[b]? =m[b]?
def Ae(l:List Nat)(m m':E)(k:Prop):Prop:=
 match l with
 |[]=>k
 |_=>eF l m m'/\k
def mw{l:List Nat}{k:Prop}(h:Ae l m m' k):eF l m m'/\k:=by
 unfold Ae at h;split at h
 .exact⟨(λb a=>by cases a),h⟩
 .exact h
def Hd{n:Nat}{q b e:Nat}{l:List Ce}(c:n<=q):∀{j:Fr}{a:List Nat},q∉a->lK j q b e l->b∈Ml n j a
 |[],a,_,h=>by rcases h with h|h<;>simp[ic]at h
 |(u,x)::r,a,g,h=>by
  simp only[Ml];cases f:Nat.beq u q
  .have k:u≠q:=λe=>by subst e;simp at f
   have d:lK r q b e l:=by
    unfold lK at h⊢;simpa only[ic,f,mG]using h
   have i:q∉u::a:=by
    simp only[aV,vt];exact⟨λe=>k e.symm,g⟩
   cases(Nat.ble n u&&!uV u a)
   .exact Hd c g d
   .simp only[jG];split
    .exact ai _ (Hd c i d)
    .exact ai _ (Hd c i d)
    .exact Hd c i d
  .have:=bq f;subst this;have i:uV u a=false:=by
    cases k:uV u a
    .rfl
    .exact absurd (HL k) g
   have d:Nat.ble n u=true:=XD c;simp only[i,d,Mh,Bool.and_self,jG];unfold lK at h;simp only[ic,f,jG]at h;rcases h with h|h<;>rw[h]<;>exact bg
def Bx.fS{c:Fr}(h:Bx n c m){x:SV}(i:∀b e l,x≠.box b e l/\x≠.zt b e l):Bx n ((q,x)::c) m:=by
 have d:∀{u b e l},lK ((q,x)::c) u b e l->lK c u b e l:=by
  intro u b e l a;unfold lK at a⊢;simp only[ic]at a;cases g:Nat.beq q u
  .rw[g]at a;exact a
  .rw[g]at a;rcases a with a|a
   .exact absurd a (i b e l).1
   .exact absurd a (i b e l).2
 exact⟨λq b e l f=>h.D q b e l (d f),λq t b e l j k s r o p=>h.Ok q t b e l j k s r (d o) (d p),λq b e l f=>h.key q b e l (d f)⟩
def SV.Yx(x:SV)(b e:Nat)(l:List Ce):x.nb≠.box b e l/\x.nb≠.zt b e l:=by
 cases x<;>exact⟨by simp[SV.nb],by simp[SV.nb]⟩
def Bx.put{a:Fr}(h:Bx n a m)(d:Option Nat)(x:SV):Bx n (tW a d x) m:=by
 cases d with
 |none=>exact h
 |some d=>exact h.fS (SV.Yx x)
def Bx.dv{a:Fr}(h:Bx n a m)(d:eF (Ml n a []) m m'):Bx n a m':=
 ⟨λq b e l c=>by rw[d b (Hd (h.key q b e l c) aL c)];exact h.D q b e l c,h.Ok,h.key⟩
def Bx.push{a:Fr}(h:Bx n a m)(o:Obj):Bx n a (m.push o):=
 ⟨λq b e l d=>by
  have c:=h.D q b e l d;have f:=(Array.getElem?_eq_some_iff.1 c).1;rw[mK,ae V];exact c,h.Ok,h.key⟩
def Bx.new{d:Fr}(h:Bx n d m)(x:n<=q)(t:Nat)(l:List Ce):Bx n ((q,.box m.size t l)::d) (m.push (.cells (bt l) t)):=by
 have w:=h.push (.cells (bt l) t);have p:∀{u b e l},lK d u b e l->b<m.size:=λa=>(Array.getElem?_eq_some_iff.1 (h.D _ _ _ _ a)).1;have g:∀{u b e c},lK ((q,.box m.size t l)::d) u b e c->(u=q/\b=m.size/\e=t/\c=l)\/(u≠q/\lK d u b e c):=by
  intro u b e c a;unfold lK at a⊢;simp only[ic]at a;cases f:Nat.beq q u
  .rw[f]at a;exact Or.inr ⟨λe=>by subst e;simp at f,a⟩
  .rw[f]at a;have:=bq f;subst this;rcases a with a|a
   .simp at a;exact Or.inl ⟨rfl,a.1.symm,a.2.1.symm,a.2.2.symm⟩
   .simp at a
 refine⟨λu b e c a=>?_,λu B b e z r s A o v k=>?_,λu b e c a=>?_⟩
 .rcases g a with⟨rfl,rfl,rfl,rfl⟩|⟨_,a⟩
  .simp[bt]
  .exact w.D u b e c a
 .rcases g v with⟨rfl,rfl,rfl,rfl⟩|⟨f,j⟩
  .rcases g k with⟨rfl,rfl,rfl,rfl⟩|⟨y,i⟩
   .exact absurd rfl o
   .have:=p i;omega
  .rcases g k with⟨rfl,rfl,rfl,rfl⟩|⟨y,i⟩
   .have:=p j;omega
   .exact h.Ok u B b e z r s A o j i
 .rcases g a with⟨rfl,rfl,rfl,rfl⟩|⟨_,a⟩
  .exact x
  .exact h.key u b e c a
def Bx.nX{j:Fr}(h:Bx n j m){f:List Ce}(E:ic j q=.box b e f)(o:Nat)(l:List Ce):Bx n ((q,.box b e (iZ f o l))::j) (ah m b o l):=by
 have k:lK j q b e f:=Or.inl E;have D:cE m b e f:=h.D q b e f k;have p:∀{u c d g},lK ((q,.box b e (iZ f o l))::j) u c d g->(u=q/\c=b/\d=e/\g=iZ f o l)\/(u≠q/\lK j u c d g):=by
  intro u c d g a;unfold lK at a⊢;simp only[ic]at a;cases i:Nat.beq q u
  .rw[i]at a;exact Or.inr ⟨λe=>by subst e;simp at i,a⟩
  .rw[i]at a;have:=bq i;subst this;rcases a with a|a
   .simp at a;exact Or.inl ⟨rfl,a.1.symm,a.2.1.symm,a.2.2.symm⟩
   .simp at a
 refine⟨λu c d g a=>?_,λu s b1 t A b2 v B y C x=>?_,λu c d g a=>?_⟩
 .rcases p a with⟨rfl,rfl,rfl,rfl⟩|⟨i,a⟩
  .exact cE.ah (m:=m) D
  .rw[bd l m b o (h.Ok u q c d g b e f i a k)];exact h.D u c d g a
 .rcases p C with⟨rfl,rfl,rfl,rfl⟩|⟨i,w⟩
  .rcases p x with⟨rfl,rfl,rfl,rfl⟩|⟨z,r⟩
   .exact absurd rfl y
   .exactλe=>h.Ok s u b2 v B _ _ _ z r k e.symm
  .rcases p x with⟨rfl,rfl,rfl,rfl⟩|⟨z,r⟩
   .exact h.Ok u s b1 t A _ _ _ i w k
   .exact h.Ok u s b1 t A b2 v B y w r
 .rcases p a with⟨rfl,rfl,rfl,rfl⟩|⟨_,a⟩
  .exact h.key u c d f k
  .exact h.key u c d g a
def Fv(a:Fr):List Ce->Option Fr
 |[]=>some a
 | .bp q _ _::r=>match ic a q with
  | .zt _ _ _=>none
  |_=>Fv ((q,.fS)::a) r
 |_::r=>Fv a r
def AV.UJ:AV->List Ce
 | .c x=>[x]
 | .agg l=>l
def SV.UJ:SV->List Ce
 | .c x=>[x]
 | .agg l=>l
 | .Xj l=>l.flatMap AV.UJ
 |_=>[]
def TC(a:Fr)(l:List SV):Option Fr:=Fv a (l.flatMap SV.UJ)
def ql{n:Nat}{f:Act}{m:E}:∀{l:List Ce}{a c:Fr},Fv a l=some c->jY n a f->Bx n a m->jY n c f/\Bx n c m
 |[],a,c,h,e,d=>by simp[Fv]at h;subst h;exact⟨e,d⟩
 |g::r,a,c,h,e,d=>by
  cases g with
  |bp q b o=>
   simp only[Fv]at h;split at h
   .simp at h
   .exact ql h (e.fS q) (d.fS aL)
  |_=>exact ql (l:=r) (by simpa[Fv]using h) e d
end Go.Vc
end
section
namespace Go.Vc
variable{P:Program}{T:TT}
def OD(m:E)(k:E->Prop):Prop:=k m
def jK(m:E)(f:Nat)(b:List Ce)(e:Nat)(s x:O)(k:O->E->Prop):Prop:=
 ∃a:List Ce,a.length=x.len*b.length/\fP m x.D x.off a/\
  (s.len+x.len<=s.cap->fJ m s.D (s.off+s.len*b.length) a.length/\
   k (match s with| .nil=>.nil| .mk d o l c=>.mk d o (l+x.len) c| .zD d o g=>.zD d o g) (ah m s.D (s.off+s.len*b.length) a))/\
  (s.cap<s.len+x.len->(s.len+x.len)*e<=140737488355328/\∃old:List Ce,old.length=s.len*b.length/\fP m s.D s.off old/\
   ∀c,s.len+x.len<=c->k (.mk m.size 0 (s.len+x.len) c) (m.push (.cells (bt (old++a++mF b (c -(s.len+x.len)))) f)))
def WR(m:E)(c:Nat)(s x:O)(k:SV->E->Prop):Prop:=
 ∃a:List Ce,a.length=Nat.min x.len s.len*c/\fP m x.D x.off a/\fJ m s.D s.off a.length/\
  OD (ah m s.D s.off a) λb=>k (.c (.i (Nat.min x.len s.len:Nat))) b
def Uq:List Sh->(List Ce->Prop)->Prop
 |[],k=>k []
 |s::r,k=>∃x:s.ty,Uq r λl=>k (s.mk x::l)
def Se(T:TT):List Nat->(List AV->Prop)->Prop
 |[],k=>k []
 |t::r,k=>match fI T t with
  |some ⟨.struct _,b,_⟩=>Uq b λl=>Se T r λa=>k (.agg l::a)
  |some ⟨.cell,[s],_⟩=>∃x:s.ty,Se T r λa=>k (.c (s.mk x)::a)
  |some ⟨.slice _,[_],_⟩=>∃x:O,Se T r λa=>k (.c (.s x)::a)
  |_=>False
def PR(T:TT)(t:Nat)(v:Value)(k:SV->Prop):Prop:=
 match fI T t with
 |some ⟨.tuple [],_,_⟩=>k .fS
 |some ⟨.tuple a,_,_⟩=>Se T a λl=>v=.tuple (l.map AV.v).toArray/\k (.Xj l)
 |some ⟨.struct _,a,_⟩=>Uq a λl=>v=.agg (l.map Ce.v).toArray/\k (.agg l)
 |some ⟨.cell,[s],_⟩=>∃x:s.ty,v=(s.mk x).v/\k (.c (s.mk x))
 |some ⟨.slice _,[_],_⟩=>∃x:O,v=x.v/\k (.c (.s x))
 |_=>False
def Ti(P:Program)(T:TT)(G:List Nat)(n:Nat)(a:Fr)(m:E)(e:Nat)(h:Operand)(b:List Operand)(k:Fr->SV->E->Prop):Prop:=
 match TC a (b.map (ev a))with
 |none=>False
 |some d=>match ev a h with
  | .c (.fn (.func g) first f)=>bif G.elem g&&b.all (λx=>(ev a x).jH)then
   aN P g (first.toList++(b.map λx=>(ev a x).v)++f.toList) m λv c=>Ae (Ml n d []) m c (PR T e v λx=>k d x c)
   else False
  | .c (.fv q)=>bif b.all (λx=>(ev a x).jH)then
   ∃g,q.1=.func g/\G.elem g=true/\aN P g (q.2.1.toList++(b.map λx=>(ev a x).v)++q.2.2.toList) m λv c=>Ae (Ml n d []) m c (PR T e v λx=>k d x c)
   else False
  |_=>False
def Dq(m:E)(b:Nat)(l:List (Int×Int)):Prop:=
 ∃a c,m[b]? =some (.map a c)/\a.toList.map (λe=>(e.key,e.val))=l.map λp=>(Value.int .i64 p.1,Value.int .i64 p.2)
def uW(l:List (Int×Int))(k:Int):Int:=
 match l with
 |[]=>0
 |(j,v)::r=>if k=j then v else uW r k
def JD(l:List (Int×Int))(k v:Int):List (Int×Int):=
 match l with
 |[]=>[(k,v)]
 |(j,u)::r=>if k=j then(j,v)::r else(j,u)::JD r k v
def wU(T:TT)(d:Fr)(b:Nat):List Ce->List (Nat×Operand)->(List Ce->Prop)->Prop
 |a,[],k=>k a
 |a,(i,x)::r,k=>
  match(ev d x).cells with
  |some c=>bif Nat.beq c.length b&&Nat.ble (i*b+c.length) a.length then wU T d b (mf a (i*b) c) r k else False
  |none=>False
def So(n:Nat)(b:Fr)(d:Option Nat)(m:E)(t:Nat)(l:List Ce)(k:Fr->SV->E->Prop):Prop:=
 match d with
 |some a=>match ic b (n+a)with
  | .zt _ _ _=>False
  |_=>OD (m.push (.cells (bt l) t)) λc=>k ((n+a,.box m.size t l)::b) (.c (.bp (n+a) m.size 0)) c
 |none=>OD (m.push (.cells (bt l) t)) λc=>k b (.c (.p m.size 0)) c
def OR(n:Nat)(c:Fr)(m:E)(x:SV)(l:List Ce)(k:Fr->SV->E->Prop):Prop:=
 match x with
 | .c (.p b o)=>fJ m b o l.length/\OD (ah m b o l) λa=>Ae (Ml n c []) m a (k c .un a)
 | .c (.bp q b o)=>match ic c q with
  | .box d f e=>bif Nat.ble (o+l.length) e.length then Mt d b (OD (ah m b o l) λa=>k ((q,.box d f (iZ e o l))::c) .un a)else False
  | .zt _ _ _=>False
  |_=>fJ m b o l.length/\OD (ah m b o l) λa=>Ae (Ml n c []) m a (k c .un a)
 |_=>False
def wr(P:Program)(T:TT)(G:List Nat)(n:Nat)(a:Fr)(m:E)(h:Option Nat)(o:Nat)(k:Fr->SV->E->Prop):Op->Prop
 | .alloc t=>match fI T t with
  |some f=>bif f.uw then False else So n a h m t (f.sh.map Sh.zero) k
  |none=>False
 | .box t x=>match(ev a x).cells with
  |some l=>match Fv a l with
   |some d=>So n d h m t l k
   |none=>False
  |none=>False
 | .buildSlice t g i=>match fI T t with
  |some ⟨.slice e,_,_⟩=>match fI T e with
   |some c=>bif c.uw||!(Nat.ble (g*c.sh.length) 16777216)then False else
    wU T a c.sh.length (mF (c.sh.map Sh.zero) g) i.toList λl=>match Fv a l with
     |some d=>OD (m.push (.cells (bt l) e)) λb=>k d (.c (.s (.mk m.size 0 g g))) b
     |none=>False
   |none=>False
  |_=>False
 | .store t x y=>match(ev a y).cells,fI T t with
  |some l,some f=>bif f.uw||!(Nat.beq l.length f.sh.length)then False else match Fv a l with
   |some d=>OR n d m (ev a x) l k
   |none=>False
  |_,_=>False
 | .makeSlice t x y=>match fI T t,ev a x,ev a y with
  |some ⟨.slice e,_,_⟩,.c (.i l),.c (.i f)=>match fI T e with
   |some c=>bif c.uw then False else 0<=l/\l<=f/\(c.bytes:Int)*f<=281474976710656/\f<=9223372036854775807/\
    OD (m.push (.cells (bt (mF (c.sh.map Sh.zero) f.toNat)) e)) λb=>k a (.c (.s (.mk m.size 0 l.toNat f.toNat))) b
   |none=>False
  |_,_,_=>False
 | .makeFunc g first f=>bif first.toList.all (λx=>(ev a x).jH)&&f.toList.all (λx=>(ev a x).jH)then
  match TC a (first.toList.map (ev a)++f.toList.map (ev a))with
  |some d=>k d (.c (.fn g (first.toList.map λx=>(ev a x).v).toArray (f.toList.map λx=>(ev a x).v).toArray)) m
  |none=>False
  else False
 | .makeMap _ none=>OD (m.push (.map #[] 0)) λb=>k a (.c (.mp m.size)) b
 | .lookup t x y false=>match fI T t,ev a x,ev a y with
  |some ⟨.map f g,_,_⟩,.c (.mp d),.c (.i n)=>match fI T f,fI T g with
   |some ⟨.cell,[.I],_⟩,some ⟨.cell,[.I],_⟩=>∃l,Dq m d l/\k a (.c (.i (uW l n))) m
   |_,_=>False
  |_,_,_=>False
 | .mapUpdate t x y z=>match fI T t,ev a x,ev a y,ev a z with
  |some ⟨.map f _,_,_⟩,.c (.mp d),.c (.i g),.c (.i v)=>match fI T f with
   |some ⟨.cell,[.I],_⟩=>∃l,Dq m d l/\∀b,Dq b d (JD l g v)->b.size=m.size->(∀j,j≠d->b[j]? =m[j]?)->Ae (Ml n a []) m b (k a .un b)
   |_=>False
  |_,_,_,_=>False
 | .call ⟨.value f,d,_⟩=>Ti P T G n a m o f d.toList k
 | .call ⟨.builtin .append,d,f⟩=>match d.toList,f.toList with
  |[x,y],[t,u]=>match fI T t,fI T u,ev a x,ev a y with
   |some ⟨.slice e,_,_⟩,some ⟨.slice _,_,_⟩,.c (.s s),.c (.s z)=>match fI T e with
    |some c=>bif c.uw||Nat.beq c.bytes 0 then False else jK m e (c.sh.map Sh.zero) c.bytes s z λr b=>Ae (Ml n a []) m b (k a (.c (.s r)) b)
    |none=>False
   |_,_,_,_=>False
  |_,_=>False
 | .call ⟨.builtin .copy,d,f⟩=>match d.toList,f.toList with
  |[x,y],t::_=>match fI T t,ev a x,ev a y with
   |some ⟨.slice e,_,_⟩,.c (.s s),.c (.s z)=>match fI T e with
    |some c=>bif c.uw then False else WR m c.sh.length s z λx b=>Ae (Ml n a []) m b (k a x b)
    |none=>False
   |_,_,_=>False
  |_,_=>False
 |_=>False
def Hw(P:Program)(g:Nat):Bool:=
 match P.funcs[g]? with
 |some a=>!(a.name== "runtime.NumGoroutine")&&a.body.isSome
 |none=>false
def Uw(P:Program)(G:List Nat):Prop:=G.all (Hw P)=true
def Qg(a:List Ce):∀(n i:Nat),i<n*a.length->(mF a n)[i]? =a[i%a.length]?
 |0,i,h=>by simp at h
 |n+1,i,h=>by
  have c:0<a.length:=by
   rcases jX a.length with e|e
   .rw[e]at h;simp at h
   .exact e
  have e:mF a (n+1)=a++mF a n:=by simp[mF,qJ]
  rw[e,List.getElem?_append];split
  .rename_i b;rw[Nat.mod_eq_of_lt b]
  .rename_i b;rw[Qg a n (i -a.length) (by rw[gL,Nat.one_mul]at h;omega)];congr 1;rw[Nat.mod_eq_sub_mod (by omega:i>=a.length)]
def rD(a:List Ce)(n:Nat):(mF a n).length=n*a.length:=by
 simp[mF]
def IW(a:List Ce)(z:Array Value)(d:z.toList=a.map Ce.v)(n:Nat):
 (Array.range (n*a.length)).map (λi=>z[i%z.size]!)=bt (mF a n):=by
 apply BC
 intro i
 have j:z.size=a.length:=by rw[<-Zt,d];simp
 by_cases b:i<n*a.length
 .have f:=Qg a n i b
  have h:0<a.length:=by
   rcases jX a.length with e|e
   .rw[e]at b;simp at b
   .exact e
  have g:i%a.length<a.length:=Nat.mod_lt _ h
  have c:(bt (mF a n))[i]? =((mF a n)[i]?).map Ce.v:=by simp[bt]
  rw[c,f,<-cJ,<-d]
  simp[b,j,g]
 .have c:(bt (mF a n))[i]? =none:=by simp[bt,rD];omega
  rw[c]
  simp[b]
end Go.Vc
end
section
namespace Go.Vc
variable{c:SV}{l:List Ce}{t:TypeId}
variable{d:Program}{T:TT}{G:List Nat}
def Ce.UX(c:Ce):c.v.oneCell'=true:=by
 cases c with
 |s y=>cases y<;>rfl
 |_=>rfl
def kV:∀(l:List Ce)(w:World)(b o:Nat),(w.setCells b o (l.map Ce.v)).heap=ah w.heap b o l
 |[],_,_,_=>rfl
 |c::r,w,b,o=>by
  simp only[cK,World.setCells,ah];rw[kV r,OI]
def qS:∀(l:List Value)(w:World)(a o:Nat),ph w (w.setCells a o l)
 |[],w,_,_=>ph.az w
 |c::r,w,a,o=>by
  simp only[World.setCells];exact ph.trans (b:=w.setCell ⟨a,o,none⟩ c) ⟨rfl,rfl,rfl⟩ (qS r _ a (o+1))
def Ed(l:List Ce)(b o:Nat)(w:World)(h:fJ w.heap b o l.length):
 (storeCells ⟨b,o,none⟩ (l.map Ce.v)).run d w=.ok () (w.setCells b o (l.map Ce.v)):=by
 have:=run_storeCells_cells (P:=d) b o (l.map Ce.v) 0 w
  (λj a=>by have:=(h j (by simpa using a)).1;rw[zA];simpa using this)
  (λj a=>by have:=(h j (by simpa using a)).2;rw[QI];simpa using this)
  (λv a=>by obtain⟨c,_,rfl⟩:=List.mem_map.1 a;exact c.UX)
 simpa using this
def PV(l:List Ce)(b o:Nat)(a:World)(h:fP a.heap b o l):(loadCells ⟨b,o,none⟩ l.length).run d a=.ok (bt l) a:=by
 have:=run_loadCells_list (P:=d) (w:=a) ⟨b,o,none⟩ (l.map Ce.v) (λj v c=>by
  rw[vB,zA];rw[cJ]at c;obtain⟨e,f,rfl⟩:=Option.map_eq_some_iff.1 c;exact h j e f)
 simpa[bt]using this
section
variable{n:Nat}{b:Fr}{a:Act}{m:E}{k:Fr->SV->E->Prop}{e:Option Tmp}{f:TypeId}{i:String}{g:Array Edge}{h:Option (Nat×Bool)}
def Ff(d:Program)(n:Nat)(a:Act)(m:E)(o:Oper)(k:Fr->SV->E->Prop):Prop:=
 ∀(w:World),w.heap=m->∀(f:Act->World->Prop)(Q:Exit->Act->World->Prop),
  (∀e c v b,k e c b.heap->jY n e a->Bx n e b.heap->c.Is v->ph w b->f (a.put o.dst v) b)->o.wp d a w f Q
def jL{o:Oper}{e:Fr}{v:Value}{w b:World}(h:jY n e a)(g:Bx n e b.heap)(p:c.Is v)(m:ph w b)(i:k e c b.heap)(l:(execOp a.eval o).run d w=.ok (.value v) b)
 {f:Act->World->Prop}{Q:Exit->Act->World->Prop}(j:∀e c v b,k e c b.heap->jY n e a->Bx n e b.heap->c.Is v->ph w b->f (a.put o.dst v) b):o.wp d a w f Q:=by
 unfold Oper.wp
 rw[l]
 exact j e c v b i h g p m
def Nw{i:Option Nat}{t:Nat}(g:jY n b a)(f:Bx n b m)(h:So n b i m t l k):
 ∃d c,jY n d a/\Bx n d (m.push (.cells (bt l) t))/\c.Is (.pointer (some ⟨m.size,0,none⟩))/\k d c (m.push (.cells (bt l) t)):=by
 unfold So at h
 split at h
 .split at h
  .exact h.elim
  .rename_i e _ j
   exact⟨(n+e,.box m.size t l)::b,.c (.bp (n+e) m.size 0),g.cons _ (λ_=>trivial),f.new (Nat.le_add_right _ _) t l,rfl,h⟩
 .exact⟨b,.c (.p m.size 0),g,f.push _,rfl,h⟩
def P6(s:jY n b a)(g:Bx n b m)(h:OR n b m c l k):
 ∃p d o,jY n p a/\Bx n p (ah m d o l)/\(∀v,c.Is v->v=.pointer (some ⟨d,o,none⟩))/\fJ m d o l.length/\k p .un (ah m d o l):=by
 unfold OR at h
 split at h
 .obtain⟨q,r⟩:=mw h.2
  exact⟨_,_,_,s,g.dv q,λv e=>e,h.1,r⟩
 .split at h
  .rename_i w d o _ i j f u
   cases t:Nat.ble (o+l.length) f.length
   .rw[t]at h;exact h.elim
   .rw[t]at h
    obtain⟨rfl,h⟩:=h
    have x:cE m i j f:=g.D w i j f (Or.inl u)
    exact⟨(w,.box i j (iZ f o l))::b,_,_,s.cons _ (λ_=>trivial),g.nX u o l,λv e=>e,x.fJ (lI t),h⟩
  .exact h.elim
  .obtain⟨q,r⟩:=mw h.2
   exact⟨_,_,_,s,g.dv q,λv e=>e,h.1,r⟩
 .exact h.elim
def Qz(y:ui d T)(s:jY n b a)(q:Bx n b m)(j:wr d T G n b m e f k (.alloc t)):Ff d n a m ⟨e,.alloc t,f,i,g,h⟩ k:=by
 intro l D L Q B
 subst D;simp only[wr]at j;split at j
 .rename_i p C;cases o:p.uw
  .rw[o]at j;obtain⟨I,F,H,K⟩:=vU y C o;have z:I.cells=bt (p.sh.map Sh.zero):=by apply Array.toList_inj.1;simp[F,bt]
   obtain⟨J,c,u,r,E,A⟩:=Nw s q j;refine jL (w:=l) (c:=c) (v:=.pointer (some ⟨l.heap.size,0,none⟩)) (b:={l with heap:=l.heap.push (.cells (bt (p.sh.map Sh.zero)) t)}) u r E ⟨rfl,rfl,rfl⟩ A ?_ B;simp[execOp,Instr.alloc,H,newVar,newRow,z]
  .rw[o]at j;exact j.elim
 .exact j.elim
def Tn(p:jY n b a)(q:Bx n b m){c:Operand}(j:wr d T G n b m e f k (.box t c)):Ff d n a m ⟨e,.box t c,f,i,g,h⟩ k:=by
 intro o F L Q E
 subst F;simp only[wr]at j;split at j
 .rename_i l D;split at j
  .rename_i K A;obtain⟨y,s⟩:=ql A p q;obtain⟨B,z⟩:=pw D;obtain⟨J,I,u,r,H,C⟩:=Nw y s j;refine jL (w:=o) (c:=I) (v:=.pointer (some ⟨o.heap.size,0,none⟩)) (b:={o with heap:=o.heap.push (.cells (bt l) t)}) u r H ⟨rfl,rfl,rfl⟩ C ?_ E;simp[execOp,Instr.box,newVar,newRow,p.eq rfl B,z,bt]
  .exact j.elim
 .exact j.elim
def Mq(q:jY n b a)(y:Bx n b m){o:Fn}{first l:Array Operand}(j:wr d T G n b m e f k (.makeFunc o first l)):Ff d n a m ⟨e,.makeFunc o first l,f,i,g,h⟩ k:=by
 intro r D F Q C
 subst D;simp only[wr]at j;cases p:(first.toList.all (λc=>(ev b c).jH)&&l.toList.all (λc=>(ev b c).jH))
 .rw[p]at j;exact j.elim
 .rw[p]at j;simp only[bK]at p;obtain⟨u,x⟩:=p;have s:(first.toList.map λc=>(ev b c).v).toArray=first.map a.eval:=by
   apply Array.toList_inj.1;simp[BL q u]
  have t:(l.toList.map λc=>(ev b c).v).toArray=l.map a.eval:=by
   apply Array.toList_inj.1;simp[BL q x]
  simp only[jG]at j;split at j
  .rename_i E B;obtain⟨A,z⟩:=ql B q y;refine jL (w:=r) (b:=r) A z (v:=.func o (first.map a.eval) (l.map a.eval)) ?_ (ph.az r) j ?_ C
   .show Value.func o (first.map a.eval) (l.map a.eval)=Value.func o _ _;rw[s,t]
   .simp[execOp,Instr.makeFunc]
  .exact j.elim
def Jp(p:jY n b a)(e:Nat):
 ∀(q:List (Nat×Operand))(d:List Ce)(k:List Ce->Prop),wU T b e d q k->
  ∃l,k l/\Instr.fill (λi=>some (i*e,e)) (d.map Ce.v).toArray (q.map λf=>(f.1,a.eval f.2))=some (l.map Ce.v).toArray
 |[],d,k,h=>⟨d,h,rfl⟩
 |(i,c)::z,d,k,h=>by
  simp only[wU]at h;split at h
  .rename_i f x;cases g:(Nat.beq f.length e&&Nat.ble (i*e+f.length) d.length)
   .rw[g]at h;exact h.elim
   .rw[g]at h;simp only[bK]at g;obtain⟨m,o⟩:=g;have m:=bq m;have o:=lI o;obtain⟨l,u,w⟩:=Jp p e z (mf d (i*e) f) k h;refine⟨l,u,?_⟩;obtain⟨v,t⟩:=pw x;have y:a.eval c=(ev b c).v:=p.eq rfl v;simp only[cK,Instr.fill,y,t,DE,dY,m];rw[ae bE,<-w];congr 1;apply BC;intro j;have r:=Nt (f.map Ce.v) 0 (i*e) (d.map Ce.v).toArray j;rw[<-aai,Zu];have s:=BQ d (i*e) f j o;rw[show((List.map Ce.v (mf d (i*e) f)).toArray)[j]? =((mf d (i*e) f)[j]?).map Ce.v by simp,s];rw[r];simp;split<;>split<;>first|rfl|(exfalso;omega)|(congr 1;omega)
  .exact h.elim
def Jw(B:ui d T)(D:jY n b a)(N:Bx n b m){j:Nat}{z:Array (Nat×Operand)}(o:wr d T G n b m e f k (.buildSlice t j z)):Ff d n a m ⟨e,.buildSlice t j z,f,i,g,h⟩ k:=by
 intro q U ad Z Q
 subst U;simp only[wr]at o;split at o
 .rename_i L sh aa S;split at o
  .rename_i p H;cases r:(p.uw||!(Nat.ble (j*p.sh.length) 16777216))
   .rw[r]at o;simp only[br,aaj]at r;have ab:=lI r.2;have I:=(j9 (B.yh S)).1;obtain⟨K,W,X,ac⟩:=vU B H r.1;have F:=λq=>ku B H r.1 q;obtain⟨l,y,s⟩:=Jp D _ _ _ _ o;cases C:Fv b l with
    |none=>rw[C]at y;exact y.elim
    |some u=>
    rw[C]at y;obtain⟨P,O⟩:=ql C D N;refine jL (w:=q) (c:=.c (.s (.mk q.heap.size 0 j j))) (v:=.slice (some ⟨q.heap.size,0,none⟩) j j) (b:={q with heap:=q.heap.push (.cells (bt l) L)}) P (O.push _) rfl ⟨rfl,rfl,rfl⟩ y ?_ Q;have E:(z.map λu=>(u.1,a.eval u.2)).toList=z.toList.map λu=>(u.1,a.eval u.2):=aL;have Y:K.cells.toList=(p.sh.map Sh.zero).map Ce.v:=by simp[W]
    have J:(p.sh.map Sh.zero).length=p.sh.length:=aL;have jt:=IW (p.sh.map Sh.zero) K.cells Y j;rw[J]at jt;by_cases A:j*p.sh.length=0
    .have R:mF (p.sh.map Sh.zero) j=[]:=by
      apply List.length_eq_zero_iff.1;rw[rD,J,A]
     rw[R]at s;simp only[execOp,Instr.buildSlice,Sem.run_bind,run_underlying I,Result.andThen_ok,F,A];simp only[E];have M:(Array.map (λc=>(default:Value)) (Array.range 0))=#[]:=aL;simp at s⊢;rw[M,s];simp[newRow,bt]
    .simp only[execOp,Instr.buildSlice,Sem.run_bind,run_underlying I,Result.andThen_ok,F,A,rG];have:¬(j*p.sh.length>2^24):=V;simp only[this,rG,X,Sem.run_bind,Sem.run_pure,Result.andThen_ok,E];rw[jt];simp only[bt]at s⊢;simp[s,newRow]
   .rw[r]at o;exact o.elim
  .exact o.elim
 .exact o.elim
def QA(C:ui d T)(q:jY n b a)(v:Bx n b m){c y:Operand}(j:wr d T G n b m e f k (.store t c y)):Ff d n a m ⟨e,.store t c y,f,i,g,h⟩ k:=by
 intro w R Y W K
 subst R;simp only[wr]at j;split at j
 .rename_i l s I Q;cases o:(s.uw||!(Nat.beq l.length s.sh.length))
  .rw[o]at j;simp only[mG]at j;simp only[br,aaj]at o;split at j
   .rename_i X E;obtain⟨B,z⟩:=ql E q v;obtain⟨u,p,r,A,x,S,L,F⟩:=P6 B z j;have J:=bq o.2;obtain⟨H,D⟩:=pw I;have O:=λw=>ku C Q o.1 w;unfold Oper.wp;have M:(execOp a.eval ⟨e,.store t c y,f,i,g,h⟩).run d w=.ok .skip (w.setCells p r (l.map Ce.v)):=by
     have N:=Ed (d:=d) l p r w L;have U:a.eval c=.pointer (some ⟨p,r,none⟩):=S _ (q.ev c);have V:(a.eval y).cells=(l.map Ce.v).toArray:=by rw[q.eq rfl H,D]
     simp only[execOp,Instr.storeAt,U,Instr.sureAddr,storeVar,Sem.run_bind,Sem.run_pure,Result.andThen_ok,O,V,DE,dY,J];simp[N]
    rw[M];exact K u .un undef _ (by rw[kV];exact F) A (by rw[kV];exact x) rfl (qS _ _ _ _)
   .exact j.elim
  .rw[o]at j;exact j.elim
 .exact j.elim
end
end Go.Vc
end
section
namespace Go.Vc
variable{b y f:Operand}{t:TypeId}{e:Array TypeId}
variable{c:Program}{T:TT}{G:List Nat}
section
variable{n:Nat}{g:Fr}{a:Act}{m:E}{k:Fr->SV->E->Prop}{i:Option Tmp}{h:TypeId}{o:String}{j:Array Edge}{l:Option (Nat×Bool)}
def OY{b:Int}(e: -9223372036854775808<=b)(f:b<=9223372036854775807):IntKind.i64.wrap b=b:=by
 have a:((2:Int)^IntKind.i64.bits)=18446744073709551616:=bh;have c:((2:Int)^(IntKind.i64.bits -1))=9223372036854775808:=bh;have d:IntKind.i64.signed=true:=rfl;simp only[IntKind.wrap,a,c,d,NS,ar];split<;>omega
def aQ{b:Int}(a: -9223372036854775808<=b)(c:b<=9223372036854775807):cT b=b:=OY a c
def KF(s:ui c T)(u:jY n g a)(F:Bx n g m)(e:wr c T G n g m i h k (.makeSlice t b y)):Ff c n a m ⟨i,.makeSlice t b y,h,o,j,l⟩ k:=by
 intro q U ah ad J
 subst U;simp only[wr]at e;split at e
 .rename_i D sh ae p d Q Y hy;split at e
  .rename_i f z;cases r:f.uw
   .rw[r]at e;obtain⟨h0,h1,h2,h3,I⟩:=e;have S:=(j9 (s.yh Q)).1;obtain⟨C,hz,ab,ag⟩:=vU s z r;obtain⟨ti,H,af,R,_⟩:=Gd s z r;have P:=λq=>ku s z r q;refine jL (w:=q) (c:=.c (.s (.mk q.heap.size 0 p.toNat d.toNat))) (v:=.slice (some ⟨q.heap.size,0,none⟩) p.toNat d.toNat) (b:={q with heap:=q.heap.push (.cells (bt (mF (f.sh.map Sh.zero) d.toNat)) D)}) u (F.push _) rfl ⟨rfl,rfl,rfl⟩ I ?_ J;have ac:C.cells.toList=(f.sh.map Sh.zero).map Ce.v:=by simp[hz]
    have B:(f.sh.map Sh.zero).length=f.sh.length:=aL;have jt:=IW (f.sh.map Sh.zero) C.cells ac d.toNat;rw[B]at jt;have Z:a.eval b=.int .i64 p:=u.eq Y rfl;have aa:a.eval y=.int .i64 d:=u.eq hy rfl;have X:IntKind.i64.wrap p=p:=OY V V;have W:IntKind.i64.wrap d=d:=OY V V;have K:¬d<0:=V;have L:¬((f.bytes:Int)*d>2^48):=by
     have:(2:Int)^48=281474976710656:=bh;omega
    have M:¬p<0:=V;have N:¬p>d:=V;simp only[execOp,Instr.makeSlice,Sem.run_bind,run_underlying S,Result.andThen_ok,asInt,asIntOf,Z,aa,Sem.run_pure,R,X,W,H];simp only[K,L,M,N,decide_false,Vk,ji,rG];simp only[Sem.run_bind,Sem.run_pure,Result.andThen_ok,run_askRoom,P];by_cases A:d.toNat*f.sh.length=0
    .have O:mF (f.sh.map Sh.zero) d.toNat=[]:=by
      apply List.length_eq_zero_iff.1;rw[rD,B,A]
     rw[O];have E:(Array.map (λb=>(default:Value)) (Array.range 0))=#[]:=aL;simp[A,newRow,bt];rw[E]
    .simp only[A,rG,Sem.run_bind,ab,Result.andThen_ok,Sem.run_pure];rw[jt];simp[newRow]
   .rw[r]at e;exact e.elim
  .exact e.elim
 .exact e.elim
def KI:∀{c:List Sh}{k:List Ce->Prop},Uq c k->∃l,k l
 |[],_,h=>⟨_,h⟩
 |_::_,_,⟨b,h⟩=>let⟨_,a⟩:=KI h;⟨_,a⟩
def Fw:∀{e:List Nat}{k:List AV->Prop},Se T e k->∃l,k l
 |[],_,h=>⟨_,h⟩
 |t::e,k,h=>by
  simp only[Se]at h;split at h
  .obtain⟨l,c⟩:=KI h;obtain⟨d,a⟩:=Fw c;exact⟨_,a⟩
  .obtain⟨b,c⟩:=h;obtain⟨d,a⟩:=Fw c;exact⟨_,a⟩
  .obtain⟨b,c⟩:=h;obtain⟨d,a⟩:=Fw c;exact⟨_,a⟩
  .exact h.elim
def Ss{t:Nat}{v:Value}{k:SV->Prop}(h:PR T t v k):∃b:SV,b.Is v/\k b:=by
 unfold PR at h;split at h
 .exact⟨.fS,trivial,h⟩
 .obtain⟨l,c,a⟩:=Fw h;exact⟨.Xj l,c,a⟩
 .obtain⟨l,c,a⟩:=KI h;exact⟨.agg l,c,a⟩
 .rename_i s _ _;obtain⟨b,c,a⟩:=h;exact⟨.c (s.mk b),c,a⟩
 .obtain⟨b,c,a⟩:=h;exact⟨.c (.s b),c,a⟩
 .exact h.elim
def KE(z:Uw c G)(A:jY n g a){q:Fr}(B:jY n q a)(y:Bx n q m){d:Array Operand}{p:Nat}{first s:Array Value}(E:a.eval f=.func (.func p) first s)
 (H:G.elem p=true)(J:d.toList.all (λb=>(ev g b).jH)=true)
 (x:aN c p (first.toList++(d.toList.map λb=>(ev g b).v)++s.toList) m λv r=>Ae (Ml n q []) m r (PR T h v λb=>k q b r)):
 Ff c n a m ⟨i,.call ⟨.value f,d,e⟩,h,o,j,l⟩ k:=by
 intro w O V R K
 subst O
 have r:Hw c p=true:=List.all_eq_true.1 z p (by simpa using H)
 have C:d.map a.eval=(d.toList.map λb=>(ev g b).v).toArray:=by
  apply Array.toList_inj.1;simp[<-BL A J]
 unfold Hw at r
 split at r
 .rename_i u F
  simp only[bK,iL]at r
  have D:u.body.isNone=false:=by cases U:u.body<;>simp_all
  have L:(execOp a.eval ⟨i,.call ⟨.value f,d,e⟩,h,o,j,l⟩).run c w=
   .ok (.enter p (first.toList++(d.toList.map λb=>(ev g b).v)++s.toList).toArray) w:=by
   simp only[execOp,resolve,E,C,Deferred.ofValue,Sem.run_bind,Sem.run_pure,Result.andThen_ok,invoke,callFunc,run_program,F,r.1,D,ji,rG]
   simp
  unfold Oper.wp
  rw[L]
  show Calls c p _ w _
  refine(x w rfl).mono ?_
  rintro S Q ⟨v,rfl,M,t⟩
  obtain⟨N,t⟩:=mw t
  obtain⟨b,P,I⟩:=Ss t
  exact K q b v Q I B (y.dv N) P M
 .simp at r
def Sc(v:Uw c G)(q:jY n g a)(y:Bx n g m){r:Array Operand}(d:wr c T G n g m i h k (.call ⟨.value f,r,e⟩)):Ff c n a m ⟨i,.call ⟨.value f,r,e⟩,h,o,j,l⟩ k:=by
 simp only[wr,Ti]at d;split at d
 .exact d.elim
 rename_i D z;obtain⟨w,u⟩:=ql z q y;split at d
 .rename_i s first x t
  cases p:(G.elem s&&r.toList.all (λb=>(ev g b).jH))
  .rw[p]at d;exact d.elim
  .rw[p]at d;simp only[bK]at p;exact KE v q w u (q.eq t rfl) p.1 p.2 d
 .rename_i x t;cases p:(r.toList.all (λb=>(ev g b).jH))
  .rw[p]at d;exact d.elim
  .rw[p]at d;obtain⟨s,A,B,d⟩:=d;have C:a.eval f=.func (.func s) x.2.1 x.2.2:=by
    rw[<-A];exact q.eq t rfl
   exact KE v q w u C B p d
 .exact d.elim
def sA(a:c.underlying t=some (.int .i64))(e:Bool)(b:Int)(w:World):(Instr.checkKey e 10000 t (.int .i64 b)).run c w=.ok () w:=by
 have:Instr.checkKey e 10000 t (.int .i64 b)=Instr.checkKey e (9999+1) t (.int .i64 b):=rfl;rw[this];generalize 9999=d;simp[Instr.checkKey,run_underlying a]
def zE(b:Int):∀(a:List MapEntry)(l:List (Int×Int))(i:Nat),a.map (λe=>(e.key,e.val))=l.map (λp=>(Value.int .i64 p.1,Value.int .i64 p.2))->
 (Instr.findNow (.int .i64) (.int .i64 b) a i=some none/\uW l b=0/\(∀v,JD l b v=l++[(b,v)]))\/
 ∃j u,Instr.findNow (.int .i64) (.int .i64 b) a i=some (some (i+j,.int .i64 u))/\uW l b=u/\j<a.length/\l[j]? =some (b,u)/\∀v,JD l b v=l.set j (b,v)
 |[],[],i,_=>Or.inl ⟨rfl,rfl,λv=>rfl⟩
 |[],_::_,i,h=>by simp at h
 |_::_,[],i,h=>by simp at h
 |e::a,(j,u)::l,i,h=>by
  simp only[cK,List.cons.injEq,NW]at h;obtain⟨⟨r,s⟩,h⟩:=h;have k:Instr.sameNow (.int .i64) (.int .i64 b) e.key=some (b==j):=by rw[r];simp[Instr.sameNow]
  by_cases c:b=j
  .subst c;refine Or.inr ⟨0,u,?_,?_,aL,aL,?_⟩
   .simp[Instr.findNow,k,s]
   .simp[uW]
   .intro v;simp[JD]
  .have m:(b==j)=false:=by simpa using c
   rcases zE b a l (i+1) h with⟨d,f,g⟩|⟨q,t,d,f,g,o,p⟩
   .refine Or.inl ⟨?_,?_,?_⟩
    .simp[Instr.findNow,k,m,d]
    .simp[uW,c,f]
    .intro v;simp[JD,c,g]
   .refine Or.inr ⟨q+1,t,?_,?_,by simpa using g,by simpa using o,?_⟩
    .have n:i+1+q=i+(q+1):=V;simp[Instr.findNow,k,m,d,n]
    .simp[uW,c,f]
    .intro v;simp[JD,c,p]
def Ol(f:jY n g a)(e:Bx n g m){r:Option Operand}(d:wr c T G n g m i h k (.makeMap t r)):Ff c n a m ⟨i,.makeMap t r,h,o,j,l⟩ k:=by
 intro b q s Q p
 subst q;cases r with
 |some r=>exact d.elim
 |none=>
  refine jL (w:=b) (c:=.c (.mp b.heap.size)) (v:=.map (some b.heap.size)) (b:={b with heap:=b.heap.push (.map #[] 0)}) f (e.push _) rfl ⟨rfl,rfl,rfl⟩ d ?_ p;simp[execOp,Instr.makeMap]
def Pr(s:ui c T)(r:jY n g a)(L:Bx n g m){z:Bool}(d:wr c T G n g m i h k (.lookup t b y z)):Ff c n a m ⟨i,.lookup t b y z,h,o,j,l⟩ k:=by
 intro e W ag ad S
 subst W;cases z with
 |true=>exact d.elim
 |false=>
  simp only[wr]at d;split at d
  .rename_i kt et sh ae B f V X Y;split at d
   .rename_i b1 b2 R P;obtain⟨u,⟨C,J,O,N⟩,Q⟩:=d;have F:=(BY (s.yh V)).1;obtain⟨⟨K,hd,E⟩,_⟩:=nP (s.yh R);have M:K=.int .i64:=by
     unfold zZ at E;split at E<;>simp_all
    subst M;obtain⟨A,Z,ac,ab⟩:=vU s P rfl;have aa:A=.int .i64 0:=by
     have:A.cells.toList=[Value.int .i64 0]:=Z;have U:=ab rfl;cases A<;>first|(simp[Value.cells]at this;done)|(simp[Value.cells]at this;rw[this.1,this.2])|exact absurd rfl (U _)
    have H:a.eval b=.map (some B):=r.eq X rfl;have I:a.eval y=.int .i64 f:=r.eq Y rfl;have D:(getObj B).run c e=.ok (.map C J) e:=by simp[getObj,Sem.run,O]
    refine jL (w:=e) (c:=.c (.i (uW u f))) (v:=.int .i64 (uW u f)) (b:=e) r L rfl (ph.az e) Q ?_ S;rcases zE f C.toList u 0 N with⟨p,q,_⟩|⟨af,ah,p,q,_⟩
    .simp[execOp,Instr.lookup,run_underlying F,H,I,D,sA hd,Instr.findKey,run_underlying hd,p,ac,aa,q]
    .simp[execOp,Instr.lookup,run_underlying F,H,I,D,sA hd,Instr.findKey,run_underlying hd,p,q]
   .exact d.elim
  .exact d.elim
def KG(L:ui c T)(s:jY n g a)(K:Bx n g m){z:Operand}(r:wr c T G n g m i h k (.mapUpdate t b y z)):Ff c n a m ⟨i,.mapUpdate t b y z,h,o,j,l⟩ k:=by
 intro w hw ai ag Q
 subst hw;simp only[wr]at r;split at r
 .rename_i kt et sh ah e d v ht hx hy hz;split at r
  .rename_i b1 ae;obtain⟨Y,⟨p,q,E,x⟩,P⟩:=r;have U:=(BY (L.yh ht)).1;obtain⟨⟨Z,hd,R⟩,_⟩:=nP (L.yh ae);have aa:Z=.int .i64:=by
    unfold zZ at R;split at R<;>simp_all
   subst aa;have V:a.eval b=.map (some e):=s.eq hx rfl;have W:a.eval y=.int .i64 d:=s.eq hy rfl;have X:a.eval z=.int .i64 v:=s.eq hz rfl;have N:(getObj e).run c w=.ok (.map p q) w:=by simp[getObj,Sem.run,E]
   have S:∀I,(setObj e I).run c w=.ok () {w with heap:=w.heap.setIfInBounds e I}:=λI=>by simp[setObj,Sem.run,E]
   have M:e<w.heap.size:=(Array.getElem?_eq_some_iff.1 E).1;unfold Oper.wp;rcases zE d p.toList Y 0 x with⟨C,h2,D⟩|⟨f,aj,C,h2,D,J,h5⟩
   .have H:(execOp a.eval ⟨i,.mapUpdate t b y z,h,o,j,l⟩).run c w=.ok .skip {w with heap:=w.heap.setIfInBounds e (.map (p.push {key:=.int .i64 d,val:=.int .i64 v,born:=q}) (q+1))}:=by
     simp[execOp,Instr.mapUpdate,run_underlying U,V,W,X,N,sA hd,Instr.findKey,run_underlying hd,C,S]
    rw[H];have u:=mw (P {w with heap:=w.heap.setIfInBounds e (.map (p.push {key:=.int .i64 d,val:=.int .i64 v,born:=q}) (q+1))}.heap ?_ aL ?_)
    .exact Q g .un undef _ u.2 s (K.dv u.1) rfl ⟨rfl,rfl,rfl⟩
    .refine⟨_,_,by simp[M];exact⟨rfl,rfl⟩,?_⟩;rw[D];simp[x]
    .intro f F;simp[jP (kC F)]
   .have ad:(p[f]?).map (·.key)=some (.int .i64 d):=by
     have:=pV (λA=>(A[f]?).map (·.1)) x;simpa[J]using this
    have af:(Instr.keyThatStays (.int .i64 d) (.int .i64 d)).run c w=.ok (.int .i64 d) w:=by
     simp[Instr.keyThatStays,Instr.sameBits]
    have H:(execOp a.eval ⟨i,.mapUpdate t b y z,h,o,j,l⟩).run c w=.ok .skip {w with heap:=w.heap.setIfInBounds e (.map (p.modify f λB=>{B with key:=.int .i64 d,val:=.int .i64 v}) q)}:=by
     simp only[execOp,Instr.mapUpdate,run_underlying U,V,W,X,N,sA hd,Instr.findKey,run_underlying hd,C,Sem.run_bind,Result.andThen_ok,Sem.run_pure,bT,ad,vo,af,S]
    rw[H];have u:=mw (P {w with heap:=w.heap.setIfInBounds e (.map (p.modify f λB=>{B with key:=.int .i64 d,val:=.int .i64 v}) q)}.heap ?_ aL ?_)
    .exact Q g .un undef _ u.2 s (K.dv u.1) rfl ⟨rfl,rfl,rfl⟩
    .refine⟨_,_,by simp[M];exact⟨rfl,rfl⟩,?_⟩;rw[h5];apply gU;intro A;have B:=pV (λ(q':List (Value×Value))=>q'[A]?) x;simp only[cJ]at B;simp only[cJ,jD,XB,lG]at B⊢;by_cases O:f=A
     .subst O;have ac:f<Y.length:=(List.getElem?_eq_some_iff.1 J).1;have ab:f<p.size:=by simpa using D
      simp[ac,ab]
     .simp only[O,rG];exact B
    .intro f F;simp[jP (kC F)]
  .exact r.elim
 .exact r.elim
def tr(l:List Ce)(z:O)(a f:Nat)(d:l.length=a*f)(w:World)(h:fP w.heap z.D z.off l)(e:a<=z.len):
 (Builtin.firstCells f a z.v).run c w=.ok (bt l) w:=by
 cases z with
 |nil=>
  have b:a=0:=by simp at e;omega
  have:l=[]:=List.length_eq_zero_iff.1 (by rw[d,b];simp)
  subst this
  simp[Builtin.firstCells,O.v,bt]
 |zD g i j=>
  have b:a=0:=by simp at e;omega
  have:l=[]:=List.length_eq_zero_iff.1 (by rw[d,b];simp)
  subst this
  simp[Builtin.firstCells,O.v,bt,b,loadCells,loadCellsFrom]
 |mk b o i g=>
  simp only[Builtin.firstCells,O.v,<-d]
  exact PV l b o w h
def OZ(a:List Ce)(z:Array Value)(b:z.toList=a.map Ce.v)(n:Nat):Builtin.zeroCells z n=bt (mF a n):=by
 have c:z.size=a.length:=by rw[<-Zt,b];simp
 rw[<-IW a z b n,Builtin.zeroCells,c]
def Qc(l r:List Ce):bt (l++r)=bt l++bt r:=by simp[bt]
def Pq(H:ui c T)(C:jY n g a)(L:Bx n g m){Z:Array Operand}(q:wr c T G n g m i h k (.call ⟨.builtin .append,Z,e⟩)):Ff c n a m ⟨i,.call ⟨.builtin .append,Z,e⟩,h,o,j,l⟩ k:=by
 intro d hw aM aE N
 subst hw;simp only[wr]at q;split at q
 .rename_i b y t aD am az;split at q
  .rename_i B sh aF e2 aN aG s z ht aA hx hy;split at q
   .rename_i f ac;cases u:(f.uw||Nat.beq f.bytes 0)
    .rw[u]at q;simp only[br]at u;obtain⟨A,Q,ar,ah,ai⟩:=q;have e1:Z=#[b,y]:=Array.toList_inj.1 (by simpa using am);have al:e=#[t,aD]:=Array.toList_inj.1 (by simpa using az);subst e1;subst al;have U:=(j9 (H.yh ht)).1;have W:=(j9 (H.yh aA)).1;obtain⟨zv,hz,ak,aK⟩:=vU H ac u.1;obtain⟨ti,hb,aJ,af,_⟩:=Gd H ac u.1;have S:=λd=>ku H ac u.1 d;have X:a.eval b=s.v:=C.eq hx rfl;have Y:a.eval y=z.v:=C.eq hy rfl;have E:(Builtin.lenOf z.v).run c d=.ok z.len d:=by cases z<;>simp[Builtin.lenOf,O.v,O.len]
     have aj:(f.sh.map Sh.zero).length=f.sh.length:=aL;rw[aj]at Q;simp only[aj]at ah ai;have M:∀r:World,r.heap=d.heap->(Builtin.firstCells f.sh.length z.len z.v).run c r=.ok (bt A) r:=λr ag=>
      tr A z z.len f.sh.length Q r (by rw[ag];exact ar) (ad _)
     have ay:=s.Xk;by_cases D:s.len+z.len<=s.cap
     .obtain⟨R,p⟩:=ah D;cases s with
      |nil=>
       simp only[O.OB,O.UH]at D R p;have J:z.len=0:=V;have:A=[]:=List.length_eq_zero_iff.1 (by rw[Q,J];simp);subst this;obtain⟨ab,p⟩:=mw p;refine jL (w:=d) (c:=.c (.s .nil)) (v:=.slice none 0 0) (b:=d) C L rfl (ph.az d) p ?_ N;have I:a.eval b=.slice none 0 0:=X;have F:=M d rfl;simp only[execOp,resolve,Sem.run_bind,Sem.run_pure,Result.andThen_ok,invoke,builtin,Builtin.append_,nh,cK,fD,I,Y];rw[J]at E F;simp[run_underlying U,run_underlying W,S,E,F]
      |zD K o0 sp=>
       simp only[O.RF,O.UG]at D R p;have J:z.len=0:=V;have:A=[]:=List.length_eq_zero_iff.1 (by rw[Q,J];simp);subst this;obtain⟨ab,p⟩:=mw p;refine jL (w:=d) (c:=.c (.s (.zD K o0 sp))) (v:=.slice (some ⟨K,o0,some sp⟩) 0 0) (b:=d) C L rfl (ph.az d) p ?_ N;have I:a.eval b=.slice (some ⟨K,o0,some sp⟩) 0 0:=X;have F:=M d rfl;simp only[execOp,resolve,Sem.run_bind,Sem.run_pure,Result.andThen_ok,invoke,builtin,Builtin.append_,nh,cK,fD,I,Y];rw[J]at E F;simp[run_underlying U,run_underlying W,S,E,F,bt,storeCells]
      |mk F K J aa=>
       simp only[O.gE,O.Oh,O.jA,O.mT]at D R p;obtain⟨ab,p⟩:=mw p;refine jL (w:=d) (c:=.c (.s (.mk F K (J+z.len) aa))) (v:=.slice (some ⟨F,K,none⟩) (J+z.len) aa) (b:=d.setCells F (K+J*f.sh.length) (A.map Ce.v)) C (by rw[kV];exact L.dv ab) rfl (qS _ _ _ _) (by rw[kV];exact p) ?_ N;have an:=Ed (d:=c) A F (K+J*f.sh.length) d R;have I:a.eval b=.slice (some ⟨F,K,none⟩) J aa:=X;simp only[execOp,resolve,Sem.run_bind,Sem.run_pure,Result.andThen_ok,invoke,builtin,Builtin.append_,nh,cK,fD,I,Y];simp[run_underlying U,run_underlying W,S,E,D,M d rfl,vB,bt,an]
     .obtain⟨ab,old,av,ax,p⟩:=ai V;have aH:=growslice_fits (need:=s.len+z.len) (old:=s.cap) (bytes:=f.bytes) V ab;have K:f.bytes≠0:=λB=>by rw[B]at u;simp at u
      have aI:¬(((s.len+z.len:Nat):Int)>IntKind.i64.max/\f.bytes=0):=λhh=>K hh.2;have aw:∀r:World,r.heap=d.heap->(Builtin.firstCells f.sh.length s.len s.v).run c r=.ok (bt old) r:=λr ag=>
       tr old s s.len f.sh.length av r (by rw[ag];exact ax) (ad _)
      let I:Question:=.appendCap (s.len+z.len) s.cap B;let nc:=I.cut (d.tape d.drawn I);let J:World:={d with drawn:=d.drawn+1};have ap:s.len+z.len<=nc:=Nat.le_add_right _ _;refine jL (w:=d) (c:=.c (.s (.mk d.heap.size 0 (s.len+z.len) nc))) (v:=.slice (some ⟨d.heap.size,0,none⟩) (s.len+z.len) nc)
       (b:={J with heap:=d.heap.push (.cells (bt (old++A++mF (f.sh.map Sh.zero) (nc -(s.len+z.len)))) B)}) C (L.push _) rfl ⟨rfl,rfl,rfl⟩ (mw (p nc ap)).2 ?_ N
      have aC:zv.cells.toList=(f.sh.map Sh.zero).map Ce.v:=by simp[hz]
      have aa:=OZ (f.sh.map Sh.zero) zv.cells aC (nc -(s.len+z.len));have an:I.forced=false:=rfl;have aq:¬(Builtin.nextslicecap (s.len+z.len) s.cap*f.bytes>2^48):=by
       have:(2:Nat)^48=281474976710656:=bh;omega
      simp only[execOp,resolve,Sem.run_bind,Sem.run_pure,Result.andThen_ok,invoke,builtin,Builtin.append_,nh,cK,fD,X,Y];have F:=aw J rfl;have R:=M J rfl;rw[ay]at F⊢;simp only[lH,sj,hO,Sem.run_bind,run_underlying U,run_underlying W,Result.andThen_ok,S,Sem.run_pure,E,ji,rG,D,af,hb,false_or];simp only[K,and_false,rG,aq,Sem.run_bind,run_choose,an,ji,Result.andThen_ok,af,run_askRoom,F,Mh,Mm,R,ak,aa,newRow,run_newObj,Sem.run_pure];simp[Qc];rw[hb,ae V,ae (show¬(Question.appendCap (s.len+z.len) s.cap B).forced=true by simp[Question.forced])];have au:(Builtin.firstCells f.sh.length s.len (Value.slice s.cx s.len s.cap)).run c d.drew=.ok (bt old) d.drew:=F;have ao:(Builtin.firstCells f.sh.length z.len z.v).run c d.drew=.ok (bt A) d.drew:=R;simp only[af,Result.andThen_ok,au,ao,ak];have aB:Builtin.zeroCells zv.cells ((Question.appendCap (s.len+z.len) s.cap B).cut (d.tape d.drawn (Question.appendCap (s.len+z.len) s.cap B)) -(s.len+z.len))=bt (mF (f.sh.map Sh.zero) (nc -(s.len+z.len))):=aa;rw[aB];rfl
    .rw[u]at q;exact q.elim
   .exact q.elim
  .exact q.elim
 .exact q.elim
end
end Go.Vc
end
section
namespace Go.Vc
variable{b:Program}{T:TT}{G:List Nat}
section
variable{n:Nat}{c:Fr}{a:Act}{m:E}{k:Fr->SV->E->Prop}{d:Option Tmp}{e:TypeId}{h:String}{f:Array Edge}{g:Option (Nat×Bool)}
def Sd(M:ui b T)(t:jY n c a)(U:Bx n c m){r:Array Operand}{K:Array TypeId}(i:wr b T G n c m d e k (.call ⟨.builtin .copy,r,K⟩)):Ff b n a m ⟨d,.call ⟨.builtin .copy,r,K⟩,e,h,f,g⟩ k:=by
 intro j hw ah ae W
 subst hw;simp only[wr]at i;split at i
 .rename_i q R ad ai V ab;split at i
  .rename_i ag sh af s z ht hx hy;split at i
   .rename_i J aa;cases u:J.uw
    .rw[u]at i;obtain⟨o,C,X,Y,y⟩:=i;obtain⟨Z,y⟩:=mw y;have S:r=#[q,R]:=Array.toList_inj.1 (by simpa using V);subst S;have E:K[0]? =some ad:=by rw[<-XB,ab];rfl
     have F:=(j9 (M.yh ht)).1;have D:=λj=>ku M aa u j;have H:a.eval q=s.v:=t.eq hx rfl;have I:a.eval R=z.v:=t.eq hy rfl;have A:(Builtin.lenOf z.v).run b j=.ok z.len j:=by cases z<;>simp[Builtin.lenOf,O.v,O.len]
     have l:(Builtin.firstCells J.sh.length (Nat.min z.len s.len) z.v).run b j=.ok (bt o) j:=
      tr o z _ J.sh.length C j X (Nat.min_le_left _ _)
     refine jL (w:=j) (c:=.c (.i (Nat.min z.len s.len:Nat))) (v:=.int .i64 (Nat.min z.len s.len:Nat)) (b:=j.setCells s.D s.off (o.map Ce.v)) t (by rw[kV];exact U.dv Z) rfl (qS _ _ _ _) (by rw[kV];exact y) ?_ W;cases s with
     |nil=>
      have B:Nat.min z.len O.nil.len=0:=aL;have:o=[]:=List.length_eq_zero_iff.1 (by rw[C,B];simp);subst this;have p:a.eval q=.slice none 0 0:=H;simp only[O.OB]at l⊢;simp only[execOp,resolve,Sem.run_bind,Sem.run_pure,Result.andThen_ok,invoke,builtin,Builtin.copy_,nh,cK,fD,p,I,E];simp only[lH,sj,hO,Sem.run_bind,run_underlying F,Result.andThen_ok,A,D,l,Sem.run_pure];rfl
     |zD L N Q=>
      have B:Nat.min z.len (O.zD L N Q).len=0:=aL;have:o=[]:=List.length_eq_zero_iff.1 (by rw[C,B];simp);subst this;have p:a.eval q=.slice (some ⟨L,N,some Q⟩) 0 0:=H;simp only[O.RF]at l⊢;simp only[execOp,resolve,Sem.run_bind,Sem.run_pure,Result.andThen_ok,invoke,builtin,Builtin.copy_,nh,cK,fD,p,I,E];simp only[lH,sj,hO,Sem.run_bind,run_underlying F,Result.andThen_ok,A,D,l,Sem.run_pure,bt];rfl
     |mk B L ac N=>
      have Q:=Ed (d:=b) o B L j Y;have p:a.eval q=.slice (some ⟨B,L,none⟩) ac N:=H;simp only[O.gE]at l⊢;simp only[execOp,resolve,Sem.run_bind,Sem.run_pure,Result.andThen_ok,invoke,builtin,Builtin.copy_,nh,cK,fD,p,I,E];simp only[lH,sj,hO,Sem.run_bind,run_underlying F,Result.andThen_ok,A,D,l,Sem.run_pure,bt,Q];rfl
    .rw[u]at i;exact i.elim
   .exact i.elim
  .exact i.elim
 .exact i.elim
def Qe(o:ui b T)(u:Uw b G)(l:jY n c a)(j:Bx n c m)(p:Oper)(i:wr b T G n c m p.dst p.type k p.op):Ff b n a m p k:=by
 obtain⟨d,v,e,h,f,g⟩:=p;cases v with
 |alloc t=>exact Qz o l j i
 |box t x=>exact Tn l j i
 |buildSlice t q r=>exact Jw o l j i
 |store t x y=>exact QA o l j i
 |makeSlice t x y=>exact KF o l j i
 |makeFunc r first q=>exact Mq l j i
 |makeMap t w=>exact Ol l j i
 |lookup t x y q=>exact Pr o l j i
 |mapUpdate t x y z=>exact KG o l j i
 |call r=>
  obtain⟨s,t,x⟩:=r;cases s with
  |builtin q=>
   cases q with
   |append=>exact Pq o l j i
   |copy=>exact Sd o l j i
   |_=>exact i.elim
  |value q=>exact Sc u l j i
  |invoke w q=>exact i.elim
 |_=>exact i.elim
end
end Go.Vc
end
section
namespace Go.Vc
variable{b:Array Bool}{j:Nat}{L:List (Nat×(World->Prop))}{a:Act}{w:World}
section
variable{P:Program}{c:Array Oper}{Q:Exit->Act->World->Prop}{d:Region.Mode}{e:Nat->Nat->Bool}
def vn(P:Program)(d:Region.Mode)(c:Array Oper)(Q:Exit->Act->World->Prop)(e:Nat->Nat->Bool)(L:List (Nat×(World->Prop))):Nat->Array Bool->Act->World->Prop
 |0,b,a,w=>Region.ready d c b=[]/\Q .normal a w
 |h+1,b,a,w=>
  (Region.ready d c b=[]->Q .normal a w)/\
  ∀i∈Region.ready d c b,wpOp P c Q i (λg f=>(∀x∈L,e i x.1=false->x.2 w->x.2 f)/\vn P d c Q e L h (b.setIfInBounds i true) g f) a w
def Mf{L:List (Nat×(World->Prop))}:∀(f:Nat)(b:Array Bool)(a:Act)(w:World),vn P d c Q e L f b a w->wpAny P d c Q f b a w
 |0,_,_,_,h=>h
 |f+1,_,_,_,h=>⟨h.1,λk j=>wpOp_mono (λg l i=>Mf f _ g l i.2) (h.2 k j)⟩
def DC{L g:List (Nat×(World->Prop))}(j:∀x∈g,x∈L):∀(f:Nat)(b:Array Bool)(a:Act)(w:World),vn P d c Q e L f b a w->vn P d c Q e g f b a w
 |0,_,_,_,h=>h
 |f+1,_,_,_,h=>⟨h.1,λn l=>wpOp_mono (λk o i=>⟨λx m=>i.1 x (j x m),DC j f _ k o i.2⟩) (h.2 n l)⟩
def Hj(e:Nat->Nat->Bool)(b:Array Bool):Prop:=∀i,b.getD i false=true->∀r,e i r=true->b.getD r false=true
def Ut(d:Region.Mode)(c:Array Oper)(e:Nat->Nat->Bool):Prop:=
 ∀(i r:Nat)(o:Oper),c[i]? =some o->e i r=true->∃a∈o.after,Region.binds d a=true/\(a.on=r\/e a.on r=true)
def wW(k:Ut d c e)(l:Hj e b)(n:j∈Region.ready d c b){r:Nat}(p:e j r=true):b.getD r false=true:=by
 obtain⟨_,q,o,g⟩:=mem_ready.1 n;obtain⟨f,m,i,h⟩:=k j r q o p;have a:=g f m i;rcases h with rfl|h
 .exact a
 .exact l _ a r h
def Hj.set(k:Ut d c e)(a:Hj e b)(l:j∈Region.ready d c b):Hj e (b.setIfInBounds j true):=by
 intro i f r h;by_cases g:j=i
 .subst g;exact getD_set_true (wW k a l h)
 .rw[getD_set_ne false g]at f;exact getD_set_true (a i f r h)
def Hg{i:Nat}{l:Oper}{F:Value}{S:World->Prop}(I:Ut d c e)(C:c[i]? =some l)(O:∀(j:Nat)(R:Oper) q p,c[j]? =some R->R.op≠.select q p)
 (V:∀f a w,Q (.panic f) (a.put l.dst F) w->Q (.panic f) a w):
 ∀(r:Nat)(b:Array Bool)(a:Act)(w:World),Hj e b->
  (∀j m,c[j]? =some m->j≠i->b.getD j true=false->(∀f∈m.after,Region.binds d f=true->f.on≠i)->l.apart c m=true)->
  i∈Region.ready d c b->YieldsIf P c S l F a->S w->
  vn P d c Q e ((i,S)::L) r (b.setIfInBounds i true) (a.put l.dst F) w->vn P d c Q e L (r+1) b a w:=by
 intro r
 induction r with
 |zero=>
  intro b a w _ _ k y x H
  refine⟨λh=>(by rw[h]at k;cases k),λj n=>?_⟩
  by_cases g:j=i
  .subst g;exact y.wpOp C x ⟨λz _ _ h=>h,H⟩
  .have:=ready_mono n g
   rw[H.1]at this
   cases this
 |succ r ih=>
  intro b a w J K k y x H
  refine⟨λh=>(by rw[h]at k;cases k),λj n=>?_⟩
  by_cases g:j=i
  .subst g;exact y.wpOp C x ⟨λz _ _ h=>h,DC (λz E=>ai _ E) _ _ _ _ H⟩
  .have u:=H.2 j (ready_mono n g)
   obtain⟨N,m,D,W⟩:=mem_ready.1 n
   have s:b.getD i false=false:=by
    have G:=(mem_ready.1 k).1;rcases aW i b.size with A|A
    .simp[A]at G⊢;exact G
    .simp[IY A]
   have ad:∀f∈m.after,Region.binds d f=true->f.on≠i:=λf Y B Z=>by
    have u:=W f Y B;rw[Z,s]at u;cases u
   have X:e j i=false:=by
    cases B:e j i
    .rfl
    .have:=wW I J n B;rw[s]at this;cases this
   have U:=wpOp_putIf D (K j m D g N ad) (λq p=>O i l q p C) (λq p=>O j m q p D) V y u
   have aa:∀o t,c[o]? =some t->o≠i->(b.setIfInBounds j true).getD o true=false->
    (∀f∈t.after,Region.binds d f=true->f.on≠i)->l.apart c t=true:=λo t hk ab s ac=>by
    refine K o t hk ab ?_ ac
    by_cases M:j=o
    .subst M;exact N
    .rw[getD_set_ne true M]at s;exact s
   refine wpOp_mono (λT w' v=>⟨λz E=>v.2.1 z (ai _ E),
    ih (b.setIfInBounds j true) T w' (J.set I n) aa (ready_mono k (kC g)) v.1 (v.2.1 (i,S) bg X x) ?_⟩) U
   rw[Array.setIfInBounds_comm _ _ g]
   exact v.2.2
def Ra{f:Nat}(k:Region.ready d c b≠[])
 (j:∀i∈Region.ready d c b,wpOp P c Q i (λh g=>(∀x∈L,e i x.1=false->x.2 w->x.2 g)/\vn P d c Q e L f (b.setIfInBounds i true) h g) a w):
 vn P d c Q e L (f+1) b a w:=⟨λg=>absurd g k,j⟩
def Qd(f:Region.ready d c b=[])(h:Q .normal a w):
 ∀g,vn P d c Q e L g b a w
 |0=>⟨f,h⟩
 |_+1=>⟨λ_=>h,by rw[f];simp⟩
end
end Go.Vc
end
