/- Part of a proof. -/
import Derived.KernelRfl
import Derived.Laws.Append
import Derived.Laws.Cells
import Derived.Laws.Entries
import Derived.Laws.IdiomCopy
import Derived.Orders
import Derived.OrdersHeld
import Derived.Still
import Derived.Tactics
import Derived.Test.YtbbbdejieenniaaGreatProg
set_option linter.all false
set_option maxHeartbeats 8000000
set_option maxRecDepth 100000
namespace Go.Vc
abbrev afy:=List Field
abbrev afx:=List Edge
abbrev aI:=List MemPlace
abbrev aG:=List (Nat×Operand)
abbrev aD:=List Operand
abbrev aC:=List (Int×Int)
abbrev az:=List (List Int)
abbrev ay:=List ResultVar
abbrev ar:=List Oper
abbrev ap:=List Value
abbrev ao:=List (Nat×Nat)
abbrev ai:=Nat×Nat
abbrev ag:=Nat->Nat
abbrev ad:=List Nat
abbrev ab:=List Int
def aW:=@if_neg
def aX:=@List.mem_cons_of_mem
def ba:=@beq_eq_false_iff_ne
def bg:=@decide_eq_true_eq
def bn:=@if_pos
def bo:=@List.mem_cons
def bC:=@Or.inl
def bP:=@beq_iff_eq
def bR:=@Or.inr
def bU:=@List.mem_append
def cp:=@List.length_eq_zero_iff
def cr:=@Nat.lt_of_lt_of_le
def cH:=@List.mem_iff_getElem?
def cK:=@List.mem_cons_self
def cU:=@Bool.or_eq_false_iff
def dk:=@decide_eq_false_iff_not
def dq:=@Go.Result.andThen_ok
def dy:=@List.length_cons
def dH:=@List.length_append
def dJ:=@Nat.lt_or_ge
def dN:=@List.mem_append_left
def dP:=@List.getElem?_append_right
def dT:=@Int.le_refl
def dY:=@List.getElem?_append_left
def eu:=@List.getElem?_set_ne
def ez:=@Go.Sem.run_bind
def eG:=@Bool.or_eq_true
def eJ:=@List.getElem?_map
def eK:=@List.map_cons
def eS:=@List.cons_append
def eV:=@Nat.zero_add
def eZ:=@Bool.and_eq_true
def fq:=@List.ext_getElem?
def ft:=@List.getElem?_set_self
def fu:=@List.take_length
def fC:=@Nat.le_trans
def fD:=@Nat.mul_le_mul_right
def fG:=@List.getD_eq_getElem?_getD
def fO:=@List.append_nil
def fR:=@Int.toNat_natCast
def gA:=@Nat.eq_of_beq_eq_true
def gJ:=@Classical.em
def gK:=@List.mem_map
def gV:=@Array.getElem?_eq_some_iff
def gW:=@List.mem_of_mem_take
def iv:=@Nat.add_assoc
def iA:=@List.nil_append
def iC:=@Classical.byContradiction
def iD:=@Nat.zero_le
def iK:=@Go.Sem.run_pure
def jc:=@List.mem_or_eq_of_mem_set
def ji:=@List.map_nil
def jD:=@Classical.choose_spec
def jR:=@Option.map_eq_some_iff
def jW:=@List.length_map
def j8:=@List.take_append_drop
def kE:=@List.getElem?_cons_succ
def kQ:=@List.mem_of_getElem?
def kT:=@List.length_nil
def lp:=@List.getElem?_eq_none
def lH:=@List.map_append
def lP:=@List.getElem?_take
def mz:=@Go.Code.wp_mono
def mB:=@List.findIdx_lt_length_of_exists
def mC:=@List.replicate_succ
def mH:=@Nat.min_eq_left
def mI:=@Nat.not_lt_zero
def mP:=@List.getElem?_eq_some_iff
def mW:=@List.mem_append_right
def ng:=@Array.toList_inj
def nh:=@List.not_mem_nil
def ni:=@List.set_cons_zero
def nm:=@List.getElem?_take_of_lt
def nu:=@Nat.mul_one
def nv:=@if_false
def nB:=@List.append_assoc
def nH:=@List.dropLast_concat_getLast
def nX:=@bne_eq_false_iff_eq
def oB:=@Nat.add_mul
def oT:=@Bool.false_eq_true
def oU:=@Nat.le_of_ble_eq_true
def pJ:=@List.length_set
def pK:=@cond_true
def qC:=@List.length_reverse
def qW:=@List.length_take
def qX:=@List.map_toArray
def qY:=@List.mem_range
def rB:=@List.getLast?_eq_some_getLast
def rC:=@List.take_append_of_le_length
def rJ:=@List.getElem?_drop
def sj:=@Option.some.inj
def sP:=@List.getElem?_toArray
def sQ:=@List.sizeOf_lt_of_mem
def tc:=@List.flatten_cons
def td:=@Nat.le_succ_of_le
def tf:=@Ne.symm
def ue:=@List.mem_of_mem_drop
def uh:=@Nat.add_zero
def ui:=@Option.getD_some
def uG:=@Array.getElem?_push
def uH:=@List.flatten_append
def vv:=@congrArg
def vx:=@Option.map_some
def vU:=@List.set_cons_succ
def vV:=@Nat.lt_of_le_of_lt
def wo:=@List.getElem?_cons_zero
def xZ:=@Bool.not_eq_true'
def yd:=@Int.lt_or_le
def ye:=@List.take_of_length_le
def yf:=@if_true
def zK:=@cond_false
def DE:=@Array.getD_eq_getD_getElem?
def DF:=@Nat.succ_mul
def FR:=@List.mem_singleton
def FT:=@Nat.eq_zero_or_pos
def FU:=@not_or
def FV:=@or_false
def HG:=@List.drop_eq_getElem_cons
def HH:=@List.mem_take_iff_getElem
def Ij:=@List.getElem?_set
def LC:=@List.all_eq_true
def Nm:=@List.length_eq_one_iff
def Nn:=@List.map_set
def No:=@Nat.le_of_eq
def NQ:=@Bool.eq_iff_iff
def Q8:=@Nat.mul_le_mul
def Rb:=@Iff.rfl
def RO:=@List.length_take_le
def RP:=@List.replicate_zero
def SD:=@List.all_cons
def SE:=@Prod.mk.injEq
def TV:=@Array.ext_getElem?
def TW:=@bne_iff_ne
def Vv:=@List.any_nil
def Vw:=@List.flatMap_cons
def Vy:=@List.reverse_cons
def Vz:=@Nat.le_of_lt
def VA:=@Nat.sub_self
def VB:=@Option.some.injEq
def VF:=@Array.getElem?_setIfInBounds_ne
def W7:=@List.any_eq_true
def aam:=@Bool.not_false
def aan:=@Int.tdiv_eq_ediv_of_nonneg
def aao:=@List.take_take
def aap:=@Array.mapM_eq_mapM_toList
def aaq:=@List.exists_mem_of_ne_nil
def aar:=@List.getElem?_eq_none_iff
def abf:=@Array.getElem?_replicate
def abg:=@Bool.false_or
def abh:=@Bool.not_true
def abi:=@Bool.or_false
def abj:=@List.eq_of_mem_replicate
def abk:=@List.getElem?_eq_getElem
def abl:=@List.set_eq_of_length_le
def acD:=@Nat.add_sub_cancel_left
def adh:=@List.drop_of_length_le
def adi:=@List.length_pos_of_mem
def adj:=@List.set_set
def adm:=@List.eq_nil_or_concat
def aeM:=@Int.add_mul
def aeN:=@List.getElem?_modify
def aeO:=@List.set_append_left
def aeP:=@Nat.le_refl
def aeS:=@List.getElem?_range
def afq:=@Bool.not_eq_false'
theorem O.{u}{α:Sort u}{a:α}:a=a:=rfl
theorem bY{n:Nat}:n<=n:=aeP n
theorem sp{p q:Prop}(h:p)(t:p->q:=by intro h;simpa using h):q:=t h
theorem dit{p A B:Prop}{i:Decidable p}(f:p->A)(g:¬p->B):(decide p=true->A)/\(decide p=false->B):=⟨λh=>f (of_decide_eq_true h),λh=>g (of_decide_eq_false h)⟩
theorem cB{p:Prop}(h:p:=by grind):p:=h
theorem V{p:Prop}(h:p:=by omega):p:=h
theorem bO{p:Prop}(h:p:=by simp):p:=h
theorem cD{p:Prop}(h:p:=by decide):p:=h
theorem eX{p:Prop}(h:p:=by simp;omega):p:=h
end Go.Vc
namespace Go.Vc
section
variable{d:Value}{n:Nat}{a:Act}
abbrev bh:=Array Obj
abbrev aj:=Value->bh->Prop
def aS(m:bh)(b o:Nat):Option Value:=
 match m[b]? with
 |some (.cells c _ _)=>c[o]?
 |_=>none
def CJ(m:bh)(b o:Nat):Bool:=
 match m[b]? with
 |some (.cells _ _ (c,a))=>c<=o&&o<a
 |_=>false
def vf(m:bh)(b o:Nat)(d:Value):bh:=
 m.modify b λ
  | .cells c e f=>.cells (c.setIfInBounds o d) e f
  |x=>x
theorem DX(w:World)(b o:Nat):w.cell? ⟨b,o,none⟩=aS w.heap b o:=by
 grind [Go.World.cell?,aS]
def We(w:World)(b o:Nat):w.frozen? ⟨b,o,none⟩=CJ w.heap b o:=by
 grind [Go.World.frozen?,CJ]
def Tx(w:World)(b o:Nat)(d:Value):(w.setCell ⟨b,o,none⟩ d).heap=vf w.heap b o d:=by
 grind [Go.World.setCell,vf]
@[grind cases] structure rR (w w':World):Prop where
 os:w'.os=w.os
 WY:w'.tape=w.tape
 Qk:w'.output=w.output
def rR.cT(w:World):rR w w:=⟨rfl,rfl,rfl⟩
def rR.J{a b c:World}(h:rR a b)(k:rR b c):rR a c:=by constructor<;>grind [rR.os,rR.WY,rR.Qk]
def bK(P:Program)(f:FuncId)(b:ap)(m:bh)(K:aj):Prop:=
 ∀w:World,w.heap=m->Calls P f b.toArray w λe a=>∃d,e=.returned d/\rR w a/\K d a.heap
theorem bK.aP{P:Program}{f:FuncId}{b:ap}{m:bh}{K a:aj}(h:bK P f b m K)
 (g:∀d c,K d c->a d c):bK P f b m a:=
 λw j=>(h w j).mono λ_ _⟨d,e,i,c⟩=>⟨d,e,i,g _ _ c⟩
inductive E where
 |nil
 |mk (b o len cap:Nat)
 |DG (b o sp:Nat)
def E.v:E->Value
 | .nil=>.slice none 0 0
 | .mk b o l c=>.slice (some ⟨b,o,none⟩) l c
 | .DG b o sp=>.slice (some ⟨b,o,some sp⟩) 0 0
def E.len:E->Nat
 | .nil=>0
 | .mk _ _ l _=>l
 | .DG _ _ _=>0
def E.cap:E->Nat
 | .nil=>0
 | .mk _ _ _ c=>c
 | .DG _ _ _=>0
def E.bu:E->Nat
 | .nil=>0
 | .mk b _ _ _=>b
 | .DG b _ _=>b
def E.off:E->Nat
 | .nil=>0
 | .mk _ o _ _=>o
 | .DG _ o _=>o
@[simp] theorem E.XA (b o sp:Nat):(E.DG b o sp).len=0:=rfl
@[simp] theorem E.aaB (b o sp:Nat):(E.DG b o sp).cap=0:=rfl
@[simp] theorem E.Tj:E.nil.len=0:=rfl
@[simp] theorem E.aaC:E.nil.cap=0:=rfl
@[simp] theorem E.aeQ:E.nil.bu=0:=rfl
@[simp] theorem E.aeR:E.nil.off=0:=rfl
@[simp] theorem E.ku (b o l c:Nat):(E.mk b o l c).len=l:=rfl
@[simp] theorem E.SN (b o l c:Nat):(E.mk b o l c).cap=c:=rfl
@[simp] theorem E.lT (b o l c:Nat):(E.mk b o l c).bu=b:=rfl
@[simp] theorem E.vL (b o l c:Nat):(E.mk b o l c).off=o:=rfl
def E.Er:E->Bool
 | .nil=>true
 | .mk _ _ _ _=>false
 | .DG _ _ _=>false
@[simp] theorem E.adl:E.nil.Er=true:=rfl
@[simp] theorem E.adk (b o sp:Nat):(E.DG b o sp).Er=false:=rfl
@[simp] theorem E.adW (b o l c:Nat):(E.mk b o l c).Er=false:=rfl
def E.cV:E->Option Addr
 | .nil=>none
 | .mk b o _ _=>some ⟨b,o,none⟩
 | .DG b o sp=>some ⟨b,o,some sp⟩
def E.adg(s:E):s.v=.slice s.cV s.len s.cap:=by cases s<;>rfl
inductive Ce where
 |i (n:Int)
 |u (k:IntKind) (n:Int)
 |t (x:Bool)
 |s (x:E)
 |p (b o:Nat)
 |pn
 |fn (f:Fn) (first captured:Array Value)
 |fv (q:Fn×Array Value×Array Value)
 |nf
 |str (x:ByteArray)
 |mp (b:Nat)
 |mn
 |bp (k b o:Nat)
 |pp (q:Option (Nat×Nat))
abbrev ak:=List (List Ce)
abbrev ae:=List Ce
def Ce.v:Ce->Value
 | .i n=>.int .i64 n
 | .u k n=>.int k n
 | .t x=>.bool x
 | .s x=>x.v
 | .p b o=>.pointer (some ⟨b,o,none⟩)
 | .pn=>.pointer none
 | .fn f a c=>.func f a c
 | .fv q=>.func q.1 q.2.1 q.2.2
 | .nf=>.nilFunc
 | .str x=>.string x
 | .mp b=>.map (some b)
 | .mn=>.map none
 | .bp _ b o=>.pointer (some ⟨b,o,none⟩)
 | .pp q=>.pointer (q.map λq=>⟨q.1,q.2,none⟩)
inductive AV where
 |c (x:Ce)
 |agg (l:ae)
abbrev aH:=List AV
def AV.v:AV->Value
 | .c x=>x.v
 | .agg l=>.agg (l.map Ce.v).toArray
inductive SV where
 |c (x:Ce)
 |tt
 |ff
 |agg (l:ae)
 |tup (l:aH)
 |un
 |jN
 |box (b e:Nat) (l:ae)
 |DU (b e:Nat) (l:ae)
abbrev aB:=List SV
def SV.v:SV->Value
 | .c x=>x.v
 | .tt=>.bool true
 | .ff=>.bool false
 | .agg l=>.agg (l.map Ce.v).toArray
 | .tup l=>.tuple (l.map AV.v).toArray
 | .un=>undef
 | .jN=>undef
 | .box _ _ _=>undef
 | .DU _ _ _=>undef
def SV.Is:SV->Value->Prop
 | .jN,_=>True
 | .box _ _ _,_=>True
 | .DU _ _ _,_=>True
 |s,d=>d=s.v
def AV.sv:AV->SV
 | .c x=>.c x
 | .agg l=>.agg l
def AV.afo(x:AV):x.sv.v=x.v:=by cases x<;>rfl
abbrev Fr:=List (Nat×SV)
def kK:Fr->Nat->SV
 |[],_=>.jN
 |(u,x)::r,t=>bif Nat.beq u t then x else kK r t
def SV.nb:SV->SV
 | .box _ _ _=>.jN
 | .DU _ _ _=>.jN
 |x=>x
def ym(a:Fr)(d:Option Nat)(x:SV):Fr:=
 match d with
 |some d=>(d,x.nb)::a
 |none=>a
def SV.ZU{x:SV}(h:x.Is d):x.nb.Is d:=by
 cases x<;>first|exact h|trivial
def Ce.mM(x:Ce):x.v.cells=#[x.v]:=by
 cases x with
 |s y=>cases y<;>rfl
 |_=>rfl
def nL:Value->Option Ce
 | .int .i64 n=>some (.i n)
 | .int k n=>some (.u k n)
 | .bool x=>some (.t x)
 | .slice none 0 0=>some (.s .nil)
 | .pointer none=>some .pn
 | .nilFunc=>some .nf
 | .string x=>some (.str x)
 |_=>none
def Sb{x:Value}{c:Ce}(h:nL x=some c):c.v=x:=by
 unfold nL at h;split at h<;>simp at h<;>subst h<;>rfl
def tD:ap->Option ae
 |[]=>some []
 |d::b=>match nL d,tD b with
  |some c,some a=>some (c::a)
  |_,_=>none
def PB:∀{b:ap}{a:ae},tD b=some a->a.map Ce.v=b
 |[],_,h=>by simp[tD]at h;subst h;rfl
 |d::b,a,h=>by
  simp only[tD]at h;split at h
  .rename_i f g c e;simp at h;subst h;simp[Sb c,PB e]
  .simp at h
def J6:Value->SV
 | .bool true=>.tt
 | .bool false=>.ff
 | .agg a=>match tD a.toList with
  |some l=>.agg l
  |none=>.jN
 | .tuple a=>bif a.toList.isEmpty then .un else .jN
 |d=>match nL d with
  |some c=>.c c
  |none=>.jN
def VY(x:Value):(J6 x).Is x:=by
 unfold J6;split
 .rfl
 .rfl
 .rename_i a;split
  .rename_i l b;show Value.agg a=.agg (l.map Ce.v).toArray;rw[PB b]
  .trivial
 .rename_i a;cases h:a.toList.isEmpty
  .trivial
  .show Value.tuple a=undef;have:a=#[]:=sp h;rw[this];rfl
 .split
  .rename_i c a;exact(Sb a).symm
  .trivial
def ev(a:Fr):Operand->SV
 | .tmp t=>(kK a t).nb
 | .const d=>J6 d
 | .global g=>.c (.p g 0)
 | .func f=>.c (.fn (.func f) #[] #[])
@[grind cases] structure mD (n:Nat) (fr:Fr) (a:Act):Prop where
 aQ:a.tmps.size=n
 nN:a.defers=[]
 bt:∀t,(kK fr t).Is (a.tmps.getD t undef)
def mD.ev{b:Fr}(h:mD n b a)(x:Operand):(ev b x).Is (a.eval x):=by
 cases x with
 |tmp t=>exact SV.ZU (h.bt t)
 |const d=>exact VY d
 |global g=>rfl
 |func f=>rfl
def mD.cG{c:Fr}(h:mD n c a){b:Option Nat}{x:SV}(g:x.Is d)(hd:∀t,b=some t->t<n):
 mD n (ym c b x) (a.put b d):=by
 cases b with
 |none=>exact h
 |some b=>
  refine⟨by simpa[Act.put]using h.aQ,h.nN,λt=>?_⟩
  have f:b<a.tmps.size:=by grind [mD.aQ]
  simp only[ym,kK,Act.put]
  by_cases e:b=t
  .subst e
   simp only[Nat.beq_refl,pK]
   simpa[f]using SV.ZU g
  .have:Nat.beq b t=false:=by
    cases i:Nat.beq b t
    .rfl
    .grind [Nat.eq_of_beq_eq_true]
   simp only[this,zK]
   have:=h.bt t
   simpa[VF e]using this
def mD.eB{b:Fr}(h:mD n b a){t:Nat}{x:SV}(c:∀d,x.Is d):mD n ((t,x)::b) a:=by
 constructor<;>grind [mD.aQ,mD.nN,kK,Nat.beq,mD.bt]
def mD.jN{b:Fr}(h:mD n b a)(t:Nat):mD n ((t,.jN)::b) a:=by
 refine⟨h.aQ,h.nN,λu=>?_⟩;simp only[kK];cases c:Nat.beq t u
 .exact h.bt u
 .trivial
end
section
variable{P:Program}{t b e:Nat}
inductive Sh where
 |I
 |U (k:IntKind)
 |T
 |S
 |P
 |F
 |M
 |Q
 deriving DecidableEq
abbrev aA:=List Sh
abbrev aw:=List (Nat×Sh)
abbrev Sh.ty:Sh->Type
 | .I=>Int
 | .U _=>Int
 | .T=>Bool
 | .S=>E
 | .P=>Nat×Nat
 | .F=>Fn×Array Value×Array Value
 | .M=>Nat
 | .Q=>Option (Nat×Nat)
abbrev Sh.mk:(s:Sh)->s.ty->Ce
 | .I,n=>.i n
 | .U k,n=>.u k n
 | .T,x=>.t x
 | .S,x=>.s x
 | .P,q=>.p q.1 q.2
 | .F,v=>.fv v
 | .M,b=>.mp b
 | .Q,q=>.pp q
def Sh.zero:Sh->Ce
 | .I=>.i 0
 | .U k=>.u k 0
 | .T=>.t false
 | .S=>.s .nil
 | .P=>.pn
 | .F=>.nf
 | .M=>.mn
 | .Q=>.pp none
inductive TK where
 |cell
 |slice (elem:Nat)
 |struct (offs:ao)
 |tuple (ts:ad)
 |map (key elem:Nat)
structure TI where
 Ma:TK
 sh:aA
 bytes:Nat
abbrev TT:=List (Nat×TI)
def jv:TT->Nat->Option TI
 |[],_=>none
 |(u,x)::r,t=>bif Nat.beq u t then some x else jv r t
def TA:Sh->Value->Bool
 | .I,.int .i64 0=>true
 | .U k,.int a 0=>decide (k=a)
 | .T,.bool false=>true
 | .S,.slice none 0 0=>true
 | .P,.pointer none=>true
 | .F,.nilFunc=>true
 | .M,.map none=>true
 | .Q,.pointer none=>true
 |_,_=>false
def TB{s:Sh}{v:Value}(h:TA s v=true):v=s.zero.v:=by
 unfold TA at h;split at h<;>first|rfl|(simp at h;subst h;rfl)|simp at h
def JP:ap->aA->Bool
 |[],[]=>true
 |v::b,s::a=>TA s v&&JP b a
 |_,_=>false
theorem NP:∀{b:ap}{a:aA},JP b a=true->b=a.map λs=>s.zero.v
 |[],[],_=>O
 |v::b,s::a,h=>by
  simp only[JP,eZ]at h;simp[TB h.1,NP h.2]
 |[],_::_,h=>by simp[JP]at h
 |_::_,[],h=>by simp[JP]at h
def Sn:afy->ao->Bool
 |[],[]=>true
 |f::a,(o,t)::r=>Nat.beq f.offset o&&Nat.beq f.type t&&Sn a r
 |_,_=>false
theorem Qh:∀{a:afy}{b:ao},Sn a b=true->a.map (λf=>(f.offset,f.type))=b
 |[],[],_=>O
 |f::a,(o,t)::r,h=>by
  simp only[Sn,eZ]at h;simp[gA h.1.1,gA h.1.2,Qh h.2]
 |[],_::_,h=>by simp[Sn]at h
 |_::_,[],h=>by simp[Sn]at h
def Bw:TypeDesc->aA->Bool
 | .bool,[.T]=>true
 | .int .i64,[.I]=>true
 | .int k,[.U k']=>decide (k=k')
 | .pointer _,[.P]=>true
 | .pointer _,[.Q]=>true
 | .func ..,[.F]=>true
 |_,_=>false
def Gb(i:TypeInfo)(a:TI)(b:Bool):Bool:=
 Nat.beq i.size a.sh.length&&Nat.beq i.bytes a.bytes&&
 (match i.zero with
  |some (.agg c)=>b&&JP c.toList a.sh
  |some z=>!b&&JP [z] a.sh
  |none=>false)
def tcm(t:Nat):Nat:=t+1000000
def aaD(P:Program)(t:Nat):Bool:=
 match P.underlying t with
 |some (.struct a)=>a.toList.all (λf=>f.name != "_")&&!P.stoodInHeld t&&!P.eqGuardType P.depth t
 |_=>false
def Ch(P:Program)(t:Nat)(a:TI):Bool:=
 match a.Ma with
 | .tuple _=>if t<1000000 then true else aaD P (t -1000000)
 | .slice e=>match P.info? t,P.underlying t with
  |some i,some (.slice b)=>Nat.beq e b&&Gb i a false
  |_,_=>false
 | .struct d=>match P.info? t,P.underlying t with
  |some i,some (.struct c)=>Sn c.toList d&&Gb i a true
  |_,_=>false
 | .map k e=>match P.info? t,P.underlying t with
  |some i,some (.map c b)=>Nat.beq k c&&Nat.beq e b&&Gb i a false
  |_,_=>false
 | .cell=>match P.info? t,P.underlying t with
  |some i,some d=>Bw d a.sh&&Gb i a false
  |_,_=>false
def yF(P:Program)(T:TT):Prop:=T.all (λx=>Ch P x.1 x.2)=true
def Vl:∀{T:TT}{t:Nat}{a:TI},jv T t=some a->(t,a)∈T
 |[],_,_,h=>by simp[jv]at h
 |(u,x)::r,t,a,h=>by
  simp only[jv]at h;cases b:Nat.beq u t
  .rw[b]at h;exact aX _ (Vl h)
  .grind [Nat.eq_of_beq_eq_true,List.mem_cons_self]
theorem yF.Ch{T:TT}(h:yF P T){a:TI}(b:jv T t=some a):Ch P t a=true:=
 LC.1 h _ (Vl b)
def yF.cmp{T:TT}(h:yF P T){l:ad}{c:aA}(a:jv T (tcm t)=some ⟨.tuple l,c,b⟩):aaD P t=true:=by
 have:=h.Ch a;simp only[Go.Vc.Ch]at this;rw[aW (by unfold tcm;omega),show tcm t -1000000=t by unfold tcm;omega]at this;exact this
@[grind cases] structure Pj (P:Program) (t:Nat) (ti:TI) (agg:Bool):Prop where
 afv:∃i,P.info? t=some i/\i.size=ti.sh.length/\i.bytes=ti.bytes/\
  ∃z,i.zero=some z/\z.cells.toList=(ti.sh.map λs=>s.zero.v)/\(agg=false->∀cs,z≠.agg cs)
theorem wF{b:TI}{i:TypeInfo}{a:Bool}(c:P.info? t=some i)(h:Gb i b a=true):Pj P t b a:=by
 constructor<;>grind [Gb,Nat.eq_of_beq_eq_true,Go.Value.cells,NP]
def nl{a:aA}(h:Ch P t ⟨.slice e,a,b⟩=true):P.underlying t=some (.slice e)/\Pj P t ⟨.slice e,a,b⟩ false:=by
 grind [Ch,Nat.eq_of_beq_eq_true,wF]
def Gm{k:Nat}{a:aA}(h:Ch P t ⟨.map k e,a,b⟩=true):P.underlying t=some (.map k e)/\Pj P t ⟨.map k e,a,b⟩ false:=by
 grind [Ch,Nat.eq_of_beq_eq_true,wF]
def qT{a:ao}{d:aA}(h:Ch P t ⟨.struct a,d,b⟩=true):
 (∃c,P.underlying t=some (.struct c)/\c.toList.map (λf=>(f.offset,f.type))=a)/\Pj P t ⟨.struct a,d,b⟩ true:=by
 grind [Ch,Qh,wF]
def qS{a:aA}(h:Ch P t ⟨.cell,a,b⟩=true):
 (∃d,P.underlying t=some d/\Bw d a=true)/\Pj P t ⟨.cell,a,b⟩ false:=by
 grind [Ch,wF]
def TI.agg(a:TI):Bool:=match a.Ma with| .struct _=>true|_=>false
def TI.yO(a:TI):Bool:=match a.Ma with| .tuple _=>true|_=>false
def np{T:TT}(f:yF P T){d:TI}(g:jv T t=some d)(j:d.yO=false)(w:World):
 (sizeOf t).run P w=.ok d.sh.length w:=by
 have h:=f.Ch g
 obtain⟨Ma,k,b⟩:=d
 have:∃i,P.info? t=some i/\i.size=k.length:=by
  cases Ma with
  |cell=>obtain⟨_,⟨i,a,c,_⟩⟩:=qS h;exact⟨i,a,c⟩
  |slice e=>obtain⟨_,⟨i,a,c,_⟩⟩:=nl h;exact⟨i,a,c⟩
  |map l e=>obtain⟨_,⟨i,a,c,_⟩⟩:=Gm h;exact⟨i,a,c⟩
  |struct o=>obtain⟨_,⟨i,a,c,_⟩⟩:=qT h;exact⟨i,a,c⟩
  |tuple l=>simp[TI.yO]at j
 obtain⟨i,a,c⟩:=this
 simp[sizeOf,typeInfo,a,c]
def KK{T:TT}(g:yF P T){f:TI}(j:jv T t=some f)(k:f.yO=false):
 ∃i,i.bytes=f.bytes/\i.size=f.sh.length/\(∀w,(typeInfo t).run P w=.ok i w)/\P.info? t=some i:=by
 have h:=g.Ch j
 obtain⟨Ma,l,b⟩:=f
 have:∃i,P.info? t=some i/\i.size=l.length/\i.bytes=b:=by
  cases Ma with
  |cell=>obtain⟨_,⟨i,a,c,d,_⟩⟩:=qS h;exact⟨i,a,c,d⟩
  |slice e=>obtain⟨_,⟨i,a,c,d,_⟩⟩:=nl h;exact⟨i,a,c,d⟩
  |map m e=>obtain⟨_,⟨i,a,c,d,_⟩⟩:=Gm h;exact⟨i,a,c,d⟩
  |struct o=>obtain⟨_,⟨i,a,c,d,_⟩⟩:=qT h;exact⟨i,a,c,d⟩
  |tuple m=>simp[TI.yO]at k
 obtain⟨i,a,c,d⟩:=this
 exact⟨i,d,c,λw=>by simp[typeInfo,a],a⟩
def Am{T:TT}(m:yF P T){k:TI}(n:jv T t=some k)(o:k.yO=false):
 ∃z,z.cells.toList=k.sh.map (λs=>s.zero.v)/\(∀w,(zeroValue t).run P w=.ok z w)/\(k.agg=false->∀a,z≠.agg a):=by
 have h:=m.Ch n
 obtain⟨Ma,l,b⟩:=k
 have:∃i,P.info? t=some i/\∃z,i.zero=some z/\z.cells.toList=(l.map λs=>s.zero.v)/\((TI.mk Ma l b).agg=false->∀a,z≠.agg a):=by
  cases Ma with
  |cell=>obtain⟨_,⟨i,a,g,j,z,c,d,f⟩⟩:=qS h;exact⟨i,a,z,c,d,λ_=>f O⟩
  |slice e=>obtain⟨_,⟨i,a,g,j,z,c,d,f⟩⟩:=nl h;exact⟨i,a,z,c,d,λ_=>f O⟩
  |map p e=>obtain⟨_,⟨i,a,g,j,z,c,d,f⟩⟩:=Gm h;exact⟨i,a,z,c,d,λ_=>f O⟩
  |struct p=>obtain⟨_,⟨i,a,g,j,z,c,d,f⟩⟩:=qT h;exact⟨i,a,z,c,d,λh=>by simp[TI.agg]at h⟩
  |tuple d=>simp[TI.yO]at o
 obtain⟨i,a,z,g,j,c⟩:=this
 exact⟨z,j,λw=>by simp[zeroValue,typeInfo,a,g],c⟩
def Ms{T:TT}(d:yF P T){a:TI}(f:jv T t=some a)(g:a.yO=false)(w:World):
 (isAgg t).run P w=.ok a.agg w:=by
 have h:=d.Ch f
 obtain⟨Ma,j,b⟩:=a
 cases Ma with
 |cell=>
  obtain⟨⟨i,hd,c⟩,_⟩:=qS h
  unfold Bw at c
  split at c<;>first|(simp at c;done)|simp[isAgg,run_underlying hd,TI.agg]
 |slice e=>obtain⟨hd,_⟩:=nl h;simp[isAgg,run_underlying hd,TI.agg]
 |map k e=>obtain⟨hd,_⟩:=Gm h;simp[isAgg,run_underlying hd,TI.agg]
 |struct o=>obtain⟨⟨c,hd,_⟩,_⟩:=qT h;simp[isAgg,run_underlying hd,TI.agg]
 |tuple c=>simp[TI.yO]at g
end
def oK:SV->Option Bool
 | .tt=>some true
 | .ff=>some false
 | .c (.t x)=>some x
 |_=>none
def SV.mS:SV->Bool
 | .jN=>false
 | .box _ _ _=>false
 | .DU _ _ _=>false
 |_=>true
def eI(n:Int):Int:=IntKind.i64.wrap n
def Mh{α:Type}:List α->Nat->Option α
 |[],_=>none
 |x::_,0=>some x
 |_::r,n+1=>Mh r n
theorem tQ{α:Type}:∀(l:List α)(n:Nat),Mh l n=l[n]?
 |[],_=>by simp[Mh]
 |x::_,0=>by simp[Mh]
 |_::r,n+1=>by simp[Mh,tQ r n]
def ldC(m:bh)(b o:Nat):Nat->aA->(ae->Prop)->Prop
 |_,[],k=>k []
 |j,s::r,k=>∃x:s.ty,aS m b (o+j)=some (s.mk x).v/\ldC m b o (j+1) r λl=>k (s.mk x::l)
def abd(a b:Int):Int:=eI ((a%18446744073709551616).toNat^^^(b%18446744073709551616).toNat:Nat)
def vB(c:BinOp)(a b:Int)(k:SV->Prop):Prop:=
 match c with
 | .add=>k (.c (.i (eI (a+b))))
 | .sub=>k (.c (.i (eI (a -b))))
 | .mul=>k (.c (.i (eI (a*b))))
 | .quo=>b≠0/\k (.c (.i (eI (a.tdiv b))))
 | .rem=>b≠0/\k (.c (.i (a.tmod b)))
 | .xor=>k (.c (.i (abd a b)))
 | .eql=>k (.c (.t (a==b)))
 | .neq=>k (.c (.t (a !=b)))
 | .lss=>k (.c (.t (decide (a<b))))
 | .leq=>k (.c (.t (decide (a<=b))))
 | .gtr=>k (.c (.t (decide (a>b))))
 | .geq=>k (.c (.t (decide (a>=b))))
 |_=>False
def aaz(c:BinOp)(a b:Bool)(k:SV->Prop):Prop:=
 match c with
 | .eql=>k (.c (.t (a==b)))
 | .neq=>k (.c (.t (!(a==b))))
 |_=>False
def aaP(a:BinOp)(s:E)(k:SV->Prop):Prop:=
 match a with
 | .eql=>k (.c (.t s.Er))
 | .neq=>k (.c (.t (!s.Er)))
 |_=>False
def aaQ(a:BinOp)(q:Option (Nat×Nat))(k:SV->Prop):Prop:=
 match a with
 | .eql=>k (.c (.t q.isNone))
 | .neq=>k (.c (.t (!q.isNone)))
 |_=>False
def unO(a:UnOp)(x:SV)(k:SV->Prop):Prop:=
 match a,x with
 | .not,.tt=>k .ff
 | .not,.ff=>k .tt
 | .not,.c (.t b)=>k (.c (.t (!b)))
 | .neg,.c (.i n)=>k (.c (.i (eI (0 -n))))
 |_,_=>False
def E.cut(x:E)(a d e:Nat):E:=
 match x with
 | .nil=>.nil
 | .mk b o _ c=>.mk b (if c=a then o else o+a*e) (d -a) (c -a)
 | .DG b o sp=>.DG b o sp
def SV.cells:SV->Option ae
 | .c x=>some [x]
 | .tt=>some [.t true]
 | .ff=>some [.t false]
 | .agg l=>some l
 |_=>none
def qO(l:ae)(b:Nat)(a:ae):ae:=
 match b,l with
 |0,l=>match a,l with
  |[],l=>l
  |n::a,_::l=>n::qO l 0 a
  |_::_,[]=>[]
 |b+1,x::l=>x::qO l b a
 |_+1,[]=>[]
termination_by structural l
def J2(T:TT)(c:Fr)(e:ao):ae->aG->(ae->Prop)->Prop
 |a,[],k=>k a
 |a,(i,x)::r,k=>
  match Mh e i,(ev c x).cells with
  |some (d,t),some b=>
   match jv T t with
   |some f=>bif !f.yO&&Nat.beq b.length f.sh.length&&Nat.ble (d+b.length) a.length then J2 T c e (qO a d b) r k else False
   |none=>False
  |_,_=>False
def zt(T:TT):ao->Bool
 |[]=>true
 |(_,t)::r=>(match jv T t with|some a=>!a.yO|none=>false)&&zt T r
def Rv(a:Fr)(x:Option Operand)(d:Int)(k:Int->Prop):Prop:=
 match x with
 |none=>k d
 |some x=>match ev a x with
  | .c (.i n)=>k n
  |_=>False
def ac4(T:TT)(t:Nat)(s:E)(n:Int)(k:SV->Prop):Prop:=
 match jv T t with
 |some ⟨.slice e,_,_⟩=>match jv T e with
  |some a=>bif a.yO then False else 0<=n/\n<(s.len:Int)/\k (.c (.p s.bu (s.off+n.toNat*a.sh.length)))
  |none=>False
 |_=>False
def UQ(T:TT)(m:bh)(t b o:Nat)(k:SV->Prop):Prop:=
 match jv T t with
 |some ⟨.struct _,a,_⟩=>ldC m b o 0 a λl=>k (.agg l)
 |some ⟨.cell,[s],_⟩=>∃x:s.ty,aS m b o=some (s.mk x).v/\k (.c (s.mk x))
 |some ⟨.slice _,[_],_⟩=>∃x:E,aS m b o=some x.v/\k (.c (.s x))
 |_=>False
def WO(T:TT)(a:Fr)(t:Nat)(s:E)(d c:Option Operand)(k:SV->Prop):Prop:=
 match jv T t with
 |some ⟨.slice e,_,_⟩=>match jv T e with
  |some b=>bif b.yO then False else
   Rv a d 0 λl=>Rv a c (s.len:Int) λh=>0<=l/\l<=h/\h<=(s.cap:Int)/\k (.c (.s (s.cut l.toNat h.toNat b.sh.length)))
  |none=>False
 |_=>False
def Tb(T:TT)(t f:Nat)(l:ae)(k:SV->Prop):Prop:=
 match jv T t with
 |some ⟨.struct c,_,_⟩=>match Mh c f with
  |some (b,u)=>match jv T u with
   |some a=>bif a.yO then False else bif a.agg then k (.agg ((l.drop b).take a.sh.length))else(match Mh l b with|some x=>k (.c x)|none=>False)
   |none=>False
  |none=>False
 |_=>False
def Ka(T:TT)(t f o:Nat)(mk:Nat->SV)(k:SV->Prop):Prop:=
 match jv T t with
 |some ⟨.struct c,_,_⟩=>match Mh c f with
  |some (b,u)=>match jv T u with
   |some a=>bif a.yO||Nat.beq a.sh.length 0 then False else k (mk (o+b))
   |none=>False
  |none=>False
 |_=>False
def OW(a b:Nat)(k:Prop):Prop:=a=b/\k
theorem kJ(b:Nat)(k:Prop):OW b b k=k:=by simp[OW]
def Lu:ae->Nat->Nat->Option ae
 |_,_,0=>some []
 |l,o,n+1=>match Mh l o,Lu l (o+1) n with
  |some c,some r=>some (c::r)
  |_,_=>none
def R8(T:TT)(t:Nat)(a:ae)(o:Nat)(k:SV->Prop):Prop:=
 match jv T t with
 |some ⟨.struct _,b,_⟩=>match Lu a o b.length with
  |some l=>k (.agg l)
  |none=>False
 |some ⟨.cell,[_],_⟩=>match Mh a o with
  |some c=>k (.c c)
  |none=>False
 |some ⟨.slice _,[_],_⟩=>match Mh a o with
  |some c=>k (.c c)
  |none=>False
 |some ⟨.map _ _,[_],_⟩=>match Mh a o with
  |some c=>k (.c c)
  |none=>False
 |_=>False
def Zg(T:TT)(c:Fr)(d:Builtin)(e:ad)(f:aD)(k:SV->Prop):Prop:=
 match d,e,f with
 | .len,[t],[x]=>match jv T t,ev c x with
  |some ⟨.slice _,_,_⟩,.c (.s s)=>k (.c (.i (s.len:Int)))
  |_,_=>False
 | .max,_,[x,y]=>match ev c x,ev c y with
  | .c (.i a),.c (.i b)=>k (.c (.i (if b>a then b else a)))
  |_,_=>False
 | .min,_,[x,y]=>match ev c x,ev c y with
  | .c (.i a),.c (.i b)=>k (.c (.i (if b<a then b else a)))
  |_,_=>False
 |_,_,_=>False
def eqC(T:TT):Nat->ao->ae->ae->Option Bool
 |_,[],[],[]=>some true
 |i,(o,u)::c,.i a::l,.i b::r=>bif Nat.beq o i then match jv T u,eqC T (i+1) c l r with
  |some ⟨.cell,[.I],_⟩,some z=>some (a==b&&z)
  |_,_=>none else none
 |_,_,_,_=>none
def eqA(T:TT)(t:Nat)(l r:ae)(k:SV->Prop):Prop:=
 match jv T (tcm t),jv T t with
 |some ⟨.tuple _,_,_⟩,some ⟨.struct a,_,_⟩=>match eqC T 0 a l r with
  |some z=>k (.c (.t z))
  |none=>False
 |_,_=>False
def rd(T:TT)(a:Fr)(m:bh)(k:SV->Prop):Op->Prop
 | .move x| .assign x=>k (ev a x)
 | .pick d c b=>match ev a d with
  | .tt=>k (ev a c)
  | .ff=>k (ev a b)
  | .c (.t x)=>match oK (ev a c),oK (ev a b)with
   |some y,some z=>k (.c (.t (bif x then y else z)))
   |_,_=>False
  |_=>False
 | .nilCheck x=>match ev a x with
  | .c (.p b o)=>k (.c (.p b o))
  | .c (.bp q b o)=>k (.c (.bp q b o))
  | .c (.fn (.func f) c d)=>k (.c (.fn (.func f) c d))
  | .c (.fv q)=>∃g,q.1=.func g/\k (.c (.fv q))
  | .c (.pp q)=>∃r,q=some r/\k (.c (.p r.1 r.2))
  |_=>False
 | .binOp d t x y _=>match ev a x,ev a y with
  | .c (.i c),.c (.i b)=>vB d c b k
  | .c (.s s),.c (.s .nil)=>match jv T t with
   |some ⟨.slice _,_,_⟩=>aaP d s k
   |_=>False
  | .c (.pp q),.c .pn=>match jv T t with
   |some ⟨.cell,[.Q],_⟩=>aaQ d q k
   |_=>False
  | .agg l,.agg r=>match d with
   | .eql=>eqA T t l r k
   |_=>False
  |sx,e=>match jv T t,oK sx,oK e with
   |some ⟨.cell,[.T],_⟩,some c,some b=>aaz d c b k
   |_,_,_=>False
 | .unOp d _ x=>unO d (ev a x) k
 | .convert s t x=>match jv T s,jv T t,ev a x with
  |some ⟨.cell,[_],_⟩,some ⟨.cell,[.I],_⟩,.c (.u _ n)=>k (.c (.i (eI n)))
  |_,_,_=>False
 | .fieldAddr t x f=>match ev a x with
  | .c (.p b o)=>Ka T t f o (λo=>.c (.p b o)) k
  | .c (.bp q b o)=>Ka T t f o (λo=>.c (.bp q b o)) k
  |_=>False
 | .field t x f=>match ev a x with
  | .agg l=>Tb T t f l k
  |_=>False
 | .indexAddr t x i=>match ev a x,ev a i with
  | .c (.s s),.c (.i n)=>ac4 T t s n k
  |_,_=>False
 | .load t x=>match ev a x with
  | .c (.p b o)=>UQ T m t b o k
  | .c (.bp q b o)=>match kK a q with
   | .box c _ d=>OW c b (R8 T t d o k)
   | .DU c _ d=>OW c b (R8 T t d o k)
   |_=>UQ T m t b o k
  |_=>False
 | .extract x i=>match ev a x with
  | .tup l=>match Mh l i with
   |some y=>k y.sv
   |none=>False
  |_=>False
 | .slice t x c b none=>match ev a x with
  | .c (.s s)=>WO T a t s c b k
  |_=>False
 | .build t c=>match jv T t with
  |some ⟨.struct b,d,_⟩=>bif zt T b then J2 T a b (d.map Sh.zero) c.toList λl=>k (.agg l)else False
  |_=>False
 | .call ⟨.builtin c,b,d⟩=>Zg T a c d.toList b.toList k
 |_=>False
def oX(a:Fr)(q b e:Nat)(l:ae):Prop:=kK a q=.box b e l\/kK a q=.DU b e l
@[grind cases] structure Bx (n:Nat) (fr:Fr) (m:bh):Prop where
 bu:∀q b e l,oX fr q b e l->m[b]? =some (.cells (l.map Ce.v).toArray e)
 VZ:∀q q' b e l b' e' l',q≠q'->oX fr q b e l->oX fr q' b' e' l'->b≠b'
 Nz:∀q b e l,oX fr q b e l->n<=q
def YT(T:TT)(c:Fr):Op->ao
 | .load t x=>match ev c x,jv T t with
  | .c (.p b o),some a=>(List.range a.sh.length).map λj=>(b,o+j)
  | .c (.bp _ b o),some a=>(List.range a.sh.length).map λj=>(b,o+j)
  |_,_=>[]
 |_=>[]
section
variable{s:SV}{b:Bool}
theorem SV.Is.eq{v:Value}(h:s.Is v)(a:s.mS=true):v=s.v:=by
 cases s<;>first|exact h|simp[SV.mS]at a
def rj:s.Is s.v:=by cases s<;>first|rfl|trivial
theorem mD.eq{n:Nat}{b:Fr}{a:Act}(h:mD n b a){x:Operand}{s:SV}(c:Vc.ev b x=s)(d:s.mS=true):a.eval x=s.v:=by
 have:=h.ev x;grind [SV.Is.eq]
theorem A2(h:oK s=some b):s.mS=true/\s.v=.bool b:=by
 unfold oK at h;grind [SV.mS,SV.v,Ce.v]
def mD.evB{n:Nat}{c:Fr}{a:Act}(h:mD n c a){x:Operand}(d:oK (Vc.ev c x)=some b):a.eval x=.bool b:=by
 rw[h.eq O (A2 d).1,(A2 d).2]
theorem zQ(b o n:Nat):(⟨b,o,none⟩:Addr).add n=⟨b,o+n,none⟩:=by
 grind [Go.Addr.add]
theorem Gf:∀(l:ae)(a:Nat)(b:ae)(i:Nat),a+b.length<=l.length->
 (qO l a b)[i]? =if a<=i/\i<a+b.length then b[i -a]? else l[i]?
 |[],0,[],i,_=>by simp[qO]
 |[],0,_::_,_,h=>by simp at h
 |[],_+1,_,_,h=>by simp at h
 |x::l,0,[],i,_=>by simp[qO]
 |x::l,0,n::b,i,h=>by
  simp only[qO];cases i with
  |zero=>simp
  |succ i=>
   have:=Gf l 0 b i cB;simp only[kE,this];simp
 |x::l,a+1,b,i,h=>by
  simp only[qO];cases i with
  |zero=>simp
  |succ i=>
   have:=Gf l a b i cB;simp only[kE,this];have e:(i+1 -(a+1))=i -a:=V;simp only[e];congr 1;simp;omega
def Sg(c:ap):∀(k a:Nat)(b:Array Value)(i:Nat),
 ((c.zipIdx k).foldl (λ(d:Array Value)(p:Value×Nat)=>d.setIfInBounds (a+p.2) p.1) b)[i]? =
  if a+k<=i/\i<a+k+c.length/\i<b.size then c[i -(a+k)]? else b[i]? :=by
 induction c with
 |nil=>intro k a b i;simp;intro h;omega
 |cons v c d=>
  intro k a b i
  simp only[List.zipIdx_cons,List.foldl_cons,d,Array.size_setIfInBounds,dy]
  by_cases e:i=a+k
  .grind [Array.size]
  .grind [Array.getElem?_setIfInBounds_ne,List.length,Array.size,List.getElem?_cons_succ]
def tC{l:ae}(h:s.cells=some l):s.mS=true/\s.v.cells=(l.map Ce.v).toArray:=by
 cases s with
 |c x=>simp[SV.cells]at h;subst h;exact⟨O,by simp[SV.v,Ce.mM]⟩
 |tt=>simp[SV.cells]at h;subst h;exact⟨O,O⟩
 |ff=>simp[SV.cells]at h;subst h;exact⟨O,O⟩
 |agg a=>simp[SV.cells]at h;subst h;exact⟨O,O⟩
 |tup _=>simp[SV.cells]at h
 |un=>simp[SV.cells]at h
 |jN=>simp[SV.cells]at h
 |box _ _ _=>simp[SV.cells]at h
 |DU _ _ _=>simp[SV.cells]at h
end
section
variable{x y:Operand}{c e:TypeId}{z b f o:Nat}{i:ae}
variable{g:Program}{T:TT}
def sT(g:Program)(T:TT)(h:Fr)(j:bh)(a:Act)(o:Oper)(k:SV->Prop):Prop:=
 ∃x v,k x/\x.Is v/\∀w:World,(∀q∈YT T h o.op,aS w.heap q.1 q.2=aS j q.1 q.2)->(execOp a.eval o).run g w=.ok (.value v) w
variable{n:Nat}{h:Fr}{a:Act}{j:bh}{k:SV->Prop}{q:Option Tmp}{v:TypeId}{u:String}{p:Array Edge}{r:Option (Nat×Bool)}
def ZD(c:mD n h a)(b:k (ev h x)):sT g T h j a ⟨q,.move x,v,u,p,r⟩ k:=
 ⟨_,_,b,c.ev x,λw _=>by simp[execOp]⟩
def Ys(c:mD n h a)(b:k (ev h x)):sT g T h j a ⟨q,.assign x,v,u,p,r⟩ k:=
 ⟨_,_,b,c.ev x,λw _=>by simp[execOp]⟩
def Wj(d:mD n h a){f:Operand}(c:rd T h j k (.pick f x y)):sT g T h j a ⟨q,.pick f x y,v,u,p,r⟩ k:=by
 simp only[rd]at c;split at c
 .rename_i e;exact⟨_,_,c,d.ev x,λw _=>by simp[execOp,d.eq e O,SV.v,asBool]⟩
 .rename_i e;exact⟨_,_,c,d.ev y,λw _=>by simp[execOp,d.eq e O,SV.v,asBool]⟩
 .rename_i b e;split at c
  .rename_i m o i l;refine⟨_,_,c,rj,λw _=>?_⟩;simp[execOp,d.eq e O,SV.v,Ce.v,asBool,d.evB i,d.evB l];try (cases b<;>rfl)
  .exact c.elim
 .exact c.elim
def PQ(e:mD n h a)(d:rd T h j k (.nilCheck x)):sT g T h j a ⟨q,.nilCheck x,v,u,p,r⟩ k:=by
 simp only[rd]at d;split at d
 .rename_i b o c;exact⟨_,_,d,rj,λw _=>by simp[execOp,e.eq c O,SV.v,Ce.v]⟩
 .rename_i l b o c;exact⟨_,_,d,rj,λw _=>by simp[execOp,e.eq c O,SV.v,Ce.v]⟩
 .rename_i f i m c;exact⟨_,_,d,rj,λw _=>by simp[execOp,e.eq c O,SV.v,Ce.v]⟩
 .rename_i l c;obtain⟨s,m,i⟩:=d;exact⟨_,_,i,rj,λw _=>by simp[execOp,e.eq c O,SV.v,Ce.v,m]⟩
 .rename_i l c;obtain⟨m,rfl,i⟩:=d;exact⟨_,_,i,rj,λw _=>by simp[execOp,e.eq c O,SV.v,Ce.v]⟩
 .exact d.elim
def aaA{a:BinOp}{x y:Int}(h:vB a x y k):∃s v,k s/\s.Is v/\∀w:World,(binOp a c (.int .i64 x) (.int .i64 y)).run g w=.ok v w:=by
 cases a<;>simp only[vB]at h
 case quo=>exact⟨_,_,h.2,rj,λw=>by simp[binOp,Op.intDiv,h.1,SV.v,Ce.v,eI]⟩
 case rem=>exact⟨_,_,h.2,rj,λw=>by simp[binOp,Op.intDiv,h.1,SV.v,Ce.v]⟩
 case xor=>exact⟨_,_,h,rj,λw=>by simp[binOp,Op.intBits,SV.v,Ce.v,eI,abd,IntKind.bits];rfl⟩
 all_goals exact⟨_,_,h,rj,λw=>by simp[binOp,Op.intArith,Op.intCmp,SV.v,Ce.v,eI]⟩
def Ut(a:BinOp)(c:TypeId)(d e:Operand)(b:IntKind)(x:Int)(y:Value)(w:World):(eqGuard a c d e (.int b x) y).run g w=.ok () w:=by
 cases a<;>simp[eqGuard]
def S0(a:BinOp)(c:TypeId)(b d:Operand)(x:Bool)(y:Value)(w:World):(eqGuard a c b d (.bool x) y).run g w=.ok () w:=by
 cases a<;>simp[eqGuard]
def Wa(hd:g.underlying c=some .bool)(x y:Bool)(w:World):(Op.equal c (.bool x) (.bool y)).run g w=.ok (x==y) w:=by
 have:Op.equal c (.bool x) (.bool y)=Op.equalIn (9999+1) c (.bool x) (.bool y):=rfl;rw[this];generalize 9999=z;simp[Op.equalIn,run_underlying hd]
def NS(hd:g.underlying c=some (.slice e))(s:E)(w:World):(Op.equal c s.v (.slice none 0 0)).run g w=.ok s.Er w:=by
 have:Op.equal c s.v (.slice none 0 0)=Op.equalIn (9999+1) c s.v (.slice none 0 0):=rfl;rw[this];generalize 9999=z;cases s<;>simp[Op.equalIn,run_underlying hd,E.v]
def Rl(hd:g.underlying c=some (.pointer e))(a:Option Addr)(w:World):(Op.equal c (.pointer a) (.pointer none)).run g w=.ok a.isNone w:=by
 have:Op.equal c (.pointer a) (.pointer none)=Op.equalIn (9999+1) c (.pointer a) (.pointer none):=rfl;rw[this];generalize 9999=z;cases a<;>simp[Op.equalIn,run_underlying hd]
def Uu(b:BinOp)(c:TypeId)(d e:Operand)(a:Option Addr)(y:Value)(w:World):(eqGuard b c d e (.pointer a) y).run g w=.ok () w:=by
 cases b<;>simp[eqGuard]
def Uv(hd:g.underlying c=some (.int .i64))(x y:Int)(w:World):(Op.equalIn (z+1) c (.int .i64 x) (.int .i64 y)).run g w=.ok (x==y) w:=by
 simp[Op.equalIn,run_underlying hd]
def UW(d:yF g T){u:Nat}(e:jv T u=some ⟨.cell,[.I],b⟩){a:Array Value}{c:Nat}{v:Value}(h:a[c]? =some v)(w:World):(part u a c).run g w=.ok v w:=by
 simp[part,Ms d e O,TI.agg,h]
def Zy(n:yF g T){X Y:Array Value}(x:World):∀(h:afy)(e:Nat)(j:ao)(i r:ae)(l:Bool),h.map (λf=>(f.offset,f.type))=j->(∀f∈h,f.name≠ "_")->
 (∀k d,i[k]? =some d->X[e+k]? =some d.v)->(∀k d,r[k]? =some d->Y[e+k]? =some d.v)->eqC T e j i r=some l->
 (forIn (m:=Sem) h ((none,()):Option Bool×PUnit) λf _=>do
  if f.name≠ "_" then
   if !(<-Op.equalIn (z+1) f.type (<-part f.type X f.offset) (<-part f.type Y f.offset))then pure (.done (some false,()))else pure (.yield (none,()))
  else pure (.yield (none,()))).run g x=.ok (if l=true then(none,())else(some false,())) x:=by
 intro h
 induction h with
 |nil=>
  intro e j i r l s t p q c
  subst s
  cases i<;>cases r<;>simp[eqC]at c
  subst c
  simp
 |cons f h I=>
  intro e j i r l s t p q c
  subst s
  simp only[eK]at c
  unfold eqC at c
  split at c
  .simp at*
  .rename_i e _ _ _ _ o N j a i b r A
   obtain⟨⟨rfl,rfl⟩,rfl⟩:=sp A
   cases v:Nat.beq f.offset e
   .grind
   .rw[v]at c;simp only[pK]at c
    have w:=gA v
    split at c
    .rename_i K J u H
     simp only[VB]at c
     obtain⟨⟨y,C,L⟩,_⟩:=qS (n.Ch u)
     have E:y=.int .i64:=by grind [Bw]
     subst E
     have F:X[f.offset]? =some (.int .i64 a):=by have:=p 0 (.i a) O;rw[w];exact this
     have G:Y[f.offset]? =some (.int .i64 b):=by have:=q 0 (.i b) O;rw[w];exact this
     have M:=I (e+1) _ i r J O (λB D=>t B (aX _ D)) (λk d B=>by have:=p (k+1) d cB;rw[<-this];congr 1;omega) (λk d B=>by have:=q (k+1) d cB;rw[<-this];congr 1;omega) H
     rw[List.forIn_cons,ez,bn (t f cK)]
     simp only[ez,UW n u F,UW n u G,dq,Uv C]
     grind [Bool.not_true,Bool.false_eq_true,Go.Sem.run_pure,Go.Result.andThen_ok]
    .simp at c
  .simp at c
def Ta(j:yF g T){a:Array Field}(p:g.underlying c=some (.struct a))(o:g.stoodInHeld c=false)(n:∀f∈a.toList,f.name≠ "_"){r:ae}{b:Bool}
 (l:eqC T 0 (a.toList.map λf=>(f.offset,f.type)) i r=some b)(w:World):(Op.equal c (.agg (i.map Ce.v).toArray) (.agg (r.map Ce.v).toArray)).run g w=.ok b w:=by
 have:Op.equal c (.agg (i.map Ce.v).toArray) (.agg (r.map Ce.v).toArray)=Op.equalIn (9998+1+1) c (.agg (i.map Ce.v).toArray) (.agg (r.map Ce.v).toArray):=rfl
 rw[this]
 generalize 9998=z
 rw[Op.equalIn]
 simp only[ez,run_underlying p,dq]
 have m:=Zy j (z:=z) (X:=(i.map Ce.v).toArray) (Y:=(r.map Ce.v).toArray) w a.toList 0 _ i r b O n (λk h e=>by simp[e]) (λk h e=>by simp[e]) l
 have e:(program:Sem Program).run g w=.ok g w:=rfl
 rw[e,dq,aW (by simp[o]),ez,<-Array.forIn_toList,m]
 cases b<;>rfl
def Yk(h:aaD g c=true):∃a,g.underlying c=some (.struct a)/\(∀f∈a.toList,f.name≠ "_")/\g.stoodInHeld c=false/\g.eqGuardType g.depth c=false:=by
 grind [aaD,List.all_eq_true,Bool.not_eq_true']
def Us(h:g.eqGuardType g.depth c=false)(e f:Operand)(a b:Array Value)(w:World):(eqGuard .eql c e f (.agg a) (.agg b)).run g w=.ok () w:=by
 have d:(program:Sem Program).run g w=.ok g w:=rfl;simp only[eqGuard];simp[d,h]
def Rk(a:BinOp)(c:TypeId)(b d:Operand)(s:E)(y:Value)(w:World):(eqGuard a c b d s.v y).run g w=.ok () w:=by
 cases s<;>cases a<;>simp[eqGuard,E.v]
def UD(A:yF g T)(f:mD n h a){C:BinOp}{I:TypeId}(b:rd T h j k (.binOp C c x y I)):sT g T h j a ⟨q,.binOp C c x y I,v,u,p,r⟩ k:=by
 simp only[rd]at b;split at b
 .rename_i Q d l m;obtain⟨w,F,B,s,E⟩:=aaA (g:=g) (c:=c) b;refine⟨w,F,B,s,λD _=>?_⟩;simp only[execOp,f.eq l O,f.eq m O,SV.v,Ce.v,ez];simp[Ut,E]
 .rename_i w l m;split at b
  .rename_i e K J B;have s:=(nl (A.Ch B)).1;have G:a.eval x=w.v:=f.eq l O;have H:a.eval y=.slice none 0 0:=f.eq m O;cases C<;>simp only[aaP]at b
   all_goals
    first
    |exact b.elim
    |exact⟨_,_,b,rj,λD _=>by
     have E:∀o:BinOp,o=.eql\/o=.neq->binOp o c w.v (.slice none 0 0)=(if o=.eql then(do pure (.bool (<-Op.equal c w.v (.slice none 0 0))))else(do pure (.bool (!(<-Op.equal c w.v (.slice none 0 0)))))):=by
      intro o F;rcases F with rfl|rfl<;>cases w<;>rfl
     simp only[execOp,G,H,ez,Rk,dq];rw[E _ bO];simp[NS s,SV.v,Ce.v]⟩
  .exact b.elim
 .rename_i d l m;split at b
  .rename_i J B;obtain⟨⟨z,hd,M⟩,_⟩:=qS (A.Ch B);have s:∃e,g.underlying c=some (.pointer e):=by cases z<;>simp_all [Bw]
   obtain⟨e,s⟩:=s;have G:a.eval x=.pointer (d.map λd=>⟨d.1,d.2,none⟩):=f.eq l O;have H:a.eval y=.pointer none:=f.eq m O;cases C<;>simp only[aaQ]at b
   all_goals
    first
    |exact b.elim
    |exact⟨_,_,b,rj,λD _=>by
     have E:∀o:BinOp,o=.eql\/o=.neq->binOp o c (.pointer (d.map λd=>(⟨d.1,d.2,none⟩:Addr))) (.pointer none)=(if o=.eql then(do pure (.bool (<-Op.equal c (.pointer (d.map λd=>(⟨d.1,d.2,none⟩:Addr))) (.pointer none))))else(do pure (.bool (!(<-Op.equal c (.pointer (d.map λd=>(⟨d.1,d.2,none⟩:Addr))) (.pointer none)))))):=by
      intro o F;rcases F with rfl|rfl<;>rfl
     simp only[execOp,G,H,ez,Uu,dq];rw[E _ bO];simp[Rl s,SV.v,Ce.v]⟩
  .exact b.elim
 .rename_i i R l m;split at b
  .unfold eqA at b;split at b
   .rename_i H B;split at b
    .rename_i V E;obtain⟨S,s,L,N,J⟩:=Yk (A.cmp H);obtain⟨⟨U,w,K⟩,_⟩:=qT (A.Ch B);rw[s]at w;obtain rfl:=(TypeDesc.struct.inj (sj w));rw[<-K]at E;refine⟨_,_,b,rj,λD _=>?_⟩;have F:a.eval x=.agg (i.map Ce.v).toArray:=f.eq l O;have G:a.eval y=.agg (R.map Ce.v).toArray:=f.eq m O;simp only[execOp,F,G,ez,Us J,dq,binOp,Ta A s N L E];rfl
    .exact b.elim
   .exact b.elim
  .exact b.elim
 .split at b
  .rename_i Q d w l m;obtain⟨⟨z,hd,M⟩,_⟩:=qS (A.Ch w);have s:z=.bool:=by
    cases z<;>simp_all [Bw]
   subst s;cases C<;>simp only[aaz]at b
   all_goals
    first
    |exact b.elim
    |exact⟨_,_,b,rj,λD _=>by
     simp only[execOp,f.evB l,f.evB m,ez,S0,Result.andThen,binOp,Wa hd];rfl⟩
  .exact b.elim
def Rp(d:yF g T)(i:mD n h a){s:TypeId}(b:rd T h j k (.convert s c x)):sT g T h j a ⟨q,.convert s c x,v,u,p,r⟩ k:=by
 simp only[rd]at b;split at b
 .rename_i B b1 b2 y A o t w;obtain⟨⟨z,hd,_⟩,_⟩:=qS (d.Ch o);obtain⟨⟨e,l,f⟩,_⟩:=qS (d.Ch t);have m:e=.int .i64:=by unfold Bw at f;split at f<;>simp_all
  subst m;exact⟨_,_,b,rj,λC _=>by
   simp only[execOp,i.eq w O,SV.v,Ce.v,ez];simp[convert,run_underlying hd,run_underlying l,Conv.intToInt,eI]⟩
 .exact b.elim
def Wl(d:mD n h a){f:UnOp}(b:rd T h j k (.unOp f c x)):sT g T h j a ⟨q,.unOp f c x,v,u,p,r⟩ k:=by
 simp only[rd]at b;generalize e:ev h x=sx at b;unfold unO at b;split at b
 .exact⟨_,_,b,rj,λw _=>by simp[execOp,d.eq e O,SV.v,Op.unary]⟩
 .exact⟨_,_,b,rj,λw _=>by simp[execOp,d.eq e O,SV.v,Op.unary]⟩
 .exact⟨_,_,b,rj,λw _=>by simp[execOp,d.eq e O,SV.v,Ce.v,Op.unary]⟩
 .exact⟨_,_,b,rj,λw _=>by simp[execOp,d.eq e O,SV.v,Ce.v,Op.unary,Op.intArith,eI]⟩
 .exact b.elim
def HP(m:yF g T){mk:Nat->SV}(D:∀o,(mk o).v=.pointer (some ⟨b,o,none⟩))(I:a.eval x=.pointer (some ⟨b,o,none⟩))(d:Ka T c f o mk k):
 sT g T h j a ⟨q,.fieldAddr c x f,v,u,p,r⟩ k:=by
 unfold Ka at d
 split at d
 .rename_i L M J G
  split at d
  .rename_i K N s
   split at d
   .rename_i l H
    cases i:(l.yO||Nat.beq l.sh.length 0)
    .rw[i]at d
     simp only[cU]at i
     obtain⟨⟨y,B,C⟩,_⟩:=qT (m.Ch G)
     rw[tQ,<-C,eJ]at s
     obtain⟨t,z,n⟩:=jR.1 s
     simp only[SE]at n
     obtain⟨rfl,rfl⟩:=n
     have F:=λw=>np m H i.1 w
     have E:l.sh.length≠0:=λe=>by rw[e]at i;simp at i
     refine⟨_,_,d,rj,λw _=>?_⟩
     have A:y[f]? =some t:=sp z
     rw[D]
     simp[execOp,Instr.fieldAt,I,run_underlying B,A,Instr.sureAddr,fieldPlace,F,E,zQ]
    .rw[i]at d;exact d.elim
   .exact d.elim
  .exact d.elim
 .exact d.elim
def NU(l:yF g T)(i:mD n h a)(d:rd T h j k (.fieldAddr c x f)):sT g T h j a ⟨q,.fieldAddr c x f,v,u,p,r⟩ k:=by
 simp only[rd]at d;split at d
 .rename_i b o e;exact HP l (λo=>O) (i.eq e O) d
 .rename_i m b o e;exact HP l (λo=>O) (i.eq e O) d
 .exact d.elim
def UF(l:yF g T)(m:mD n h a)(b:rd T h j k (.field c x f)):sT g T h j a ⟨q,.field c x f,v,u,p,r⟩ k:=by
 simp only[rd]at b;split at b
 .rename_i i C;unfold Tb at b;split at b
  .rename_i N P L K;split at b
   .rename_i M Q A;split at b
    .rename_i E B;cases d:E.yO
     .rw[d]at b;obtain⟨⟨G,z,I⟩,_⟩:=qT (l.Ch K);rw[tQ,<-I,eJ]at A;obtain⟨F,H,s⟩:=jR.1 A;simp only[SE]at s;obtain⟨rfl,rfl⟩:=s;have J:=λw=>np l B d w;have o:=λw=>Ms l B d w;have t:G[f]? =some F:=sp H;cases e:E.agg
      .simp only[e,zK]at b;split at b
       .rename_i y D;refine⟨_,_,b,rj,λw _=>?_⟩;rw[tQ]at D;simp[execOp,Instr.field,m.eq C O,SV.v,run_underlying z,t,asAgg,part,o,e,D]
       .exact b.elim
      .simp only[e,zK,pK]at b;refine⟨_,_,b,rj,λw _=>?_⟩;simp[execOp,Instr.field,m.eq C O,SV.v,run_underlying z,t,asAgg,part,o,e,J,List.map_drop,List.map_take]
     .rw[d]at b;exact b.elim
    .exact b.elim
   .exact b.elim
  .exact b.elim
 .exact b.elim
def NV(m:yF g T)(l:mD n h a)(d:rd T h j k (.indexAddr c x y)):sT g T h j a ⟨q,.indexAddr c x y,v,u,p,r⟩ k:=by
 simp only[rd]at d;split at d
 .rename_i G K D F;unfold ac4 at d;split at d
  .rename_i e M I B;split at d
   .rename_i H z;cases i:H.yO
    .rw[i]at d;obtain⟨s,f,t⟩:=d;have C:=(nl (m.Ch B)).1;have A:=λw=>np m z i w;cases G with
     |nil=>simp[E.len]at f;omega
     |DG _ _ _=>simp[E.len]at f;omega
     |mk b o L J=>
      refine⟨_,_,t,rj,λw _=>?_⟩;simp only[E.len]at f;simp[execOp,Instr.indexAt,l.eq D O,l.eq F O,SV.v,Ce.v,E.v,asIntOf,run_underlying C,s,f,A,zQ,E.bu,E.off]
    .rw[i]at d;exact d.elim
   .exact d.elim
  .exact d.elim
 .exact d.elim
def UO:∀(d:aA)(b o c:Nat)(k:ae->Prop),ldC j b o c d k->∃i,k i/\i.length=d.length/\∀a,a<d.length->aS j b (o+c+a)=(i[a]?).map Ce.v
 |[],_,_,_,_,h=>⟨[],h,O,λa e=>by simp at e⟩
 |s::r,b,o,c,k,h=>by
  obtain⟨x,m,h⟩:=h;obtain⟨i,f,g,l⟩:=UO r b o (c+1) _ h;refine⟨s.mk x::i,f,by simp[g],λa e=>?_⟩;grind
def qJ(A:yF g T)(H:a.eval x=.pointer (some ⟨b,o,none⟩)){e:TI}(G:jv T c=some e)(F:e.yO=false)
 (J:∀d,d<e.sh.length->(b,o+d)∈YT T h (.load c x))(D:i.length=e.sh.length)(K:∀y,y<e.sh.length->aS j b (o+y)=(i[y]?).map Ce.v)
 {s:SV}(N:(e.agg=true/\s.v=.agg (i.map Ce.v).toArray)\/(e.agg=false/\∃m,i=[m]/\s.v=m.v))(M:k s):
 sT g T h j a ⟨q,.load c x,v,u,p,r⟩ k:=by
 refine⟨s,s.v,M,rj,λl Q=>?_⟩
 have O:=np A G F l
 have B:=Ms A G F l
 have C:∀d,d<e.sh.length->aS l.heap b (o+d)=(i[d]?).map Ce.v:=λd f=>by rw[Q (b,o+d) (J d f),K d f]
 rcases N with⟨n,t⟩|⟨n,m,t,I⟩
 .have E:=run_loadCells_list (P:=g) (w:=l) ⟨b,o,none⟩ (i.map Ce.v) (λd R f=>by
   rw[zQ,DX];have L:d<e.sh.length:=by
    rcases dJ d e.sh.length with z|z
    .exact z
    .rw[lp eX]at f;simp at f
   rw[C d L,<-eJ,f])
  simp only[jW]at E
  simp only[execOp,Instr.loadAt,H,Instr.sureAddr,loadVar,ez,iK,B,n,dq,O,yf]
  simp[<-D,E,t]
 .subst t
  have z:=C 0 (by rw[<-D];simp)
  simp at z
  simp only[execOp,Instr.loadAt,H,Instr.sureAddr,loadVar,ez,iK,B,n,dq]
  simp[DX,z,I]
def Nv(C:yF g T)(H:mD n h a)(D:a.eval x=.pointer (some ⟨b,o,none⟩))
 (B:∀d f,jv T c=some d->f<d.sh.length->(b,o+f)∈YT T h (.load c x))(m:UQ T j c b o k):sT g T h j a ⟨q,.load c x,v,u,p,r⟩ k:=by
 unfold UQ at m
 split at m
 .rename_i I J F d
  obtain⟨i,z,G,E⟩:=UO _ _ _ _ _ m
  exact qJ C D d O (λf w=>B _ f d w) G (λA t=>by simpa using E A t) (s:=.agg i) (bC ⟨O,O⟩) z
 .rename_i G F d
  obtain⟨y,E,z⟩:=m
  exact qJ C D d O (λf w=>B _ f d w) (i:=[G.mk y]) O (λA t=>by
   have:A=0:=sp t;subst this;exact E) (s:=.c (G.mk y)) (bR ⟨O,_,O,O⟩) z
 .rename_i e G F d
  obtain⟨y,E,z⟩:=m
  exact qJ C D d O (λf w=>B _ f d w) (i:=[.s y]) O (λA t=>by
   have:A=0:=sp t;subst this;exact E) (s:=.c (.s y)) (bR ⟨O,_,O,O⟩) z
 .exact m.elim
def QY:∀{a:ae}{b o:Nat}{i:ae},Lu a o b=some i->i.length=b/\∀c,c<b->a[o+c]? =i[c]?
 |a,0,o,i,h=>by simp[Lu]at h;subst h;simp
 |a,b+1,o,i,h=>by
  simp only[Lu]at h;split at h
  .rename_i e r j d;simp at h;subst h;obtain⟨f,g⟩:=QY d;constructor<;>grind [tQ]
  .simp at h
def Nu(C:yF g T)(K:mD n h a){e:Nat}{G:ae}(E:a.eval x=.pointer (some ⟨b,o,none⟩))
 (B:∀d t,jv T c=some d->t<d.sh.length->(b,o+t)∈YT T h (.load c x))(H:j[b]? =some (.cells (G.map Ce.v).toArray e))(d:R8 T c G o k):
 sT g T h j a ⟨q,.load c x,v,u,p,r⟩ k:=by
 have D:∀m,aS j b m=(G[m]?).map Ce.v:=λm=>by simp[aS,H]
 unfold R8 at d
 split at d
 .rename_i J L F f
  split at d
  .rename_i i I
   obtain⟨w,y⟩:=QY I
   exact qJ C E f O (λt A=>B _ t f A) w (λm z=>by rw[D,y m z]) (s:=.agg i) (bC ⟨O,O⟩) d
  .exact d.elim
 .rename_i I F f
  split at d
  .rename_i w y
   rw[tQ]at y
   exact qJ C E f O (λt A=>B _ t f A) (i:=[w]) O (λm z=>by
    have:m=0:=sp z;subst this;rw[D];simp[y]) (s:=.c w) (bR ⟨O,_,O,O⟩) d
  .exact d.elim
 .rename_i e I F f
  split at d
  .rename_i w y
   rw[tQ]at y
   exact qJ C E f O (λt A=>B _ t f A) (i:=[w]) O (λm z=>by
    have:m=0:=sp z;subst this;rw[D];simp[y]) (s:=.c w) (bR ⟨O,_,O,O⟩) d
  .exact d.elim
 .rename_i L J I F f
  split at d
  .rename_i w y
   rw[tQ]at y
   exact qJ C E f O (λt A=>B _ t f A) (i:=[w]) O (λm z=>by
    have:m=0:=sp z;subst this;rw[D];simp[y]) (s:=.c w) (bR ⟨O,_,O,O⟩) d
  .exact d.elim
 .exact d.elim
def Wh(m:yF g T)(f:mD n h a)(B:Bx n h j)(d:rd T h j k (.load c x)):sT g T h j a ⟨q,.load c x,v,u,p,r⟩ k:=by
 simp only[rd]at d;split at d
 .rename_i b o i;exact Nv m f (f.eq i O) (λs l A z=>by simp only[YT,i,A];exact gK.2 ⟨l,qY.2 z,O⟩) d
 .rename_i C b o i;have w:∀s l,jv T c=some s->l<s.sh.length->(b,o+l)∈YT T h (.load c x):=λs l A z=>by simp only[YT,i,A];exact gK.2 ⟨l,qY.2 z,O⟩
  split at d
  .rename_i D e t y;obtain⟨rfl,d⟩:=d;exact Nu m f (f.eq i O) w (B.bu C _ e t (bC y)) d
  .rename_i D e t y;obtain⟨rfl,d⟩:=d;exact Nu m f (f.eq i O) w (B.bu C _ e t (bR y)) d
  .exact Nv m f (f.eq i O) w d
 .exact d.elim
end
section
variable{x:Operand}{t:TypeId}
variable{P:Program}{T:TT}
variable{n:Nat}{b:Fr}{a:Act}{m:bh}{k:SV->Prop}{d:Option Tmp}{g:TypeId}{f:String}{c:Array Edge}{e:Option (Nat×Bool)}
def Rq(l:mD n b a){j:Nat}(h:rd T b m k (.extract x j)):sT P T b m a ⟨d,.extract x j,g,f,c,e⟩ k:=by
 simp only[rd]at h;split at h
 .rename_i p o;split at h
  .rename_i y i;refine⟨_,_,h,rj,λw _=>?_⟩;rw[tQ]at i;rw[AV.afo];have:a.eval x=.tuple (p.map AV.v).toArray:=l.eq o O;simp[execOp,Instr.extract,this,i]
  .exact h.elim
 .exact h.elim
def So(c:mD n b a){x:Option Operand}{d:Int}{k:Int->Prop}(h:Rv b x d k):
 (x=none/\k d)\/∃y i,x=some y/\a.eval y=.int .i64 i/\k i:=by
 unfold Rv at h
 split at h
 .exact bC ⟨O,h⟩
 .rename_i y
  split at h
  .rename_i i e
   exact bR ⟨y,i,O,c.eq e O,h⟩
  .exact h.elim
def tU{k:IntKind}{i:Int}{y:Nat}{c:BoundsCode}(a:0<=i)(b:i<=y)(w:World):(Instr.sliceBound (.int k i) y c).run P w=.ok i.toNat w:=by
 simp[Instr.sliceBound,asIntOf,a,b]
def adF(b o l c a d e:Nat):(E.cut (.mk b o l c) a d e).v=.slice (if c=a then some ⟨b,o,none⟩else(some (⟨b,o,none⟩:Addr)).map (·.add (a*e))) (d -a) (c -a):=by
 show Value.slice _ _ _=_;grind [zQ]
def UG(K:yF P T)(r:mD n b a){A y:Option Operand}(i:rd T b m k (.slice t x A y none)):sT P T b m a ⟨d,.slice t x A y none,g,f,c,e⟩ k:=by
 simp only[rd]at i;split at i
 .rename_i s H;unfold WO at i;split at i
  .rename_i v Q N M;split at i
   .rename_i B L;cases D:B.yO
    .rw[D]at i;have G:=(nl (K.Ch M)).1;have F:=λw=>np K L D w;have z:∀(l h:Int),0<=l->l<=h->h<=(s.cap:Int)->
      (∀w:World,(Instr.sliceBounds true s.len s.cap (A.map a.eval) (y.map a.eval) none).run P w=.ok (l.toNat,h.toNat,s.cap) w)->
      ∀w:World,(execOp a.eval ⟨d,.slice t x A y none,g,f,c,e⟩).run P w=.ok (.value (Ce.s (s.cut l.toNat h.toNat B.sh.length)).v) w:=by
      intro l h o p j q w
      cases s with
      |nil=>
       simp only[E.cap,E.len]at q j
       have:h=0:=V
       have:l=0:=V
       subst this;subst h
       simp[execOp,Instr.sliceAt,r.eq H O,SV.v,Ce.v,E.v,run_underlying G,Instr.slice,q,F,E.cut]
      |DG u C sp=>
       simp only[E.cap,E.len]at q j
       have:h=0:=V
       have:l=0:=V
       subst this;subst h
       simp[execOp,Instr.sliceAt,r.eq H O,SV.v,Ce.v,E.v,run_underlying G,Instr.slice,q,F,E.cut]
      |mk u J I C=>
       simp only[E.cap,E.len]at q
       have v:(Ce.s ((E.mk u J I C).cut l.toNat h.toNat B.sh.length)).v=_:=adF u J I C l.toNat h.toNat B.sh.length
       rw[v]
       have:a.eval x=.slice (some ⟨u,J,none⟩) I C:=r.eq H O
       simp[execOp,Instr.sliceAt,this,run_underlying G,Instr.slice,q,F]
     simp only[zK]at i;rcases So r i with⟨rfl,C⟩|⟨R,l,rfl,I,C⟩<;>rcases So r C with⟨rfl,o,p,j,u⟩|⟨S,h,rfl,J,o,p,j,u⟩
     .exact⟨_,_,u,rj,λw _=>z _ _ o p j (λw=>by simp[Instr.sliceBounds]) w⟩
     .exact⟨_,_,u,rj,λw _=>z _ _ o p j (λw=>by simp[Instr.sliceBounds,J,tU (by omega:0<=h) j]) w⟩
     .exact⟨_,_,u,rj,λw _=>z _ _ o p j (λw=>by simp[Instr.sliceBounds,I,tU o p]) w⟩
     .exact⟨_,_,u,rj,λw _=>z _ _ o p j (λw=>by
       have v:l<=(h.toNat:Int):=V;simp[Instr.sliceBounds,J,I,tU (by omega:0<=h) j,tU o v]) w⟩
    .rw[D]at i;exact i.elim
   .exact i.elim
  .exact i.elim
 .exact i.elim
def Pz(s:yF P T)(o:mD n b a)(m:ao)(kC:Nat->Option (Nat×Nat))
 (q:∀i d t e,Mh m i=some (d,t)->jv T t=some e->e.yO=false->kC i=some (d,e.sh.length)):
 ∀(r:aG)(c:ae)(k:ae->Prop),J2 T b m c r k->
  ∃l,k l/\Instr.fill kC (c.map Ce.v).toArray (r.map λp=>(p.1,a.eval p.2))=some (l.map Ce.v).toArray
 |[],c,k,h=>⟨c,h,O⟩
 |(i,x)::F,c,k,h=>by
  simp only[J2]at h;split at h
  .rename_i d t f B A;split at h
   .rename_i e C;cases g:(!e.yO&&Nat.beq f.length e.sh.length&&Nat.ble (d+f.length) c.length)
    .grind
    .rw[g]at h;simp only[eZ,xZ]at g;obtain⟨⟨u,j⟩,p⟩:=g;have j:=gA j;have p:=oU p;obtain⟨l,w,z⟩:=Pz s o m kC q F (qO c d f) k h;refine⟨l,w,?_⟩;obtain⟨y,v⟩:=tC A;have D:a.eval x=(ev b x).v:=o.eq O y;simp only[eK,Instr.fill,q i d t e B C u,D,v,List.size_toArray,jW,j];rw[aW cB,<-z];congr 1;apply TV;intro E;have G:=Sg (f.map Ce.v) 0 d (c.map Ce.v).toArray E;grind [Array.toList_zipIdx,Gf,List.map,Ce.v,qO,Option.map]
   .exact h.elim
  .exact h.elim
def szT(T:TT)(t:Nat):Nat:=match jv T t with|some a=>a.sh.length|none=>0
def NC(c:yF P T)(w:World):∀(a:afy),(∀f∈a,∃b,jv T f.type=some b/\b.yO=false)->
 (a.mapM (λf=>do pure (f.offset,<-sizeOf f.type):Field->Sem (Nat×Nat))).run P w=.ok (a.map λf=>(f.offset,szT T f.type)) w
 |[],_=>bO
 |f::a,h=>by
  obtain⟨b,d,j⟩:=h f bO;have e:=NC c w a (λg i=>h g (by simp[i]));simp only[List.mapM_cons,ez,np c d j,dq,iK]at e⊢;rw[e];simp[szT,d]
def NE:∀{b:ao},zt T b=true->∀p∈b,∃c,jv T p.2=some c/\c.yO=false
 |[],_,_,h=>by simp at h
 |(o,t)::r,h,p,a=>by
  simp only[zt,eZ]at h;rcases bo.1 a with rfl|a
  .grind
  .exact NE h.2 p a
def UE(l:yF P T)(z:mD n b a){o:Array (Nat×Operand)}(i:rd T b m k (.build t o)):sT P T b m a ⟨d,.build t o,g,f,c,e⟩ k:=by
 simp only[rd]at i;split at i
 .rename_i y K M v;cases q:zt T y
  .rw[q]at i;exact i.elim
  rw[q]at i;obtain⟨⟨j,D,s⟩,_⟩:=qT (l.Ch v);obtain⟨L,I,J,R⟩:=Am l v O;have A:∀h∈j.toList,∃r,jv T h.type=some r/\r.yO=false:=λh B=>
   NE q (h.offset,h.type) (by rw[<-s];exact gK.2 ⟨h,B,O⟩)
  have G:∀w:World,(j.mapM (λh=>do pure (h.offset,<-sizeOf h.type):Field->Sem (Nat×Nat))).run P w=.ok (j.toList.map λh=>(h.offset,szT T h.type)).toArray w:=by
   intro w;rw[aap,Sem.run_map,NC l w j.toList A];rfl
  obtain⟨S,E,F⟩:=Pz l z y (λx=>((j.toList.map λh=>(h.offset,szT T h.type)).toArray)[x]?) (λx U t r u H Q=>by
   rw[tQ,<-s,eJ]at u;obtain⟨N,C,p⟩:=jR.1 u;simp only[SE]at p;obtain⟨rfl,rfl⟩:=p;simp only[sP,eJ,C,vx,szT,H]) _ _ _ i
  refine⟨_,_,E,rj,λw _=>?_⟩;have u:L.cells=((K.map Sh.zero).map Ce.v).toArray:=by
   apply ng.1;simp[I]
  have C:(o.map λp=>(p.1,a.eval p.2)).toList=o.toList.map λp=>(p.1,a.eval p.2):=bO;simp only[execOp,Instr.build,ez,J,dq,run_underlying D,G,u,C,F];simp[SV.v]
 .exact i.elim
def Gc(d:mD n b a):∀{c:aD},c.all (λx=>(ev b x).mS)=true->c.map a.eval=c.map λx=>(ev b x).v
 |[],_=>O
 |x::c,h=>by
  simp only[SD,eZ]at h;simp only[eK,d.eq O h.1,Gc d h.2]
def Ro(v:yF P T)(l:mD n b a){s:Builtin}{i:Array Operand}{r:Array TypeId}(h:rd T b m k (.call ⟨.builtin s,i,r⟩)):
 sT P T b m a ⟨d,.call ⟨.builtin s,i,r⟩,g,f,c,e⟩ k:=by
 simp only[rd]at h
 unfold Zg at h
 split at h
 .rename_i t x z p
  split at h
  .rename_i D F C q y o
   refine⟨_,_,h,rj,λw _=>?_⟩
   have A:=(nl (v.Ch y)).1
   have u:r=#[t]:=ng.1 (sp z)
   have j:i=#[x]:=ng.1 (sp p)
   subst u;subst j
   have B:a.eval x=q.v:=l.eq o O
   cases q<;>simp[execOp,resolve,invoke,builtin,Builtin.len_,run_underlying A,B,E.v,goInt,SV.v,Ce.v,E.len]
  .exact h.elim
 .rename_i x y p
  split at h
  .rename_i u z o q
   refine⟨_,_,h,rj,λw _=>?_⟩
   have j:i=#[x,y]:=ng.1 (sp p)
   subst j
   simp[execOp,resolve,invoke,builtin,Builtin.max_,Builtin.max2,l.eq o O,l.eq q O,SV.v,Ce.v]
  .exact h.elim
 .rename_i x y p
  split at h
  .rename_i u z o q
   refine⟨_,_,h,rj,λw _=>?_⟩
   have j:i=#[x,y]:=ng.1 (sp p)
   subst j
   simp[execOp,resolve,invoke,builtin,Builtin.min_,Builtin.min2,l.eq o O,l.eq q O,SV.v,Ce.v]
  .exact h.elim
 .exact h.elim
def Qq(j:yF P T)(i:mD n b a)(s:Bx n b m)(o:Oper)(h:rd T b m k o.op):sT P T b m a o k:=by
 obtain⟨d,l,g,f,c,e⟩:=o;cases l with
 |move x=>exact ZD i h
 |assign x=>exact Ys i h
 |pick p x y=>exact Wj i h
 |nilCheck x=>exact PQ i h
 |binOp l t x y q=>exact UD j i h
 |unOp l t x=>exact Wl i h
 |convert q t x=>exact Rp j i h
 |fieldAddr t x q=>exact NU j i h
 |field t x q=>exact UF j i h
 |indexAddr t x y=>exact NV j i h
 |load t x=>exact Wh j i s h
 |extract x r=>exact Rq i h
 |slice t x u r mx=>cases mx with
  |none=>exact UG j i h
  |some y=>exact h.elim
 |build t r=>exact UE j i h
 |call p=>
  obtain⟨r,u,w⟩:=p;cases r with
  |builtin v=>exact Ro j i h
  |value q=>exact h.elim
  |invoke v q=>exact h.elim
 |_=>exact h.elim
end
section
variable{v:Value}{m m':bh}{b o e n q:Nat}{l:ae}{x:SV}
def aV(m:bh)(b o:Nat):ae->bh
 |[]=>m
 |c::r=>aV (vf m b o c.v) b (o+1) r
def jb(m:bh)(b o n:Nat):Prop:=∀j,j<n->(aS m b (o+j)).isSome=true/\CJ m b (o+j)=false
def jF(m:bh)(b o:Nat)(l:ae):Prop:=∀(i:Nat)(c:Ce),l[i]? =some c->aS m b (o+i)=some c.v
def na(a:ae)(n:Nat):ae:=(List.replicate n a).flatten
def db(l:ae):Array Value:=(l.map Ce.v).toArray
def WH(m:bh)(b o:Nat)(v:Value):(vf m b o v).size=m.size:=by simp[vf]
theorem QA(m:bh)(b o:Nat){j:Nat}(h:j≠b):(vf m b o v)[j]? =m[j]? :=by
 grind [vf]
theorem bD:∀(l:ae)(m:bh)(b o:Nat),(aV m b o l).size=m.size
 |[],_,_,_=>O
 |c::r,m,b,o=>by simp only[aV];rw[bD r,WH]
theorem cq:∀(l:ae)(m:bh)(b o:Nat){j:Nat},j≠b->(aV m b o l)[j]? =m[j]?
 |[],_,_,_,_,_=>O
 |c::r,m,b,o,j,h=>by simp only[aV];rw[cq r _ _ _ h,QA m b o h]
theorem rT(h:aS m b o=some v):b<m.size:=by
 grind [Nat.lt_or_ge,Array.size,aS,Array.getElem?_eq_none]
theorem bE(h:m'[b]? =m[b]?)(o:Nat):aS m' b o=aS m b o:=by simp only[aS,h]
def dF(m:bh)(b:Nat)(e:Nat)(l:ae):Prop:=m[b]? =some (.cells (db l) e)
theorem aaf(l:ae)(i:Nat):(db l)[i]? =(l[i]?).map Ce.v:=by simp[db]
def dF.dx(h:dF m b e l)(o:Nat):aS m b o=(l[o]?).map Ce.v:=by
 have a:m[b]? =some (.cells (db l) e (0,0)):=h;grind [aS,aaf]
def dF.kY(h:dF m b e l):jF m b 0 l:=λi c a=>by rw[h.dx,eV,a];rfl
theorem dF.lt(h:dF m b e l):b<m.size:=(gV.1 h).1
theorem dF.CJ{m:bh}{b e:Nat}{l:ae}(h:dF m b e l){o:Nat}:CJ m b o=false:=by
 have a:m[b]? =some (.cells (db l) e (0,0)):=h;simp[Vc.CJ,a]
theorem dF.jb(h:dF m b e l)(c:o+n<=l.length):jb m b o n:=λj a=>by
 refine⟨?_,h.CJ⟩;rw[h.dx];simp;omega
theorem dF.push(m:bh)(l:ae)(e:Nat):dF (m.push (.cells (db l) e)) m.size e l:=by simp[dF]
theorem dF.congr(a:dF m b e l)(h:m'[b]? =m[b]?):dF m' b e l:=by
 grind [dF]
theorem dF.vf{m:bh}{b e:Nat}{l:ae}(h:dF m b e l)(o:Nat)(c:Ce):dF (vf m b o c.v) b e (l.set o c):=by
 have a:m[b]? =some (.cells (db l) e (0,0)):=h;have d:=h.lt;simp only[dF,Vc.vf,Array.getElem?_modify,yf,a,vx];congr 2;grind [db,List.size_toArray,List.length_map,List.length]
def kH(l:ae)(o:Nat):ae->ae
 |[]=>l
 |c::r=>kH (l.set o c) (o+1) r
def nU:∀(r l:ae)(o:Nat),(kH l o r).length=l.length
 |[],_,_=>O
 |c::r,l,o=>by simp only[kH];rw[nU r];simp
theorem KL:∀(r l:ae)(o i:Nat),(kH l o r)[i]? =if o<=i/\i<o+r.length/\i<l.length then r[i -o]? else l[i]?
 |[],l,o,i=>by simp[kH];intro h;omega
 |c::r,l,o,i=>by
  simp only[kH];rw[KL r,Ij];grind [List.length_set,List.length_cons,List.length,List.getElem?_cons_succ]
def dF.aV{m:bh}{b e:Nat}:∀{r l:ae}{m:bh}{o:Nat},dF m b e l->dF (aV m b o r) b e (kH l o r)
 |[],_,_,_,h=>h
 |c::r,l,m,o,h=>by
  simp only[Vc.aV,kH];exact dF.aV (m:=m) (h.vf o c)
def Br(t:Nat):ad->Bool
 |[]=>false
 |u::r=>Nat.beq u t||Br t r
theorem Md{t:Nat}:∀{M:ad},Br t M=true->t∈M
 |[],h=>by simp[Br]at h
 |u::r,h=>by
  simp only[Br,eG]at h;rcases h with h|h
  .grind [Nat.eq_of_beq_eq_true,List.mem_cons_self]
  .exact aX _ (Md h)
def Ra(n:Nat):Fr->ad->ad
 |[],_=>[]
 |(q,x)::r,a=>bif Nat.ble n q&&!Br q a then
  match x with
  | .box b _ _=>b::Ra n r (q::a)
  | .DU b _ _=>b::Ra n r (q::a)
  |_=>Ra n r (q::a)
  else Ra n r a
def gS(l:ad)(m m':bh):Prop:=∀b∈l,m'[b]? =m[b]?
def EF(l:ad)(m m':bh)(k:Prop):Prop:=
 match l with
 |[]=>k
 |_=>gS l m m'/\k
def pS{l:ad}{k:Prop}(h:EF l m m' k):gS l m m'/\k:=by
 unfold EF at h;split at h
 .exact⟨(λb a=>by cases a),h⟩
 .exact h
def Ly{n:Nat}{q b e:Nat}{l:ae}(d:n<=q):∀{g:Fr}{a:ad},q∉a->oX g q b e l->b∈Ra n g a
 |[],a,_,h=>by rcases h with h|h<;>simp[kK]at h
 |(u,x)::r,a,i,h=>by
  simp only[Ra];cases j:Nat.beq u q
  .have k:u≠q:=λe=>by subst e;simp at j
   have c:oX r q b e l:=by
    grind [oX,kK]
   have f:q∉u::a:=by
    grind
   cases(Nat.ble n u&&!Br u a)
   .exact Ly d i c
   .simp only[pK];split
    .exact aX _ (Ly d f c)
    .exact aX _ (Ly d f c)
    .exact Ly d f c
  .grind [Nat.eq_of_beq_eq_true,Br,Md,Nat.ble,Nat.ble_eq_true_of_le,Bool.not_false,Bool.and_self,oX,kK,List.mem_cons_self]
theorem Bx.jN{a:Fr}(h:Bx n a m)(r:∀b e l,x≠.box b e l/\x≠.DU b e l):Bx n ((q,x)::a) m:=by
 have c:∀{u b e l},oX ((q,x)::a) u b e l->oX a u b e l:=by
  grind [oX,kK,Nat.beq]
 exact⟨λq b e l d=>h.bu q b e l (c d),λq p b e l f g o k i j=>h.VZ q p b e l f g o k (c i) (c j),λq b e l d=>h.Nz q b e l (c d)⟩
def SV.ad1(x:SV)(b e:Nat)(l:ae):x.nb≠.box b e l/\x.nb≠.DU b e l:=by
 cases x<;>exact⟨by simp[SV.nb],by simp[SV.nb]⟩
def Bx.cG{a:Fr}(h:Bx n a m){d:Option Nat}:Bx n (ym a d x) m:=by
 cases d with
 |none=>exact h
 |some d=>exact h.jN (SV.ad1 x)
def Bx.eW{a:Fr}(h:Bx n a m)(d:gS (Ra n a []) m m'):Bx n a m':=
 ⟨λq b e l c=>by rw[d b (Ly (h.Nz q b e l c) bO c)];exact h.bu q b e l c,h.VZ,h.Nz⟩
def Bx.push{a:Fr}(h:Bx n a m)(o:Obj):Bx n a (m.push o):=
 ⟨λq b e l d=>by
  have c:=h.bu q b e l d;have f:=(gV.1 c).1;rw[uG,aW V];exact c,h.VZ,h.Nz⟩
def Bx.bF{c:Fr}(h:Bx n c m)(i:n<=q)(t:Nat)(l:ae):Bx n ((q,.box m.size t l)::c) (m.push (.cells (db l) t)):=by
 have g:=h.push (.cells (db l) t);have k:∀{u b e l},oX c u b e l->b<m.size:=λa=>(gV.1 (h.bu _ _ _ _ a)).1;have j:∀{u b e d},oX ((q,.box m.size t l)::c) u b e d->(u=q/\b=m.size/\e=t/\d=l)\/(u≠q/\oX c u b e d):=by
  intro u b e d a;unfold oX at a⊢;simp only[kK]at a;cases f:Nat.beq q u
  .rw[f]at a;exact bR ⟨λe=>by subst e;simp at f,a⟩
  .grind [Nat.eq_of_beq_eq_true]
 constructor<;>grind [db,Bx.bu,Bx.VZ,Bx.Nz]
def Bx.oG{g:Fr}(j:Bx n g m){c:ae}(r:kK g q=.box b e c)(o:Nat)(l:ae):Bx n ((q,.box b e (kH c o l))::g) (aV m b o l):=by
 have p:oX g q b e c:=bC r;have k:dF m b e c:=j.bu q b e c p;have s:∀{u d f h},oX ((q,.box b e (kH c o l))::g) u d f h->(u=q/\d=b/\f=e/\h=kH c o l)\/(u≠q/\oX g u d f h):=by
  intro u d f h a;unfold oX at a⊢;simp only[kK]at a;cases i:Nat.beq q u
  .rw[i]at a;exact bR ⟨λe=>by subst e;simp at i,a⟩
  .grind [Nat.eq_of_beq_eq_true]
 refine⟨λu d f h a=>?_,λu B b1 t z b2 v A y w x=>?_,λu d f h a=>?_⟩
 .rcases s a with⟨rfl,rfl,rfl,rfl⟩|⟨i,a⟩
  .exact dF.aV (m:=m) k
  grind [cq,Bx.VZ,Bx.bu]
 .grind [Bx.VZ]
 .grind [Bx.Nz]
def J7(a:Fr):ae->Option Fr
 |[]=>some a
 | .bp q _ _::r=>match kK a q with
  | .DU _ _ _=>none
  |_=>J7 ((q,.jN)::a) r
 |_::r=>J7 a r
def AV.ces:AV->ae
 | .c x=>[x]
 | .agg l=>l
def SV.ces:SV->ae
 | .c x=>[x]
 | .agg l=>l
 | .tup l=>l.flatMap AV.ces
 |_=>[]
def Zz(a:Fr)(l:aB):Option Fr:=J7 a (l.flatMap SV.ces)
def uv{n:Nat}{f:Act}{m:bh}:∀{l:ae}{a c:Fr},J7 a l=some c->mD n a f->Bx n a m->mD n c f/\Bx n c m
 |[],a,c,h,e,d=>by simp[J7]at h;subst h;exact⟨e,d⟩
 |g::r,a,c,h,e,d=>by
  cases g with
  |bp q b o=>
   simp only[J7]at h;split at h
   .simp at h
   .exact uv h (e.jN q) (d.jN bO)
  |_=>exact uv (l:=r) (by simpa[J7]using h) e d
end
section
variable{P:Program}{T:TT}
def Tm(m:bh)(k:bh->Prop):Prop:=k m
def mj(m:bh)(f:Nat)(b:ae)(e:Nat)(s x:E)(k:E->bh->Prop):Prop:=
 ∃a:ae,a.length=x.len*b.length/\jF m x.bu x.off a/\
  (s.len+x.len<=s.cap->jb m s.bu (s.off+s.len*b.length) a.length/\
   k (match s with| .nil=>.nil| .mk d o l c=>.mk d o (l+x.len) c| .DG d o sp=>.DG d o sp) (aV m s.bu (s.off+s.len*b.length) a))/\
  (s.cap<s.len+x.len->(s.len+x.len)*e<=140737488355328/\∃old:ae,old.length=s.len*b.length/\jF m s.bu s.off old/\
   ∀c,s.len+x.len<=c->k (.mk m.size 0 (s.len+x.len) c) (m.push (.cells (db (old++a++na b (c -(s.len+x.len)))) f)))
def acV(m:bh)(c:Nat)(s x:E)(k:SV->bh->Prop):Prop:=
 ∃a:ae,a.length=Nat.min x.len s.len*c/\jF m x.bu x.off a/\jb m s.bu s.off a.length/\
  Tm (aV m s.bu s.off a) λb=>k (.c (.i (Nat.min x.len s.len:Nat))) b
def exC:aA->(ae->Prop)->Prop
 |[],k=>k []
 |s::r,k=>∃x:s.ty,exC r λl=>k (s.mk x::l)
def Yq(T:TT):ad->(aH->Prop)->Prop
 |[],k=>k []
 |t::r,k=>match jv T t with
  |some ⟨.struct _,b,_⟩=>exC b λl=>Yq T r λa=>k (.agg l::a)
  |some ⟨.cell,[s],_⟩=>∃x:s.ty,Yq T r λa=>k (.c (s.mk x)::a)
  |some ⟨.slice _,[_],_⟩=>∃x:E,Yq T r λa=>k (.c (.s x)::a)
  |_=>False
def U0(T:TT)(t:Nat)(v:Value)(k:SV->Prop):Prop:=
 match jv T t with
 |some ⟨.tuple [],_,_⟩=>k .jN
 |some ⟨.tuple a,_,_⟩=>Yq T a λl=>v=.tuple (l.map AV.v).toArray/\k (.tup l)
 |some ⟨.struct _,a,_⟩=>exC a λl=>v=.agg (l.map Ce.v).toArray/\k (.agg l)
 |some ⟨.cell,[s],_⟩=>∃x:s.ty,v=(s.mk x).v/\k (.c (s.mk x))
 |some ⟨.slice _,[_],_⟩=>∃x:E,v=x.v/\k (.c (.s x))
 |_=>False
def Zj(P:Program)(T:TT)(G:ad)(n:Nat)(a:Fr)(m:bh)(e:Nat)(h:Operand)(b:aD)(k:Fr->SV->bh->Prop):Prop:=
 match Zz a (b.map (ev a))with
 |none=>False
 |some d=>match ev a h with
  | .c (.fn (.func g) first f)=>bif G.elem g&&b.all (λx=>(ev a x).mS)then
   bK P g (first.toList++(b.map λx=>(ev a x).v)++f.toList) m λv c=>EF (Ra n d []) m c (U0 T e v λx=>k d x c)
   else False
  | .c (.fv q)=>bif b.all (λx=>(ev a x).mS)then
   ∃g,q.1=.func g/\G.elem g=true/\bK P g (q.2.1.toList++(b.map λx=>(ev a x).v)++q.2.2.toList) m λv c=>EF (Ra n d []) m c (U0 T e v λx=>k d x c)
   else False
  |_=>False
def HY(m:bh)(b:Nat)(l:aC):Prop:=
 ∃a c,m[b]? =some (.map a c)/\a.toList.map (λe=>(e.key,e.val))=l.map λp=>(Value.int .i64 p.1,Value.int .i64 p.2)
def zr(l:aC)(k:Int):Int:=
 match l with
 |[]=>0
 |(j,v)::r=>if k=j then v else zr r k
def Oe(l:aC)(k v:Int):aC:=
 match l with
 |[]=>[(k,v)]
 |(j,u)::r=>if k=j then(j,v)::r else(j,u)::Oe r k v
def Bu(T:TT)(d:Fr)(b:Nat):ae->aG->(ae->Prop)->Prop
 |a,[],k=>k a
 |a,(i,x)::r,k=>
  match(ev d x).cells with
  |some c=>bif Nat.beq c.length b&&Nat.ble (i*b+c.length) a.length then Bu T d b (qO a (i*b) c) r k else False
  |none=>False
def Yw(n:Nat)(b:Fr)(d:Option Nat)(m:bh)(t:Nat)(l:ae)(k:Fr->SV->bh->Prop):Prop:=
 match d with
 |some a=>match kK b (n+a)with
  | .DU _ _ _=>False
  |_=>Tm (m.push (.cells (db l) t)) λc=>k ((n+a,.box m.size t l)::b) (.c (.bp (n+a) m.size 0)) c
 |none=>Tm (m.push (.cells (db l) t)) λc=>k b (.c (.p m.size 0)) c
def TL(n:Nat)(c:Fr)(m:bh)(x:SV)(l:ae)(k:Fr->SV->bh->Prop):Prop:=
 match x with
 | .c (.p b o)=>jb m b o l.length/\Tm (aV m b o l) λa=>EF (Ra n c []) m a (k c .un a)
 | .c (.bp q b o)=>match kK c q with
  | .box d f e=>bif Nat.ble (o+l.length) e.length then OW d b (Tm (aV m b o l) λa=>k ((q,.box d f (kH e o l))::c) .un a)else False
  | .DU _ _ _=>False
  |_=>jb m b o l.length/\Tm (aV m b o l) λa=>EF (Ra n c []) m a (k c .un a)
 |_=>False
def wr(P:Program)(T:TT)(G:ad)(n:Nat)(a:Fr)(m:bh)(h:Option Nat)(o:Nat)(k:Fr->SV->bh->Prop):Op->Prop
 | .alloc t=>match jv T t with
  |some f=>bif f.yO then False else Yw n a h m t (f.sh.map Sh.zero) k
  |none=>False
 | .box t x=>match(ev a x).cells with
  |some l=>match J7 a l with
   |some d=>Yw n d h m t l k
   |none=>False
  |none=>False
 | .buildSlice t g i=>match jv T t with
  |some ⟨.slice e,_,_⟩=>match jv T e with
   |some c=>bif c.yO||!(Nat.ble (g*c.sh.length) 16777216)then False else
    Bu T a c.sh.length (na (c.sh.map Sh.zero) g) i.toList λl=>match J7 a l with
     |some d=>Tm (m.push (.cells (db l) e)) λb=>k d (.c (.s (.mk m.size 0 g g))) b
     |none=>False
   |none=>False
  |_=>False
 | .store t x y=>match(ev a y).cells,jv T t with
  |some l,some f=>bif f.yO||!(Nat.beq l.length f.sh.length)then False else match J7 a l with
   |some d=>TL n d m (ev a x) l k
   |none=>False
  |_,_=>False
 | .makeSlice t x y=>match jv T t,ev a x,ev a y with
  |some ⟨.slice e,_,_⟩,.c (.i l),.c (.i f)=>match jv T e with
   |some c=>bif c.yO then False else 0<=l/\l<=f/\(c.bytes:Int)*f<=281474976710656/\f<=9223372036854775807/\
    Tm (m.push (.cells (db (na (c.sh.map Sh.zero) f.toNat)) e)) λb=>k a (.c (.s (.mk m.size 0 l.toNat f.toNat))) b
   |none=>False
  |_,_,_=>False
 | .makeFunc g first f=>bif first.toList.all (λx=>(ev a x).mS)&&f.toList.all (λx=>(ev a x).mS)then
  match Zz a (first.toList.map (ev a)++f.toList.map (ev a))with
  |some d=>k d (.c (.fn g (first.toList.map λx=>(ev a x).v).toArray (f.toList.map λx=>(ev a x).v).toArray)) m
  |none=>False
  else False
 | .makeMap _ none=>Tm (m.push (.map #[] 0)) λb=>k a (.c (.mp m.size)) b
 | .lookup t x y false=>match jv T t,ev a x,ev a y with
  |some ⟨.map f g,_,_⟩,.c (.mp d),.c (.i n)=>match jv T f,jv T g with
   |some ⟨.cell,[.I],_⟩,some ⟨.cell,[.I],_⟩=>∃l,HY m d l/\k a (.c (.i (zr l n))) m
   |_,_=>False
  |_,_,_=>False
 | .mapUpdate t x y z=>match jv T t,ev a x,ev a y,ev a z with
  |some ⟨.map f _,_,_⟩,.c (.mp d),.c (.i g),.c (.i v)=>match jv T f with
   |some ⟨.cell,[.I],_⟩=>∃l,HY m d l/\∀b,HY b d (Oe l g v)->b.size=m.size->(∀j,j≠d->b[j]? =m[j]?)->EF (Ra n a []) m b (k a .un b)
   |_=>False
  |_,_,_,_=>False
 | .call ⟨.value f,d,_⟩=>Zj P T G n a m o f d.toList k
 | .call ⟨.builtin .append,d,f⟩=>match d.toList,f.toList with
  |[x,y],[t,u]=>match jv T t,jv T u,ev a x,ev a y with
   |some ⟨.slice e,_,_⟩,some ⟨.slice _,_,_⟩,.c (.s s),.c (.s z)=>match jv T e with
    |some c=>bif c.yO||Nat.beq c.bytes 0 then False else mj m e (c.sh.map Sh.zero) c.bytes s z λr b=>EF (Ra n a []) m b (k a (.c (.s r)) b)
    |none=>False
   |_,_,_,_=>False
  |_,_=>False
 | .call ⟨.builtin .copy,d,f⟩=>match d.toList,f.toList with
  |[x,y],t::_=>match jv T t,ev a x,ev a y with
   |some ⟨.slice e,_,_⟩,.c (.s s),.c (.s z)=>match jv T e with
    |some c=>bif c.yO then False else acV m c.sh.length s z λx b=>EF (Ra n a []) m b (k a x b)
    |none=>False
   |_,_,_=>False
  |_,_=>False
 |_=>False
def R9(P:Program)(g:Nat):Bool:=
 match P.funcs[g]? with
 |some a=>!(a.name== "runtime.NumGoroutine")&&a.body.isSome
 |none=>false
def GOK(P:Program)(G:ad):Prop:=G.all (R9 P)=true
def Vt(a:ae):∀(n i:Nat),i<n*a.length->(na a n)[i]? =a[i%a.length]?
 |0,i,h=>by simp at h
 |n+1,i,h=>by
  have c:0<a.length:=by
   grind [Nat.eq_zero_or_pos,List.length]
  have e:na a (n+1)=a++na a n:=by simp[na,mC]
  rw[e,List.getElem?_append];split
  .grind [Nat.mod_eq_of_lt]
  .rename_i b;rw[Vt a n (i -a.length) (by rw[oB,Nat.one_mul]at h;omega)];grind [Nat.mod_eq_sub_mod]
theorem vu(a:ae)(n:Nat):(na a n).length=n*a.length:=by
 simp[na]
theorem Nl(a:ae)(z:Array Value)(h:z.toList=a.map Ce.v)(n:Nat):
 (Array.range (n*a.length)).map (λi=>z[i%z.size]!)=db (na a n):=by
 apply TV
 intro i
 have g:z.size=a.length:=by grind [Array.length_toList]
 by_cases b:i<n*a.length
 .have c:=Vt a n i b
  have f:0<a.length:=by
   grind [Nat.eq_zero_or_pos,List.length]
  have e:i%a.length<a.length:=Nat.mod_lt _ f
  have d:(db (na a n))[i]? =((na a n)[i]?).map Ce.v:=by simp[db]
  rw[d,c,<-eJ,<-h]
  simp[b,g,e]
 .grind [db,na,vu]
end
section
variable{c:SV}{l:ae}{t:TypeId}
variable{e:Program}{T:TT}{G:ad}
def Ce.aaS(c:Ce):c.v.oneCell'=true:=by
 cases c with
 |s y=>cases y<;>rfl
 |_=>rfl
def nZ:∀(l:ae)(w:World)(b o:Nat),(w.setCells b o (l.map Ce.v)).heap=aV w.heap b o l
 |[],_,_,_=>O
 |c::r,w,b,o=>by
  simp only[eK,World.setCells,aV];rw[nZ r,Tx]
def uQ:∀(l:ap)(w:World)(a o:Nat),rR w (w.setCells a o l)
 |[],w,_,_=>rR.cT w
 |c::r,w,a,o=>by
  simp only[World.setCells];exact rR.J (b:=w.setCell ⟨a,o,none⟩ c) ⟨O,O,O⟩ (uQ r _ a (o+1))
def IV(l:ae)(b o:Nat)(w:World)(h:jb w.heap b o l.length):
 (storeCells ⟨b,o,none⟩ (l.map Ce.v)).run e w=.ok () (w.setCells b o (l.map Ce.v)):=by
 have:=run_storeCells_cells (P:=e) b o (l.map Ce.v) 0 w
  (λj a=>by have:=(h j cB).1;rw[DX];simpa using this)
  (λj a=>by have:=(h j cB).2;rw[We];simpa using this)
  (λv a=>by obtain⟨c,_,rfl⟩:=gK.1 a;exact c.aaS)
 simpa using this
def U1(l:ae)(b o:Nat)(a:World)(h:jF a.heap b o l):(loadCells ⟨b,o,none⟩ l.length).run e a=.ok (db l) a:=by
 have:=run_loadCells_list (P:=e) (w:=a) ⟨b,o,none⟩ (l.map Ce.v) (λj v c=>by
  rw[zQ,DX];rw[eJ]at c;obtain⟨d,f,rfl⟩:=jR.1 c;exact h j d f)
 grind [db]
variable{n:Nat}{d:Fr}{a:Act}{m:bh}{k:Fr->SV->bh->Prop}{f:Option Tmp}{g:TypeId}{j:String}{h:Array Edge}{i:Option (Nat×Bool)}
def JS(e:Program)(n:Nat)(a:Act)(m:bh)(o:Oper)(k:Fr->SV->bh->Prop):Prop:=
 ∀(w:World),w.heap=m->∀(f:Act->World->Prop)(Q:Exit->Act->World->Prop),
  (∀d c v b,k d c b.heap->mD n d a->Bx n d b.heap->c.Is v->rR w b->f (a.put o.dst v) b)->o.wp e a w f Q
def mK{o:Oper}{d:Fr}{v:Value}{w b:World}(h:mD n d a)(g:Bx n d b.heap)(p:c.Is v)(m:rR w b)(i:k d c b.heap)(l:(execOp a.eval o).run e w=.ok (.value v) b)
 {f:Act->World->Prop}{Q:Exit->Act->World->Prop}(j:∀d c v b,k d c b.heap->mD n d a->Bx n d b.heap->c.Is v->rR w b->f (a.put o.dst v) b):o.wp e a w f Q:=by
 unfold Oper.wp
 rw[l]
 exact j d c v b i h g p m
def Sk{i:Option Nat}{t:Nat}(g:mD n d a)(f:Bx n d m)(h:Yw n d i m t l k):
 ∃b c,mD n b a/\Bx n b (m.push (.cells (db l) t))/\c.Is (.pointer (some ⟨m.size,0,none⟩))/\k b c (m.push (.cells (db l) t)):=by
 unfold Yw at h
 split at h
 .split at h
  .exact h.elim
  .rename_i e _ j
   exact⟨(n+e,.box m.size t l)::d,.c (.bp (n+e) m.size 0),g.eB (λ_=>trivial),f.bF (Nat.le_add_right _ _) t l,O,h⟩
 .exact⟨d,.c (.p m.size 0),g,f.push _,O,h⟩
def Vi(s:mD n d a)(g:Bx n d m)(h:TL n d m c l k):
 ∃p b o,mD n p a/\Bx n p (aV m b o l)/\(∀v,c.Is v->v=.pointer (some ⟨b,o,none⟩))/\jb m b o l.length/\k p .un (aV m b o l):=by
 unfold TL at h
 split at h
 .obtain⟨q,r⟩:=pS h.2
  exact⟨_,_,_,s,g.eW q,λv e=>e,h.1,r⟩
 .split at h
  .rename_i w b o _ i j f u
   cases t:Nat.ble (o+l.length) f.length
   .grind
   .rw[t]at h
    obtain⟨rfl,h⟩:=h
    have x:dF m i j f:=g.bu w i j f (bC u)
    exact⟨(w,.box i j (kH f o l))::d,_,_,s.eB (λ_=>trivial),g.oG u o l,λv e=>e,x.jb (oU t),h⟩
  .exact h.elim
  .obtain⟨q,r⟩:=pS h.2
   exact⟨_,_,_,s,g.eW q,λv e=>e,h.1,r⟩
 .exact h.elim
def V0(y:yF e T)(s:mD n d a)(q:Bx n d m)(b:wr e T G n d m f g k (.alloc t)):JS e n a m ⟨f,.alloc t,g,j,h,i⟩ k:=by
 intro l D L Q B
 subst D;simp only[wr]at b;split at b
 .rename_i o C;cases p:o.yO
  .rw[p]at b;obtain⟨I,F,H,K⟩:=Am y C p;have z:I.cells=db (o.sh.map Sh.zero):=by apply ng.1;simp[F,db]
   obtain⟨J,c,u,r,E,A⟩:=Sk s q b;refine mK (w:=l) (c:=c) (v:=.pointer (some ⟨l.heap.size,0,none⟩)) (b:={l with heap:=l.heap.push (.cells (db (o.sh.map Sh.zero)) t)}) u r E ⟨O,O,O⟩ A ?_ B;simp[execOp,Instr.alloc,H,newVar,newRow,z]
  grind
 .exact b.elim
def Zn(p:mD n d a)(q:Bx n d m){c:Operand}(b:wr e T G n d m f g k (.box t c)):JS e n a m ⟨f,.box t c,g,j,h,i⟩ k:=by
 intro o F L Q E
 subst F;simp only[wr]at b;split at b
 .rename_i l D;split at b
  .rename_i K A;obtain⟨y,s⟩:=uv A p q;obtain⟨B,z⟩:=tC D;obtain⟨J,I,u,r,H,C⟩:=Sk y s b;refine mK (w:=o) (c:=I) (v:=.pointer (some ⟨o.heap.size,0,none⟩)) (b:={o with heap:=o.heap.push (.cells (db l) t)}) u r H ⟨O,O,O⟩ C ?_ E;simp[execOp,Instr.box,newVar,newRow,p.eq O B,z,db]
  .exact b.elim
 .exact b.elim
def Ri(p:mD n d a)(w:Bx n d m){o:Fn}{first b:Array Operand}(l:wr e T G n d m f g k (.makeFunc o first b)):JS e n a m ⟨f,.makeFunc o first b,g,j,h,i⟩ k:=by
 intro C B E Q A
 subst B;simp only[wr]at l;cases q:(first.toList.all (λc=>(ev d c).mS)&&b.toList.all (λc=>(ev d c).mS))
 .grind
 .rw[q]at l;simp only[eZ]at q;obtain⟨t,u⟩:=q;have r:(first.toList.map λc=>(ev d c).v).toArray=first.map a.eval:=by
   apply ng.1;simp[Gc p t]
  have s:(b.toList.map λc=>(ev d c).v).toArray=b.map a.eval:=by
   apply ng.1;simp[Gc p u]
  simp only[pK]at l;split at l
  .rename_i D z;obtain⟨y,x⟩:=uv z p w;refine mK y x (v:=.func o (first.map a.eval) (b.map a.eval)) ?_ (rR.cT C) l ?_ A
   .show Value.func o (first.map a.eval) (b.map a.eval)=Value.func o _ _;rw[r,s]
   .simp[execOp,Instr.makeFunc]
  .exact l.elim
def NJ(m:mD n d a)(e:Nat):
 ∀(q:aG)(b:ae)(k:ae->Prop),Bu T d e b q k->
  ∃l,k l/\Instr.fill (λi=>some (i*e,e)) (b.map Ce.v).toArray (q.map λp=>(p.1,a.eval p.2))=some (l.map Ce.v).toArray
 |[],b,k,h=>⟨b,h,O⟩
 |(i,c)::x,b,k,h=>by
  simp only[Bu]at h;split at h
  .rename_i f u;cases g:(Nat.beq f.length e&&Nat.ble (i*e+f.length) b.length)
   .grind
   .rw[g]at h;simp only[eZ]at g;obtain⟨j,o⟩:=g;have j:=gA j;have o:=oU o;obtain⟨l,r,t⟩:=NJ m e x (qO b (i*e) f) k h;refine⟨l,r,?_⟩;obtain⟨s,p⟩:=tC u;have v:=m.eq O s;simp only[eK,Instr.fill,v,p,List.size_toArray,jW,j];rw[aW cB,<-t];congr 1;apply TV;intro w;have y:=Sg (f.map Ce.v) 0 (i*e) (b.map Ce.v).toArray w;grind [Array.toList_zipIdx,Gf,List.map,Ce.v,qO,Option.map]
  .exact h.elim
def NR(B:yF e T)(D:mD n d a)(N:Bx n d m){b:Nat}{z:Array (Nat×Operand)}(p:wr e T G n d m f g k (.buildSlice t b z)):JS e n a m ⟨f,.buildSlice t b z,g,j,h,i⟩ k:=by
 intro q W ae aa R
 subst W;simp only[wr]at p;split at p
 .rename_i L sh ab U;split at p
  .rename_i o H;cases r:(o.yO||!(Nat.ble (b*o.sh.length) 16777216))
   .rw[r]at p;simp only[cU,afq]at r;have ac:=oU r.2;have I:=(nl (B.Ch U)).1;obtain⟨K,X,Y,ad⟩:=Am B H r.1;have F:=λq=>np B H r.1 q;obtain⟨l,y,s⟩:=NJ D _ _ _ _ p;cases C:J7 d l with
    |none=>rw[C]at y;exact y.elim
    |some u=>
    rw[C]at y;obtain⟨Q,P⟩:=uv C D N;refine mK (w:=q) (c:=.c (.s (.mk q.heap.size 0 b b))) (v:=.slice (some ⟨q.heap.size,0,none⟩) b b) (b:={q with heap:=q.heap.push (.cells (db l) L)}) Q (P.push _) O ⟨O,O,O⟩ y ?_ R;have E:(z.map λu=>(u.1,a.eval u.2)).toList=z.toList.map λu=>(u.1,a.eval u.2):=bO;have Z:K.cells.toList=(o.sh.map Sh.zero).map Ce.v:=by simp[X]
    have J:(o.sh.map Sh.zero).length=o.sh.length:=bO;have mu:=Nl (o.sh.map Sh.zero) K.cells Z b;rw[J]at mu;by_cases A:b*o.sh.length=0
    .have S:na (o.sh.map Sh.zero) b=[]:=by
      apply cp.1;rw[vu,J,A]
     rw[S]at s;simp only[execOp,Instr.buildSlice,ez,run_underlying I,dq,F,A];simp only[E];have M:(Array.map (λc=>(default:Value)) (Array.range 0))=#[]:=bO;simp at s⊢;rw[M,s];simp[newRow,db]
    .simp only[execOp,Instr.buildSlice,ez,run_underlying I,dq,F,A,nv];have:¬(b*o.sh.length>2^24):=V;simp only[this,nv,Y,ez,iK,dq,E];rw[mu];simp only[db]at s⊢;simp[s,newRow]
   grind
  .exact p.elim
 .exact p.elim
def V7(C:yF e T)(r:mD n d a)(v:Bx n d m){c y:Operand}(b:wr e T G n d m f g k (.store t c y)):JS e n a m ⟨f,.store t c y,g,j,h,i⟩ k:=by
 intro w L Z Q H
 subst L;simp only[wr]at b;split at b
 .rename_i l s F K;cases o:(s.yO||!(Nat.beq l.length s.sh.length))
  .rw[o]at b;simp only[zK]at b;simp only[cU,afq]at o;split at b
   .rename_i N D;obtain⟨B,z⟩:=uv D r v;obtain⟨u,p,q,A,x,M,I,E⟩:=Vi B z b;have U:=gA o.2;obtain⟨S,R⟩:=tC F;have W:=λw=>np C K o.1 w;unfold Oper.wp;have J:(execOp a.eval ⟨f,.store t c y,g,j,h,i⟩).run e w=.ok .skip (w.setCells p q (l.map Ce.v)):=by
     have V:=IV (e:=e) l p q w I;have X:a.eval c=.pointer (some ⟨p,q,none⟩):=M _ (r.ev c);have Y:(a.eval y).cells=(l.map Ce.v).toArray:=by grind [mD.eq]
     grind [Go.execOp,Go.Instr.storeAt,Go.Instr.sureAddr,Go.storeVar,Go.Sem.run_bind,Go.Sem.run_pure,Go.Result.andThen_ok,List.size_toArray,List.length_map]
    rw[J];exact H u .un undef _ (by rw[nZ];exact E) A (by rw[nZ];exact x) O (uQ _ _ _ _)
   .exact b.elim
  grind
 .exact b.elim
end
section
variable{b y f:Operand}{t:TypeId}{i:Array Operand}{p:Array TypeId}
variable{c:Program}{T:TT}{G:ad}
variable{n:Nat}{e:Fr}{a:Act}{m:bh}{k:Fr->SV->bh->Prop}{h:Option Tmp}{g:TypeId}{o:String}{j:Array Edge}{l:Option (Nat×Bool)}
theorem TR{b:Int}(a: -9223372036854775808<=b)(c:b<=9223372036854775807):IntKind.i64.wrap b=b:=by
 grind [Go.IntKind.bits,Go.IntKind.signed,Go.IntKind.wrap]
theorem de{b:Int}(a: -9223372036854775808<=b)(c:b<=9223372036854775807):eI b=b:=TR a c
def PG(r:yF c T)(u:mD n e a)(F:Bx n e m)(i:wr c T G n e m h g k (.makeSlice t b y)):JS c n a m ⟨h,.makeSlice t b y,g,o,j,l⟩ k:=by
 intro q W ai ae J
 subst W;simp only[wr]at i;split at i
 .rename_i D sh af p d R Z hy;split at i
  .rename_i f z;cases s:f.yO
   .rw[s]at i;obtain⟨h0,h1,h2,h3,I⟩:=i;have U:=(nl (r.Ch R)).1;obtain⟨C,hz,ac,ah⟩:=Am r z s;obtain⟨ti,H,ag,S,_⟩:=KK r z s;have Q:=λq=>np r z s q;refine mK (w:=q) (c:=.c (.s (.mk q.heap.size 0 p.toNat d.toNat))) (v:=.slice (some ⟨q.heap.size,0,none⟩) p.toNat d.toNat) (b:={q with heap:=q.heap.push (.cells (db (na (f.sh.map Sh.zero) d.toNat)) D)}) u (F.push _) O ⟨O,O,O⟩ I ?_ J;have ad:C.cells.toList=(f.sh.map Sh.zero).map Ce.v:=by simp[hz]
    have B:(f.sh.map Sh.zero).length=f.sh.length:=bO;have mu:=Nl (f.sh.map Sh.zero) C.cells ad d.toNat;rw[B]at mu;have aa:a.eval b=.int .i64 p:=u.eq Z O;have ab:a.eval y=.int .i64 d:=u.eq hy O;have Y:IntKind.i64.wrap p=p:=by grind [TR]
    have X:IntKind.i64.wrap d=d:=by grind [TR]
    have K:¬d<0:=V;have L:¬((f.bytes:Int)*d>2^48):=by
     grind
    have M:¬p<0:=V;have N:¬p>d:=V;simp only[execOp,Instr.makeSlice,ez,run_underlying U,dq,asInt,asIntOf,aa,ab,iK,S,Y,X,H];simp only[K,L,M,N,decide_false,abi,oT,nv];simp only[ez,dq,run_askRoom,Q];by_cases A:d.toNat*f.sh.length=0
    .have P:na (f.sh.map Sh.zero) d.toNat=[]:=by
      apply cp.1;rw[vu,B,A]
     rw[P];have E:(Array.map (λb=>(default:Value)) (Array.range 0))=#[]:=bO;simp[A,newRow,db];rw[E]
    .simp only[A,nv,ez,ac,dq,iK];rw[mu];simp[newRow]
   grind
  .exact i.elim
 .exact i.elim
def PJ:∀{c:aA}{k:ae->Prop},exC c k->∃l,k l
 |[],_,h=>⟨_,h⟩
 |_::_,_,⟨b,h⟩=>let⟨_,a⟩:=PJ h;⟨_,a⟩
def J8:∀{p:ad}{k:aH->Prop},Yq T p k->∃l,k l
 |[],_,h=>⟨_,h⟩
 |t::p,k,h=>by
  simp only[Yq]at h;split at h
  .obtain⟨l,c⟩:=PJ h;obtain⟨d,a⟩:=J8 c;exact⟨_,a⟩
  .obtain⟨b,c⟩:=h;obtain⟨d,a⟩:=J8 c;exact⟨_,a⟩
  .obtain⟨b,c⟩:=h;obtain⟨d,a⟩:=J8 c;exact⟨_,a⟩
  .exact h.elim
def YG{t:Nat}{v:Value}{k:SV->Prop}(h:U0 T t v k):∃b:SV,b.Is v/\k b:=by
 unfold U0 at h;split at h
 .exact⟨.jN,trivial,h⟩
 .obtain⟨l,c,a⟩:=J8 h;exact⟨.tup l,c,a⟩
 .obtain⟨l,c,a⟩:=PJ h;exact⟨.agg l,c,a⟩
 .rename_i s _ _;obtain⟨b,c,a⟩:=h;exact⟨.c (s.mk b),c,a⟩
 .obtain⟨b,c,a⟩:=h;exact⟨.c (.s b),c,a⟩
 .exact h.elim
def PF(z:GOK c G)(A:mD n e a){d:Fr}(B:mD n d a)(y:Bx n d m){q:Nat}{first s:Array Value}(E:a.eval f=.func (.func q) first s)
 (H:G.elem q=true)(J:i.toList.all (λb=>(ev e b).mS)=true)
 (x:bK c q (first.toList++(i.toList.map λb=>(ev e b).v)++s.toList) m λv r=>EF (Ra n d []) m r (U0 T g v λb=>k d b r)):
 JS c n a m ⟨h,.call ⟨.value f,i,p⟩,g,o,j,l⟩ k:=by
 intro w P W S K
 subst P
 have r:=LC.1 z q (sp H)
 have C:i.map a.eval=(i.toList.map λb=>(ev e b).v).toArray:=by
  apply ng.1;simp[<-Gc A J]
 unfold R9 at r
 split at r
 .rename_i u F
  simp only[eZ,xZ]at r
  have D:u.body.isNone=false:=by cases V:u.body<;>simp_all
  have L:(execOp a.eval ⟨h,.call ⟨.value f,i,p⟩,g,o,j,l⟩).run c w=
   .ok (.enter q (first.toList++(i.toList.map λb=>(ev e b).v)++s.toList).toArray) w:=by
   simp only[execOp,resolve,E,C,Deferred.ofValue,ez,iK,dq,invoke,callFunc,run_program,F,r.1,D,oT,nv]
   simp
  unfold Oper.wp
  rw[L]
  refine(x w O).mono ?_
  rintro U R ⟨v,rfl,M,t⟩
  obtain⟨N,t⟩:=pS t
  obtain⟨b,Q,I⟩:=YG t
  exact K d b v R I B (y.eW N) Q M
 .simp at r
def Yn(v:GOK c G)(r:mD n e a)(y:Bx n e m)(d:wr c T G n e m h g k (.call ⟨.value f,i,p⟩)):JS c n a m ⟨h,.call ⟨.value f,i,p⟩,g,o,j,l⟩ k:=by
 simp only[wr,Zj]at d;split at d
 .exact d.elim
 rename_i D z;obtain⟨w,u⟩:=uv z r y;split at d
 .rename_i s first x t
  cases q:(G.elem s&&i.toList.all (λb=>(ev e b).mS))
  .grind
  .rw[q]at d;simp only[eZ]at q;exact PF v r w u (r.eq t O) q.1 q.2 d
 .rename_i x t;cases q:(i.toList.all (λb=>(ev e b).mS))
  .grind
  .rw[q]at d;obtain⟨s,A,B,d⟩:=d;have C:a.eval f=.func (.func s) x.2.1 x.2.2:=by
    rw[<-A];exact r.eq t O
   exact PF v r w u C B q d
 .exact d.elim
def wy(a:c.underlying t=some (.int .i64))(e:Bool)(b:Int)(w:World):(Instr.checkKey e 10000 t (.int .i64 b)).run c w=.ok () w:=by
 have:Instr.checkKey e 10000 t (.int .i64 b)=Instr.checkKey e (9999+1) t (.int .i64 b):=rfl;rw[this];generalize 9999=d;simp[Instr.checkKey,run_underlying a]
def D0(b:Int):∀(a:List MapEntry)(l:aC)(i:Nat),a.map (λe=>(e.key,e.val))=l.map (λp=>(Value.int .i64 p.1,Value.int .i64 p.2))->
 (Instr.findNow (.int .i64) (.int .i64 b) a i=some none/\zr l b=0/\(∀v,Oe l b v=l++[(b,v)]))\/
 ∃j u,Instr.findNow (.int .i64) (.int .i64 b) a i=some (some (i+j,.int .i64 u))/\zr l b=u/\j<a.length/\l[j]? =some (b,u)/\∀v,Oe l b v=l.set j (b,v)
 |[],[],i,_=>bC ⟨O,O,λv=>O⟩
 |[],_::_,i,h=>by simp at h
 |_::_,[],i,h=>by simp at h
 |e::a,(j,u)::l,i,h=>by
  simp only[eK,List.cons.injEq,SE]at h;obtain⟨⟨o,s⟩,h⟩:=h;have p:Instr.sameNow (.int .i64) (.int .i64 b) e.key=some (b==j):=by grind [Go.Instr.sameNow]
  by_cases f:b=j
  .subst f;refine bR ⟨0,u,?_,?_,bO,bO,?_⟩
   .grind [Go.Instr.findNow]
   .simp[zr]
   .intro v;simp[Oe]
  .have n:(b==j)=false:=cB;rcases D0 b a l (i+1) h with⟨g,c,d⟩|⟨q,r,g,c,d,k,m⟩
   .grind [Go.Instr.findNow,zr,Oe]
   .refine bR ⟨q+1,r,?_,?_,sp d,sp k,?_⟩
    .grind [Go.Instr.findNow]
    .simp[zr,f,c]
    grind [Oe]
def SX(i:mD n e a)(f:Bx n e m){r:Option Operand}(d:wr c T G n e m h g k (.makeMap t r)):JS c n a m ⟨h,.makeMap t r,g,o,j,l⟩ k:=by
 intro b q s Q p
 subst q;cases r with
 |some r=>exact d.elim
 |none=>
  refine mK (w:=b) (c:=.c (.mp b.heap.size)) (v:=.map (some b.heap.size)) (b:={b with heap:=b.heap.push (.map #[] 0)}) i (f.push _) O ⟨O,O,O⟩ d ?_ p;simp[execOp,Instr.makeMap]
def Up(s:yF c T)(r:mD n e a)(K:Bx n e m){z:Bool}(d:wr c T G n e m h g k (.lookup t b y z)):JS c n a m ⟨h,.lookup t b y z,g,o,j,l⟩ k:=by
 intro f W ag ad S
 subst W;cases z with
 |true=>exact d.elim
 |false=>
  simp only[wr]at d;split at d
  .rename_i kt et sh ae B i V X Y;split at d
   .rename_i b1 b2 R P;obtain⟨u,⟨C,I,N,M⟩,Q⟩:=d;have E:=(Gm (s.Ch V)).1;obtain⟨⟨J,hd,hp⟩,_⟩:=qS (s.Ch R);have L:J=.int .i64:=by
     grind [Bw]
    subst L;obtain⟨A,Z,ac,ab⟩:=Am s P O;have aa:A=.int .i64 0:=by
     have:A.cells.toList=[Value.int .i64 0]:=Z;have U:=ab O;cases A<;>first|(simp[Value.cells]at this;done)|(simp[Value.cells]at this;rw[this.1,this.2])|exact absurd O (U _)
    have F:a.eval b=.map (some B):=r.eq X O;have H:a.eval y=.int .i64 i:=r.eq Y O;have D:(getObj B).run c f=.ok (.map C I) f:=by simp[getObj,Sem.run,N]
    refine mK (w:=f) (c:=.c (.i (zr u i))) (v:=.int .i64 (zr u i)) (b:=f) r K O (rR.cT f) Q ?_ S;rcases D0 i C.toList u 0 M with⟨p,q,_⟩|⟨af,ah,p,q,_⟩
    .simp[execOp,Instr.lookup,run_underlying E,F,H,D,wy hd,Instr.findKey,run_underlying hd,p,ac,aa,q]
    .simp[execOp,Instr.lookup,run_underlying E,F,H,D,wy hd,Instr.findKey,run_underlying hd,p,q]
   .exact d.elim
  .exact d.elim
def PH(J:yF c T)(r:mD n e a)(I:Bx n e m){z:Operand}(q:wr c T G n e m h g k (.mapUpdate t b y z)):JS c n a m ⟨h,.mapUpdate t b y z,g,o,j,l⟩ k:=by
 intro w hw ag ae N
 subst hw;simp only[wr]at q;split at q
 .rename_i kt et sh af f d u ht hx hy hz;split at q
  .rename_i b1 ab;obtain⟨ad,⟨p,i,C,v⟩,M⟩:=q;have Q:=(Gm (J.Ch ht)).1;obtain⟨⟨V,hd,hp⟩,_⟩:=qS (J.Ch ab);have Z:V=.int .i64:=by
    grind [Bw]
   subst Z;have R:a.eval b=.map (some f):=r.eq hx O;have S:a.eval y=.int .i64 d:=r.eq hy O;have U:a.eval z=.int .i64 u:=r.eq hz O;have L:(getObj f).run c w=.ok (.map p i) w:=by simp[getObj,Sem.run,C]
   have P:∀E,(setObj f E).run c w=.ok () {w with heap:=w.heap.setIfInBounds f E}:=λE=>by simp[setObj,Sem.run,C]
   have K:f<w.heap.size:=(gV.1 C).1;unfold Oper.wp;rcases D0 d p.toList ad 0 v with⟨B,W,H⟩|⟨x,ah,B,W,H,X,Y⟩
   .have D:(execOp a.eval ⟨h,.mapUpdate t b y z,g,o,j,l⟩).run c w=.ok .skip {w with heap:=w.heap.setIfInBounds f (.map (p.push {key:=.int .i64 d,val:=.int .i64 u,born:=i}) (i+1))}:=by
     simp[execOp,Instr.mapUpdate,run_underlying Q,R,S,U,L,wy hd,Instr.findKey,run_underlying hd,B,P]
    rw[D];have s:=pS (M {w with heap:=w.heap.setIfInBounds f (.map (p.push {key:=.int .i64 d,val:=.int .i64 u,born:=i}) (i+1))}.heap ?_ bO ?_)
    .exact N e .un undef _ s.2 r (I.eW s.1) O ⟨O,O,O⟩
    .refine⟨_,_,by simp[K];exact⟨O,O⟩,?_⟩;rw[H];simp[v]
    grind [Array.getElem?_setIfInBounds_ne]
   .have aa:(p[x]?).map (·.key)=some (.int .i64 d):=by
     have:=vv (λF=>(F[x]?).map (·.1)) v;simpa[X]using this
    have ac:(Instr.keyThatStays (.int .i64 d) (.int .i64 d)).run c w=.ok (.int .i64 d) w:=by
     simp[Instr.keyThatStays,Instr.sameBits]
    have D:(execOp a.eval ⟨h,.mapUpdate t b y z,g,o,j,l⟩).run c w=.ok .skip {w with heap:=w.heap.setIfInBounds f (.map (p.modify x λA=>{A with key:=.int .i64 d,val:=.int .i64 u}) i)}:=by
     simp only[execOp,Instr.mapUpdate,run_underlying Q,R,S,U,L,wy hd,Instr.findKey,run_underlying hd,B,ez,dq,iK,eV,aa,ui,ac,P]
    rw[D];have s:=pS (M {w with heap:=w.heap.setIfInBounds f (.map (p.modify x λA=>{A with key:=.int .i64 d,val:=.int .i64 u}) i)}.heap ?_ bO ?_)
    .exact N e .un undef _ s.2 r (I.eW s.1) O ⟨O,O,O⟩
    .refine⟨_,_,by simp[K];exact⟨O,O⟩,?_⟩;rw[Y];apply fq;intro F;have A:=vv (λ(q':List (Value×Value))=>q'[F]?) v;simp only[eJ]at A;grind [List.length,List.getElem?_eq_some_iff,Array.size]
    grind [Array.getElem?_setIfInBounds_ne]
  .exact q.elim
 .exact q.elim
def xD(l:ae)(z:E)(a e:Nat)(f:l.length=a*e)(w:World)(h:jF w.heap z.bu z.off l)(d:a<=z.len):
 (Builtin.firstCells e a z.v).run c w=.ok (db l) w:=by
 cases z with
 |nil=>
  have b:a=0:=by simp at d;omega
  have:l=[]:=cp.1 cB
  subst this
  simp[Builtin.firstCells,E.v,db]
 |DG g i sp=>
  have b:a=0:=by simp at d;omega
  have:l=[]:=cp.1 cB
  subst this
  simp[Builtin.firstCells,E.v,db,b,loadCells,loadCellsFrom]
 |mk b o i g=>
  simp only[Builtin.firstCells,E.v,<-f]
  exact U1 l b o w h
def TS(a:ae)(z:Array Value)(b:z.toList=a.map Ce.v)(n:Nat):Builtin.zeroCells z n=db (na a n):=by
 grind [Array.size,List.length,Array.length_toList,Nl,Go.Builtin.zeroCells]
def Vp(l r:ae):db (l++r)=db l++db r:=by simp[db]
def Uo(J:yF c T)(D:mD n e a)(N:Bx n e m)(u:wr c T G n e m h g k (.call ⟨.builtin .append,i,p⟩)):JS c n a m ⟨h,.call ⟨.builtin .append,i,p⟩,g,o,j,l⟩ k:=by
 intro d hw aJ ax R
 subst hw;simp only[wr]at u;split at u
 .rename_i b y t aw aA aH;split at u
  .rename_i B sh ay e2 aK az s z ht ao hx hy;split at u
   .rename_i f ac;cases C:(f.yO||Nat.beq f.bytes 0)
    .rw[C]at u;simp only[cU]at C;obtain⟨A,ag,aE,ae,af⟩:=u;have e1:i=#[b,y]:=by grind [Array.toList_inj]
     have ai:p=#[t,aw]:=by grind [Array.toList_inj]
     subst e1;subst ai;have W:=(nl (J.Ch ht)).1;have X:=(nl (J.Ch ao)).1;obtain⟨zv,hz,au,aI⟩:=Am J ac C.1;obtain⟨ti,hb,aG,ad,_⟩:=KK J ac C.1;have U:=λd=>np J ac C.1 d;have Y:a.eval b=s.v:=D.eq hx O;have Z:a.eval y=z.v:=D.eq hy O;have H:(Builtin.lenOf z.v).run c d=.ok z.len d:=by cases z<;>simp[Builtin.lenOf,E.v,E.len]
     have ah:(f.sh.map Sh.zero).length=f.sh.length:=bO;rw[ah]at ag;simp only[ah]at ae af;have Q:∀r:World,r.heap=d.heap->(Builtin.firstCells f.sh.length z.len z.v).run c r=.ok (db A) r:=λr ap=>
      xD A z z.len f.sh.length ag r cB bY
     have an:=s.adg;by_cases F:s.len+z.len<=s.cap
     .obtain⟨S,q⟩:=ae F;cases s with
      |nil=>
       simp only[E.Tj,E.aaC]at F S q;have M:z.len=0:=V;have:A=[]:=cp.1 cB;subst this;obtain⟨ab,q⟩:=pS q;refine mK (w:=d) (c:=.c (.s .nil)) (v:=.slice none 0 0) (b:=d) D N O (rR.cT d) q ?_ R;have K:a.eval b=.slice none 0 0:=Y;have I:=Q d O;simp only[execOp,resolve,ez,iK,dq,invoke,builtin,Builtin.append_,qX,eK,ji,K,Z];rw[M]at H I;simp[run_underlying W,run_underlying X,U,H,I]
      |DG L o0 sp=>
       simp only[E.XA,E.aaB]at F S q;have M:z.len=0:=V;have:A=[]:=cp.1 cB;subst this;obtain⟨ab,q⟩:=pS q;refine mK (w:=d) (c:=.c (.s (.DG L o0 sp))) (v:=.slice (some ⟨L,o0,some sp⟩) 0 0) (b:=d) D N O (rR.cT d) q ?_ R;have K:a.eval b=.slice (some ⟨L,o0,some sp⟩) 0 0:=Y;have I:=Q d O;simp only[execOp,resolve,ez,iK,dq,invoke,builtin,Builtin.append_,qX,eK,ji,K,Z];rw[M]at H I;simp[run_underlying W,run_underlying X,U,H,I,db,storeCells]
      |mk I M L aa=>
       simp only[E.ku,E.SN,E.lT,E.vL]at F S q;obtain⟨ab,q⟩:=pS q;refine mK (w:=d) (c:=.c (.s (.mk I M (L+z.len) aa))) (v:=.slice (some ⟨I,M,none⟩) (L+z.len) aa) (b:=d.setCells I (M+L*f.sh.length) (A.map Ce.v)) D (by rw[nZ];exact N.eW ab) O (uQ _ _ _ _) (by rw[nZ];exact q) ?_ R;have aj:=IV (e:=c) A I (M+L*f.sh.length) d S;have K:a.eval b=.slice (some ⟨I,M,none⟩) L aa:=Y;simp only[execOp,resolve,ez,iK,dq,invoke,builtin,Builtin.append_,qX,eK,ji,K,Z];simp[run_underlying W,run_underlying X,U,H,F,Q d O,zQ,db,aj]
     .obtain⟨S,old,al,aF,q⟩:=af V;have aB:=growslice_fits (need:=s.len+z.len) (old:=s.cap) (bytes:=f.bytes) V S;have M:f.bytes≠0:=λB=>by rw[B]at C;simp at C
      have am:∀r:World,r.heap=d.heap->(Builtin.firstCells f.sh.length s.len s.v).run c r=.ok (db old) r:=λr ap=>
       xD old s s.len f.sh.length al r cB bY
      let I:Question:=.appendCap (s.len+z.len) s.cap B;let nc:=I.cut (d.tape d.drawn I);let K:World:={d with drawn:=d.drawn+1};have aj:s.len+z.len<=nc:=Nat.le_add_right _ _;refine mK (w:=d) (c:=.c (.s (.mk d.heap.size 0 (s.len+z.len) nc))) (v:=.slice (some ⟨d.heap.size,0,none⟩) (s.len+z.len) nc)
       (b:={K with heap:=d.heap.push (.cells (db (old++A++na (f.sh.map Sh.zero) (nc -(s.len+z.len)))) B)}) D (N.push _) O ⟨O,O,O⟩ (pS (q nc aj)).2 ?_ R
      have av:zv.cells.toList=(f.sh.map Sh.zero).map Ce.v:=by simp[hz]
      have aq:=TS (f.sh.map Sh.zero) zv.cells av (nc -(s.len+z.len));have aC:I.forced=false:=rfl;have aD:¬(Builtin.nextslicecap (s.len+z.len) s.cap*f.bytes>2^48):=by
       grind
      simp only[execOp,resolve,ez,iK,dq,invoke,builtin,Builtin.append_,qX,eK,ji,Y,Z];have L:=am K O;have aa:=Q K O;rw[an]at L⊢;simp only[sP,wo,kE,ez,run_underlying W,run_underlying X,dq,U,iK,H,oT,nv,F,ad,hb,false_or];simp only[M,and_false,nv,ez,dq,ad,aam,yf,newRow];simp[Vp];rw[hb,aW V,aW (show¬(Question.appendCap (s.len+z.len) s.cap B).forced=true by simp[Question.forced])];have ak:(Builtin.firstCells f.sh.length s.len (Value.slice s.cV s.len s.cap)).run c d.drew=.ok (db old) d.drew:=L;have ab:(Builtin.firstCells f.sh.length z.len z.v).run c d.drew=.ok (db A) d.drew:=aa;simp only[ad,dq,ak,ab,au];have ar:Builtin.zeroCells zv.cells ((Question.appendCap (s.len+z.len) s.cap B).cut (d.tape d.drawn (Question.appendCap (s.len+z.len) s.cap B)) -(s.len+z.len))=db (na (f.sh.map Sh.zero) (nc -(s.len+z.len))):=aq;rw[ar];rfl
    grind
   .exact u.elim
  .exact u.elim
 .exact u.elim
end
section
variable{b:Program}{T:TT}{G:ad}
variable{n:Nat}{c:Fr}{a:Act}{m:bh}{k:Fr->SV->bh->Prop}{d:Option Tmp}{e:TypeId}{h:String}{f:Array Edge}{g:Option (Nat×Bool)}
def Yo(K:yF b T)(t:mD n c a)(S:Bx n c m){r:Array Operand}{I:Array TypeId}(j:wr b T G n c m d e k (.call ⟨.builtin .copy,r,I⟩)):JS b n a m ⟨d,.call ⟨.builtin .copy,r,I⟩,e,h,f,g⟩ k:=by
 intro i hw ai ae U
 subst hw;simp only[wr]at j;split at j
 .rename_i q N ad aj ah ab;split at j
  .rename_i ag sh af s z ht hx hy;split at j
   .rename_i H aa;cases L:H.yO
    .rw[L]at j;obtain⟨o,V,W,X,u⟩:=j;obtain⟨Y,u⟩:=pS u;have R:r=#[q,N]:=by grind [Array.toList_inj]
     subst R;have B:I[0]? =some ad:=by rw[<-Array.getElem?_toList,ab];rfl
     have C:=(nl (K.Ch ht)).1;have A:=λi=>np K aa L i;have D:=t.eq hx O;have F:a.eval N=z.v:=t.eq hy O;have y:(Builtin.lenOf z.v).run b i=.ok z.len i:=by cases z<;>simp[Builtin.lenOf,E.v,E.len]
     have l:(Builtin.firstCells H.sh.length (Nat.min z.len s.len) z.v).run b i=.ok (db o) i:=
      xD o z _ H.sh.length V i W (Nat.min_le_left _ _)
     refine mK (w:=i) (c:=.c (.i (Nat.min z.len s.len:Nat))) (v:=.int .i64 (Nat.min z.len s.len:Nat)) (b:=i.setCells s.bu s.off (o.map Ce.v)) t (by rw[nZ];exact S.eW Y) O (uQ _ _ _ _) (by rw[nZ];exact u) ?_ U;cases s with
     |nil=>
      have Q:Nat.min z.len E.nil.len=0:=bO;have:o=[]:=cp.1 cB;subst this;have p:a.eval q=.slice none 0 0:=D;simp only[E.Tj]at l⊢;simp only[execOp,resolve,ez,iK,dq,invoke,builtin,Builtin.copy_,qX,eK,ji,p,F,B];simp only[sP,wo,kE,ez,run_underlying C,dq,y,A,l,iK];rfl
     |DG J M sp=>
      have Q:Nat.min z.len (E.DG J M sp).len=0:=bO;have:o=[]:=cp.1 cB;subst this;have p:a.eval q=.slice (some ⟨J,M,some sp⟩) 0 0:=D;simp only[E.XA]at l⊢;simp only[execOp,resolve,ez,iK,dq,invoke,builtin,Builtin.copy_,qX,eK,ji,p,F,B];simp only[sP,wo,kE,ez,run_underlying C,dq,y,A,l,iK,db];rfl
     |mk J M ac Q=>
      have Z:=IV (e:=b) o J M i X;have p:a.eval q=.slice (some ⟨J,M,none⟩) ac Q:=D;simp only[E.ku]at l⊢;simp only[execOp,resolve,ez,iK,dq,invoke,builtin,Builtin.copy_,qX,eK,ji,p,F,B];simp only[sP,wo,kE,ez,run_underlying C,dq,y,A,l,iK,db,Z];rfl
    grind
   .exact j.elim
  .exact j.elim
 .exact j.elim
def Vr(o:yF b T)(u:GOK b G)(l:mD n c a)(j:Bx n c m)(p:Oper)(i:wr b T G n c m p.dst p.type k p.op):JS b n a m p k:=by
 obtain⟨d,v,e,h,f,g⟩:=p;cases v with
 |alloc t=>exact V0 o l j i
 |box t x=>exact Zn l j i
 |buildSlice t q r=>exact NR o l j i
 |store t x y=>exact V7 o l j i
 |makeSlice t x y=>exact PG o l j i
 |makeFunc r first q=>exact Ri l j i
 |makeMap t w=>exact SX l j i
 |lookup t x y q=>exact Up o l j i
 |mapUpdate t x y z=>exact PH o l j i
 |call r=>
  obtain⟨s,t,x⟩:=r;cases s with
  |builtin q=>
   cases q with
   |append=>exact Uo o l j i
   |copy=>exact Yo o l j i
   |_=>exact i.elim
  |value q=>exact Yn u l j i
  |invoke w q=>exact i.elim
 |_=>exact i.elim
end
section
variable{b:Array Bool}{j:Nat}{L:List (Nat×(World->Prop))}{a:Act}{w:World}
variable{P:Program}{c:Array Oper}{Q:Exit->Act->World->Prop}{d:Region.Mode}{e:Nat->Nat->Bool}
def zJ(P:Program)(d:Region.Mode)(c:Array Oper)(Q:Exit->Act->World->Prop)(e:Nat->Nat->Bool)(L:List (Nat×(World->Prop))):Nat->Array Bool->Act->World->Prop
 |0,b,a,w=>Region.ready d c b=[]/\Q .normal a w
 |h+1,b,a,w=>
  (Region.ready d c b=[]->Q .normal a w)/\
  ∀i∈Region.ready d c b,wpOp P c Q i (λg f=>(∀x∈L,e i x.1=false->x.2 w->x.2 f)/\zJ P d c Q e L h (b.setIfInBounds i true) g f) a w
def Q5{L:List (Nat×(World->Prop))}:∀(f:Nat)(b:Array Bool)(a:Act)(w:World),zJ P d c Q e L f b a w->wpAny P d c Q f b a w
 |0,_,_,_,h=>h
 |f+1,_,_,_,h=>⟨h.1,λk j=>wpOp_mono (λg l i=>Q5 f _ g l i.2) (h.2 k j)⟩
theorem Ii{L g:List (Nat×(World->Prop))}(j:∀x∈g,x∈L):∀(f:Nat)(b:Array Bool)(a:Act)(w:World),zJ P d c Q e L f b a w->zJ P d c Q e g f b a w
 |0,_,_,_,h=>h
 |f+1,_,_,_,h=>⟨h.1,λn l=>wpOp_mono (λk o i=>⟨λx m=>i.1 x (j x m),Ii j f _ k o i.2⟩) (h.2 n l)⟩
def Ik(e:Nat->Nat->Bool)(b:Array Bool):Prop:=∀i,b.getD i false=true->∀r,e i r=true->b.getD r false=true
def aas(d:Region.Mode)(c:Array Oper)(e:Nat->Nat->Bool):Prop:=
 ∀(i r:Nat)(o:Oper),c[i]? =some o->e i r=true->∃a∈o.after,Region.binds d a=true/\(a.on=r\/e a.on r=true)
theorem By(k:aas d c e)(l:Ik e b)(n:j∈Region.ready d c b){r:Nat}(p:e j r=true):b.getD r false=true:=by
 obtain⟨_,q,o,g⟩:=mem_ready.1 n;obtain⟨f,m,i,h⟩:=k j r q o p;have a:=g f m i;rcases h with rfl|h
 .exact a
 .exact l _ a r h
theorem Ik.dX(k:aas d c e)(f:Ik e b)(l:j∈Region.ready d c b):Ik e (b.setIfInBounds j true):=by
 intro i a r h;by_cases g:j=i
 .grind [Go.getD_set_true,By]
 .rw[getD_set_ne false g]at a;exact getD_set_true (f i a r h)
def LA{i:Nat}{g:Oper}{v:Value}{S:World->Prop}(T:aas d c e)(z:c[i]? =some g)(C:∀(j:Nat)(D:Oper) m l,c[j]? =some D->D.op≠.select m l)
 (F:∀f a w,Q (.panic f) (a.put g.dst v) w->Q (.panic f) a w):
 ∀(n:Nat)(b:Array Bool)(a:Act)(w:World),Ik e b->
  (∀j h,c[j]? =some h->j≠i->b.getD j true=false->(∀f∈h.after,Region.binds d f=true->f.on≠i)->g.apart c h=true)->
  i∈Region.ready d c b->YieldsIf P c S g v a->S w->
  zJ P d c Q e ((i,S)::L) n (b.setIfInBounds i true) (a.put g.dst v) w->zJ P d c Q e L (n+1) b a w:=by
 intro n
 induction n with
 |zero=>
  intro b a w _ _ M u x H
  refine⟨λr=>cB,λj q=>?_⟩
  by_cases o:j=i
  .subst o;exact u.wpOp z x ⟨λk _ _ r=>r,H⟩
  .have:=ready_mono q o
   rw[H.1]at this
   cases this
 |succ n Z=>
  intro b a w V y M u x H
  refine⟨λr=>cB,λj q=>?_⟩
  by_cases o:j=i
  .grind [Go.YieldsIf.wpOp,Ii,List.mem_cons_of_mem]
  .have E:=H.2 j (ready_mono q o)
   obtain⟨B,h,s,O⟩:=mem_ready.1 q
   have t:b.getD i false=false:=by
    grind [Go.mem_ready,Nat.lt_or_ge,Array.size,Array.getElem?_eq_none]
   have K:∀f∈h.after,Region.binds d f=true->f.on≠i:=λf W R X=>by
    grind
   have U:e j i=false:=by
    grind [By]
   have N:=wpOp_putIf s (y j h s o B K) (λm l=>C i g m l z) (λm l=>C j h m l s) F u E
   have Y:∀k p,c[k]? =some p->k≠i->(b.setIfInBounds j true).getD k true=false->
    (∀f∈p.after,Region.binds d f=true->f.on≠i)->g.apart c p=true:=λk p G I t J=>by
    refine y k p G I ?_ J
    by_cases A:j=k
    .subst A;exact B
    .rw[getD_set_ne true A]at t;exact t
   grind [Go.wpOp_mono,List.mem_cons_of_mem,Array.setIfInBounds,Ik.dX,Go.ready_mono,List.mem_cons_self,Array.setIfInBounds_comm]
def W0{f:Nat}(k:Region.ready d c b≠[])
 (j:∀i∈Region.ready d c b,wpOp P c Q i (λh g=>(∀x∈L,e i x.1=false->x.2 w->x.2 g)/\zJ P d c Q e L f (b.setIfInBounds i true) h g) a w):
 zJ P d c Q e L (f+1) b a w:=by constructor<;>grind
theorem Vq(f:Region.ready d c b=[])(h:Q .normal a w):
 ∀g,zJ P d c Q e L g b a w
 |0=>⟨f,h⟩
 |_+1=>⟨λ_=>h,by rw[f];simp⟩
end
section
variable{M:ad}{a:Act}{d:Option Nat}{o:Oper}{m:bh}
variable{b:Program}{T:TT}{G:ad}{n:Nat}
def PY:Op->Bool
 | .alloc _| .box ..| .buildSlice ..| .store ..| .makeSlice ..| .makeMap ..| .lookup ..| .mapUpdate ..| .makeFunc ..=>true
 | .call ⟨.builtin .append,_,_⟩| .call ⟨.builtin .copy,_,_⟩=>true
 | .call ⟨.builtin _,_,_⟩=>false
 | .call _=>true
 |_=>false
def vZ(n:Nat):Option Nat->Bool
 |none=>true
 |some d=>Nat.blt d n
def PT(a:ar)(j:Nat):Option Nat:=
 match Mh a j with
 |some o=>o.dst
 |none=>none
def gd(e:ar)(a:Fr)(g:Option (Nat×Bool))(TY b:Fr->Prop):Prop:=
 match g with
 |none=>TY a
 |some (j,c)=>match PT e j with
  |none=>False
  |some d=>match kK a d with
   | .tt=>bif c then TY a else b a
   | .ff=>bif c then b a else TY a
   | .un=>b a
   | .c (.t x)=>(x=true->bif c then TY ((d,.tt)::a)else b ((d,.tt)::a))/\(x=false->bif c then b ((d,.ff)::a)else TY ((d,.ff)::a))
   |_=>False
def wm(b:Program)(T:TT)(G:ad)(n:Nat)(c:ar):ar->Fr->bh->(Fr->bh->Prop)->Prop
 |[],a,m,k=>k a m
 |o::kN,a,m,k=>
  bif vZ n o.dst then
   gd c a o.guard
    (λa=>bif PY o.op then wr b T G n a m o.dst o.type (λd x e=>wm b T G n c kN (ym d o.dst x) e k) o.op
     else rd T a m (λx=>wm b T G n c kN (ym a o.dst x) m k) o.op)
    (λa=>wm b T G n c kN (ym a o.dst .un) m k)
  else False
def DY:ar->ad
 |[]=>[]
 |o::r=>match o.dst with
  |some d=>d::DY r
  |none=>DY r
def o8(M:ad)(a b:Act):Prop:=∀t,t∉M->b.tmps.getD t undef=a.tmps.getD t undef
def o8.cT(M:ad)(a:Act):o8 M a a:=λ_ _=>O
def o8.J{b c:Act}(h:o8 M a b)(k:o8 M b c):o8 M a c:=λt d=>(k t d).trans (h t d)
def o8.cG(hd:∀t,d=some t->t∈M){v:Value}:o8 M a (a.put d v):=by
 cases d with
 |none=>exact o8.cT M a
 |some d=>
  intro t c;have b:d≠t:=cB;simp[Act.put,VF b]
theorem P8{d:Nat}(hd:o.dst=some d):∀(a:ar),o∈a->d∈DY a:=by
 intro a;induction a with
 |nil=>intro h;cases h
 |cons x r c=>
  intro h;rcases bo.1 h with b|b
  .grind [DY,List.mem_cons_self]
  .grind [DY,List.mem_cons_of_mem]
def Iu(h:vZ n d=true):∀t,d=some t->t<n:=by
 rintro t rfl;have:Nat.blt t n=true:=h;simpa[Nat.blt,Nat.succ_le_iff]using this
def Nk(g:Array Oper){i:Fr}(j:mD n i a)(u:Bx n i m)(o:Oper){TY s:Fr->Prop}(h:gd g.toList i o.guard TY s):
 (Region.wanted o (yielded g a.tmps)=true/\∃b,TY b/\mD n b a/\Bx n b m)\/
 (Region.wanted o (yielded g a.tmps)=false/\∃b,s b/\mD n b a/\Bx n b m):=by
 unfold gd at h
 cases k:o.guard with
 |none=>
  rw[k]at h
  exact bC ⟨by simp[Region.wanted,k],i,h,j,u⟩
 |some v=>
  obtain⟨q,z⟩:=v
  rw[k]at h
  simp only at h
  split at h
  .exact h.elim
  .rename_i d hd
   have w:(g[q]?).bind (·.dst)=some d:=by
    grind [PT,tQ]
   have b:=j.bt d
   have p:∀c:Bool,a.tmps.getD d undef=.bool c->yielded g a.tmps q=some c:=by
    intro c e;have:a.tmps[d]? =some (.bool c):=by
     cases r:a.tmps[d]? with
     |none=>rw[DE,r]at e;simp[undef]at e
     |some y=>rw[DE,r]at e;simp at e;rw[e]
    grind [Go.yielded]
   split at h
   .rename_i f
    rw[f]at b
    have l:=p true b
    grind [Go.Region.wanted]
   .rename_i f
    rw[f]at b
    have l:=p false b
    grind [Go.Region.wanted]
   .rename_i f
    rw[f]at b
    have l:yielded g a.tmps q=none:=by
     have t:a.tmps.getD d undef=undef:=b;rw[DE]at t;grind [Go.yielded,Go.undef]
    grind [Go.Region.wanted]
   .rename_i x f
    rw[f]at b
    have l:=p x b
    have y:∀c:Bool,x=c->mD n ((d,if c then SV.tt else SV.ff)::i) a:=by
     rintro c rfl;refine⟨j.aQ,j.nN,λt=>?_⟩;simp only[kK];cases e:Nat.beq d t
     .exact j.bt t
     .have:=gA e;subst this;cases x<;>exact b
    grind [Go.Region.wanted,Bx.jN]
   .exact h.elim
def ad6(g:yF b T){c:Fr}(f:mD n c a)(e:Bx n c m){k:SV->Prop}(h:rd T c m k o.op){w:World}(p:w.heap=m)
 {d:Act->World->Prop}{Q:Exit->Act->World->Prop}(j:∀x v,k x->x.Is v->d (a.put o.dst v) w):o.wp b a w d Q:=by
 obtain⟨x,v,i,q,l⟩:=Qq (P:=b) g f e o h
 unfold Oper.wp
 rw[l w (λr _=>by rw[p])]
 exact j x v i q
def ze(p:yF b T)(t:GOK b G)(c:Array Oper){Q:Exit->Act->World->Prop}{I:World}{E:Act}:
 ∀(kN:ar)(e:Fr)(m:bh)(k:Fr->bh->Prop)(a:Act)(w:World),(∀o∈kN,o∈c.toList)->wm b T G n c.toList kN e m k->mD n e a->Bx n e m->w.heap=m->rR I w->
  o8 (DY c.toList) E a->
  (∀i f g,k i g.heap->mD n i f->Bx n i g.heap->rR I g->o8 (DY c.toList) E f->Q .normal f g)->wpList b c Q kN a w
 |[],e,m,k,a,w,_,h,y,v,f,s,q,r=>by
  subst f;exact r e a w h y v s q
 |o::kN,e,m,k,a,w,L,h,y,v,f,s,q,r=>by
  simp only[wm]at h;cases hd:vZ n o.dst
  .grind
  .rw[hd]at h;simp only[pK]at h;have z:=Iu hd;have A:∀d,o.dst=some d->d∈DY c.toList:=by grind [P8,List.mem_cons_self]
   have B:=λR N=>L R (aX _ N);unfold wpList;rcases Nk c y v o h with⟨F,i,u,l,j⟩|⟨F,i,M,l,j⟩
   .rw[bn F];refine .inl ?_;cases H:PY o.op
    .simp only[H,zK]at u;refine ad6 p l j u f λU S D C=>?_;exact ze p t c kN _ m k _ w B D (l.cG C z) j.cG f s (q.J (o8.cG A)) r
    .simp only[H,pK]at u;refine Vr p t l j o u w f _ _ λV U S g D K J C P=>?_;exact ze p t c kN _ _ k _ g B D (K.cG C z) J.cG O (s.J P) (q.J (o8.cG A)) r
   .rw[aW cB];exact ze p t c kN _ m k _ w B M (l.cG (x:=.un) O z) j.cG f s (q.J (o8.cG A)) r
end
section
variable{P:Program}{T:TT}{G:ad}{n:Nat}
def ys:ad->Nat->Nat
 |[],_=>0
 |x::_,0=>x
 |_::r,n+1=>ys r n
def oN:afx->Nat
 |[]=>0
 |e::r=>bif Region.binds .any e then 2^e.on|||oN r else oN r
def sk(a:ad):afx->Nat
 |[]=>0
 |e::r=>bif Region.binds .any e then(2^e.on|||ys a e.on)|||sk a r else sk a r
def oF(a:ad):ar->ad->ad->Bool
 |[],[],[]=>true
 |o::d,p::e,b::c=>Nat.beq p (oN o.after.toList)&&Nat.beq b (sk a o.after.toList)&&oF a d e c
 |_,_,_=>false
def XG:Op->aD
 | .alloc _| .ready _| .waits _=>[]
 | .move x| .assign x| .box _ x| .load _ x| .nilCheck x| .unOp _ _ x| .convert _ _ x| .sliceToArrayPointer _ x| .makeInterface _ x
 | .makeChan _ x| .fieldAddr _ x _| .field _ x _| .range _ x| .next x _| .entry x| .typeAssert x _ _ _| .extract x _| .panic x| .recv _ x _=>[x]
 | .pick c a b=>[c,a,b]
 | .build _ b| .buildSlice _ _ b=>b.toList.map (·.2)
 | .store _ a v| .binOp _ _ a v _| .makeSlice _ a v| .indexAddr _ a v| .index _ a v| .lookup _ a v _| .mapEntry _ a v| .send a v=>[a,v]
 | .makeFunc _ first a=>first.toList++a.toList
 | .makeMap _ r=>r.toList
 | .slice _ x l h m=>[x]++l.toList++h.toList++m.toList
 | .mapUpdate _ m k v| .entryStore _ m k v| .insert _ m k v=>[m,k,v]
 | .call ⟨.value f,a,_⟩| .go ⟨.value f,a,_⟩| .defer ⟨.value f,a,_⟩=>f::a.toList
 | .call ⟨.invoke f _,a,_⟩| .go ⟨.invoke f _,a,_⟩| .defer ⟨.invoke f _,a,_⟩=>f::a.toList
 | .call ⟨.builtin _,a,_⟩| .go ⟨.builtin _,a,_⟩| .defer ⟨.builtin _,a,_⟩=>a.toList
 | .select a _=>(a.flatMap λc=>#[c.chan]++c.send.toArray).toList
def ZY(a:Op):a.operands.toList=XG a:=by
 cases a<;>try (simp[Op.operands,XG];done)
 all_goals
  rename_i c
  obtain⟨b,d,e⟩:=c
  cases b<;>simp[Op.operands,XG,Call.operands]
def NN(d:Nat):aD->Bool
 |[]=>false
 | .tmp t::r=>Nat.beq t d||NN d r
 |_::r=>NN d r
def Tl(a:ar)(o:Oper)(d:Nat):Bool:=
 NN d (XG o.op)||(match o.guard with
  |some (g,_)=>(match PT a g with|some t=>Nat.beq t d|none=>false)
  |none=>false)
def SK(a:ar)(x y:Oper):Bool:=
 (match x.dst with
  |some d=>!Tl a y d&&(match y.dst with|some e=>!Nat.beq d e|none=>true)
  |none=>true)&&
 (match y.dst with
  |some d=>!Tl a x d
  |none=>true)
def adb:Op->Bool
 | .select ..=>true
 |_=>false
def DS(b:ar)(i:Nat)(a:Nat)(o:Oper):Nat->ar->ad->Bool
 |_,[],_=>true
 |_,_,[]=>true
 |j,x::c,p::d=>(Nat.beq j i||Nat.testBit p i||Nat.testBit a j||SK b o x)&&DS b i a o (j+1) c d
def JX(a:ar)(b:ad):Nat->ar->ad->Bool
 |_,[],_=>true
 |_,_,[]=>true
 |i,o::e,c::d=>!adb o.op&&(PY o.op||DS a i c o 0 a b)&&JX a b (i+1) e d
def nQ(done p i:Nat):Bool:=!(Nat.testBit done i)&&Nat.beq (p&&&done) p
def Bd(done:Nat):Nat->ar->ad->Option Nat
 |_,[],_=>none
 |_,_,[]=>none
 |i,o::a,p::b=>bif nQ done p i&&!(PY o.op)then some i else Bd done (i+1) a b
def tR(done:Nat):Nat->ar->ad->ad
 |_,[],_=>[]
 |_,_,[]=>[]
 |i,_::a,p::b=>bif nQ done p i then i::tR done (i+1) a b else tR done (i+1) a b
def Qy(m a:bh):ao->Prop->Prop
 |[],k=>k
 |(b,o)::r,k=>aS a b o=aS m b o/\Qy m a r k
def If(a:Nat)(m b:bh):List (Nat×ao)->Prop->Prop
 |[],k=>k
 |(r,c)::L,k=>bif Nat.testBit a r then If a m b L k else Qy m b c (If a m b L k)
def SJ:ad->(Nat->Prop)->Prop
 |[],_=>True
 |[i],f=>f i
 |i::r,f=>f i/\SJ r f
def sO(P:Program)(T:TT)(G:ad)(n:Nat)(b:ar)(c d:ad):Nat->Nat->Fr->bh->List (Nat×ao)->(Fr->bh->Prop)->Prop
 |0,done,a,m,_,k=>match tR done 0 b c with
  |[]=>k a m
  |_=>False
 |e+1,done,a,m,L,k=>
  match Bd done 0 b c with
  |some i=>match Mh b i with
   |some o=>bif vZ n o.dst then
    gd b a o.guard
     (λa=>rd T a m (λx=>sO P T G n b c d e (done|||2^i) (ym a o.dst x) m ((i,YT T a o.op)::L) k) o.op)
     (λa=>sO P T G n b c d e (done|||2^i) (ym a o.dst .un) m L k)
    else False
   |none=>False
  |none=>match tR done 0 b c with
   |[]=>k a m
   |h=>SJ h λi=>match Mh b i with
    |some o=>bif vZ n o.dst then
     gd b a o.guard
      (λa=>wr P T G n a m o.dst o.type (λg x f=>If (ys d i) m f L (sO P T G n b c d e (done|||2^i) (ym g o.dst x) f L k)) o.op)
      (λa=>sO P T G n b c d e (done|||2^i) (ym a o.dst .un) m L k)
     else False
    |none=>False
theorem rm(r:Nat):∀(a:afx),Nat.testBit (oN a) r=true<->∃e∈a,Region.binds .any e=true/\e.on=r
 |[]=>by simp[oN]
 |e::a=>by
  have b:=rm r a;grind [oN,Go.Region.binds]
theorem CC(b:ad)(r:Nat):∀(a:afx),Nat.testBit (sk b a) r=true->∃e∈a,Region.binds .any e=true/\(e.on=r\/Nat.testBit (ys b e.on) r=true)
 |[],h=>by simp[sk]at h
 |e::a,h=>by
  have c:=CC b r a;grind [sk,Go.Region.binds,List.mem_cons_of_mem,List.mem_cons_self]
def pA(c:ad):∀{d:ar}{e a:ad},oF c d e a=true->∀(i:Nat)(o:Oper),d[i]? =some o->
 e[i]? =some (oN o.after.toList)/\ys a i=sk c o.after.toList/\∃b,a[i]? =some b
 |[],[],[],_,i,o,h=>by simp at h
 |x::d,p::e,b::a,h,i,o,f=>by
  simp only[oF,eZ]at h;obtain⟨⟨g,j⟩,k⟩:=h;cases i with
  |zero=>
   simp at f;subst f;exact⟨by simp[gA g],by simp[ys,gA j],b,bO⟩
  |succ i=>
   have:=pA c k i o cB;simpa[ys]using this
 |[],[],_::_,h,_,_,_=>by simp[oF]at h
 |[],_::_,_,h,_,_,_=>by simp[oF]at h
 |_::_,[],_,h,_,_,_=>by simp[oF]at h
 |_::_,_::_,[],h,_,_,_=>by simp[oF]at h
def ND(d:ad):∀{a:ar}{c b:ad},oF d a c b=true->c.length=a.length/\b.length=a.length
 |[],[],[],_=>⟨O,O⟩
 |x::a,p::c,e::b,h=>by
  simp only[oF,eZ]at h;have:=ND d h.2;simp[this.1,this.2]
 |[],[],_::_,h=>by simp[oF]at h
 |[],_::_,_,h=>by simp[oF]at h
 |_::_,[],_,h=>by simp[oF]at h
 |_::_,_::_,[],h=>by simp[oF]at h
end
section
variable{N done a:Nat}{b:Array Bool}
variable{P:Program}{T:TT}{G:ad}{n:Nat}
def xU{d:Nat}:∀{a:aD},NN d a=false->d∉(a.filterMap λ| .tmp t=>some t|_=>none)
 |[],_=>bO
 |x::r,h=>by
  cases x with
  |tmp t=>
   simp only[NN,cU]at h;have b:=xU h.2;have:t≠d:=λe=>by subst e;simp at h
   simp only[List.filterMap_cons,bo,FU];exact⟨λe=>this e.symm,b⟩
  |const v=>simpa using xU (a:=r) (by simpa[NN]using h)
  |global g=>simpa using xU (a:=r) (by simpa[NN]using h)
  |func f=>simpa using xU (a:=r) (by simpa[NN]using h)
def ZE(a:Array Oper)(g:Nat):PT a.toList g=(a[g]?).bind (·.dst):=by
 grind [PT,tQ]
theorem NB(b:Array Oper){o:Oper}{d:Nat}(h:Tl b.toList o d=false):d∉o.looksAt b:=by
 simp only[Tl,cU]at h;unfold Oper.looksAt;rw[ZY,bU,FU];refine⟨xU h.1,?_⟩;have a:=h.2;cases c:o.guard with
 |none=>simp
 |some p=>
  obtain⟨g,f⟩:=p;rw[c]at a;simp only at a⊢;rw[ZE]at a;cases hd:(b[g]?).bind (·.dst)with
  |none=>simp
  |some t=>
   rw[hd]at a;simp only at a;simp only[Option.toList_some,FR];intro e;subst e;simp at a
theorem Ui(c:Array Oper){x y:Oper}(h:SK c.toList x y=true):x.apart c y=true:=by
 simp only[SK,eZ]at h;obtain⟨a,j⟩:=h;unfold Oper.apart;simp only[eZ];constructor
 .cases e:x.dst with
  |none=>rfl
  |some g=>
   rw[e]at a;simp only[eZ,xZ]at a⊢;refine⟨?_,?_⟩
   .grind [NB]
   .have b:=a.2;cases f:y.dst with
    |none=>simp
    |some i=>
     rw[f]at b;simp only[xZ]at b;simp only[TW,ne_eq,VB];intro d;subst d;simp at b
 .grind [Bool.not_eq_true',NB]
def HM(f:ar)(a d:Nat)(o:Oper):∀{e:ar}{g:ad}{b:Nat},DS f a d o b e g=true->∀(j:Nat)(x:Oper)(p:Nat),e[j]? =some x->g[j]? =some p->
 b+j=a\/Nat.testBit p a=true\/Nat.testBit d (b+j)=true\/SK f o x=true
 |[],_,_,_,j,x,p,h,_=>by simp at h
 |_::_,[],_,_,j,x,p,_,h=>by simp at h
 |y::e,q::g,b,h,j,x,p,k,i=>by
  simp only[DS,eZ,eG]at h;obtain⟨c,m⟩:=h;cases j with
  |zero=>
   simp at k i;subst k;subst i;rcases c with((c|c)|c)|c
   .grind [Nat.eq_of_beq_eq_true]
   .grind
   .grind
   .grind
  |succ j=>
   have:=HM f a d o m j x p cB cB;have l:b+1+j=b+(j+1):=V;rw[l]at this;exact this
def AZ(d:ar)(g:ad):∀{f:ar}{e:ad}{c:Nat},JX d g c f e=true->∀(a:Nat)(o:Oper)(b:Nat),f[a]? =some o->e[a]? =some b->
 adb o.op=false/\(PY o.op=true\/DS d (c+a) b o 0 d g=true)
 |[],_,_,_,a,o,b,h,_=>by simp at h
 |_::_,[],_,_,a,o,b,_,h=>by simp at h
 |y::f,q::e,c,h,a,o,b,j,i=>by
  simp only[JX,eZ,eG,xZ]at h;obtain⟨⟨l,m⟩,n⟩:=h;cases a with
  |zero=>simp at j i;subst j;subst i;exact⟨l,sp m⟩
  |succ a=>
   have:=AZ d g n a o b cB cB;have k:c+1+a=c+(a+1):=V;rw[k]at this;exact this
theorem NA(p d:Nat):Nat.beq (p&&&d) p=true<->∀r,Nat.testBit p r=true->Nat.testBit d r=true:=by
 constructor
 .grind [Nat.eq_of_beq_eq_true]
 .intro h;have:p&&&d=p:=by
   apply Nat.eq_of_testBit_eq;grind [Nat.testBit]
  rw[this];simp
@[grind cases] structure CE (N done:Nat) (listed:Array Bool):Prop where
 aQ:listed.size=N
 bit:∀i,listed.getD i false=Nat.testBit done i
theorem CE.un(h:CE N done b)(c:a<N):b.getD a true=Nat.testBit done a:=by
 grind [CE.bit,Array.size,CE.aQ]
def CE.dX(h:CE N done b)(d:a<N):CE N (done|||2^a) (b.setIfInBounds a true):=by
 refine⟨by simp[h.aQ],λj=>?_⟩;have c:a<b.size:=by grind [CE.aQ]
 rw[Nat.testBit_or,Nat.testBit_two_pow];by_cases e:a=j
 .subst e;simp[c]
 .rw[getD_set_ne false e,h.bit j];simp[e]
theorem Mp(c:Array Oper){h e i:ad}(f:oF e c.toList h i=true)(l:CE c.size done b)(a:Nat):
 a∈Region.ready .any c b<->∃o p,c[a]? =some o/\h[a]? =some p/\nQ done p a=true:=by
 rw[mem_ready]
 constructor
 .rintro⟨k,o,d,m⟩
  have j:a<c.size:=(gV.1 d).1
  have g:=(pA e f a o cB).1
  refine⟨o,_,d,g,?_⟩
  grind [nQ,Bool.not_eq_true',CE.un,NA,rm,CE.bit]
 .rintro⟨o,p,d,g,m⟩
  have j:a<c.size:=(gV.1 d).1
  have k:=(pA e f a o cB).1
  grind [Option.some.injEq,nQ,Bool.not_eq_true',CE.un,CE.bit,NA,rm]
theorem P9(done:Nat):∀{c:ar}{d:ad}{b a:Nat},a∈tR done b c d<->∃j o p,a=b+j/\c[j]? =some o/\d[j]? =some p/\nQ done p a=true
 |[],_,_,_=>by simp[tR]
 |_::_,[],_,_=>by simp[tR]
 |x::c,q::d,b,a=>by
  have h:=P9 done (c:=c) (d:=d) (b:=b+1) (a:=a);have k:(∃j o p,a=b+j/\(x::c)[j]? =some o/\(q::d)[j]? =some p/\nQ done p a=true)<->
   ((a=b/\nQ done q b=true)\/∃j o p,a=b+1+j/\c[j]? =some o/\d[j]? =some p/\nQ done p a=true):=by
   constructor
   .grind
   .rintro(⟨rfl,e⟩|⟨j,o,p,rfl,f,g,e⟩)
    .exact⟨0,x,q,O,bO,bO,e⟩
    .exact⟨j+1,o,p,V,sp f,sp g,e⟩
  grind [tR,nQ]
def Nt(done:Nat):∀{c:ar}{d:ad}{b a:Nat},Bd done b c d=some a->∃j o p,a=b+j/\c[j]? =some o/\d[j]? =some p/\nQ done p a=true/\PY o.op=false
 |[],_,_,_,h=>by simp[Bd]at h
 |_::_,[],_,_,h=>by simp[Bd]at h
 |x::c,q::d,b,a,h=>by
  simp only[Bd]at h;cases e:(nQ done q b&&!(PY x.op))
  .rw[e]at h;obtain⟨j,o,p,rfl,f,g,i,k⟩:=Nt done h;grind
  .rw[e]at h;simp at h;subst h;grind [Bool.not_eq_true']
def RU:∀{l:ad}{f:Nat->Prop},SJ l f->∀a∈l,f a
 |[a],f,h,j,b=>by simp at b;subst b;exact h
 |a::c::r,f,h,j,b=>by
  rcases bo.1 b with rfl|b
  .exact h.1
  .exact RU h.2 j b
def Qz{m b:bh}:∀{l:ao}{k:Prop},Qy m b l k->k/\∀q∈l,aS b q.1 q.2=aS m q.1 q.2
 |[],k,h=>⟨h,bO⟩
 |(e,o)::r,k,h=>by
  obtain⟨c,d⟩:=Qz h.2;refine⟨c,λq a=>?_⟩;rcases bo.1 a with rfl|a
  .exact h.1
  .exact d q a
def JM{a:Nat}{m d:bh}:∀{L:List (Nat×ao)}{k:Prop},If a m d L k->k/\∀x∈L,Nat.testBit a x.1=false->∀q∈x.2,aS d q.1 q.2=aS m q.1 q.2
 |[],k,h=>⟨h,bO⟩
 |(r,j)::L,k,h=>by
  simp only[If]at h;cases c:Nat.testBit a r
  .rw[c]at h;obtain⟨e,l⟩:=Qz h;obtain⟨b,f⟩:=JM e;refine⟨b,λx g i=>?_⟩;grind
  .rw[c]at h;obtain⟨b,f⟩:=JM h;refine⟨b,λx g i=>?_⟩;grind
def ae2(L:List (Nat×ao))(b:List (Nat×(World->Prop))):Prop:=
 ∀x∈b,(∀w,x.2 w)\/∃(a:ao)(c:Nat×Nat->Option Value),(x.1,a)∈L/\x.2=λw=>∀q∈a,aS w.heap q.1 q.2=c q
end
section
variable{a:Program}{T:TT}{G:ad}{n:Nat}
def TQ(hT:yF a T)(hG:GOK a G)(b:Array Oper){K d:ad}(E:oF d b.toList K d=true)(af:JX b.toList K 0 b.toList d=true)
 {ab:Exit->Act->World->Prop}(hQ:∀z e w,¬ab (.panic z) e w){w0:World}{a0:Act}:
 ∀(t done:Nat)(A:Fr)(X:bh)(L:List (Nat×ao))(r:Fr->bh->Prop)(y:List (Nat×(World->Prop)))(c:Array Bool)(e:Act)(w:World),
  sO a T G n b.toList K d t done A X L r->ae2 L y->CE b.size done c->Ik (λi M=>Nat.testBit (ys d i) M) c->mD n A e->Bx n A X->w.heap=X->rR w0 w->
  o8 (DY b.toList) a0 e->
  (∀m g f,r m f.heap->mD n m g->Bx n m f.heap->rR w0 f->o8 (DY b.toList) a0 g->ab .normal g f)->
  zJ a .any b ab (λi M=>Nat.testBit (ys d i) M) y t c e w:=by
 have C:aas .any b (λi M=>Nat.testBit (ys d i) M):=by
  intro i M o u hr;have Z:=(pA d E i o cB).2.1;grind [CC]
 have ay:=ND d E
 have ai:∀(j:Nat)(o:Oper) cs l,b[j]? =some o->o.op≠.select cs l:=by
  intro j o cs l u g;obtain⟨_,_,bj,am⟩:=pA d E j o cB;have:=(AZ _ _ af j o bj cB am).1;grind [adb]
 have ah:∀{done:Nat}{c:Array Bool},CE b.size done c->∀i,i∈Region.ready .any b c<->i∈tR done 0 b.toList K:=by
  grind [Mp,P9]
 have ap:∀{done:Nat}{c:Array Bool},CE b.size done c->tR done 0 b.toList K=[]->Region.ready .any b c=[]:=by
  intro done c hD h;apply List.eq_nil_iff_forall_not_mem.2;grind
 intro t
 induction t with
 |zero=>
  intro done A X L r y c e w h hL hD hC hR hB hw hs hk hq
  subst hw
  simp only[sO]at h
  split at h
  .rename_i k
   exact⟨ap hD k,hq A e w h hR hB hs hk⟩
  .exact h.elim
 |succ t I=>
  intro done A X L r y c e w h hL hD hC hR hB hw hs hk hq
  subst hw
  simp only[sO]at h
  split at h
  · -- a reading is taken first
   rename_i i D
   obtain⟨j,o,aw,g,u,hp,hr,aA⟩:=Nt done D
   have:i=j:=V
   subst this
   rw[tQ,u]at h
   simp only at h
   have F:b[i]? =some o:=cB
   have W:i<b.size:=(gV.1 F).1
   have aa:i∈Region.ready .any b c:=by grind [Mp]
   cases hd:vZ n o.dst
   .grind
   .rw[hd]at h
    simp only[pK]at h
    have R:=Iu hd
    have U:∀Q,o.dst=some Q->Q∈DY b.toList:=by grind [P8,List.mem_of_getElem?]
    have ag:∀j J,b[j]? =some J->j≠i->c.getD j true=false->(∀g∈J.after,Region.binds .any g=true->g.on≠i)->o.apart b J=true:=by
     intro j J an av ax az;have au:j<b.size:=(gV.1 an).1;obtain⟨_,ar,bi,al⟩:=pA d E i o u;rcases(AZ _ _ af i o bi u al).2 with B|B
     .grind
     .have p:=(pA d E j J cB).1;have q:ys d i=bi:=by
       have:∀(k:ad)(i l:Nat),k[i]? =some l->ys k i=l:=by
        intro k;induction k with
        |nil=>intro i l h;simp at h
        |cons Y k I=>intro i l h;cases i with
         |zero=>simpa[ys]using h
         |succ i=>simpa[ys]using I i l cB
       grind
      rcases HM _ _ _ _ B j J _ cB p with g|g|g|g
      .grind
      .grind [rm]
      .grind [By,CE.bit,CE.un]
      grind [Ui]
    rcases Nk b hR hB o h with⟨H,m,ae,q,p⟩|⟨H,m,ac,q,p⟩
    .obtain⟨Y,aj,hx,hv,aq⟩:=Qq (P:=a) hT q p o ae
     let ak:World->Prop:=λf=>∀s∈YT T m o.op,aS f.heap s.1 s.2=aS w.heap s.1 s.2
     refine LA (S:=ak) C F ai (λz e w hc=>absurd hc (hQ _ _ _)) t c e w hC ag aa (v:=aj) (bC ⟨H,λf k=>aq f k⟩) (λs _=>O) ?_
     refine I _ _ _ _ r _ _ _ w hx ?_ (hD.dX W) (hC.dX C aa) (q.cG hv R) p.cG O hs (hk.J (o8.cG U)) hq
     intro N k
     rcases bo.1 k with rfl|k
     .grind [aS,List.mem_cons_self]
     .rcases hL N k with B|⟨As,z,Z,h2⟩
      .exact bC B
      .exact bR ⟨As,z,aX _ Z,h2⟩
    .refine LA (S:=λ_=>True) C F ai (λz e w hc=>absurd hc (hQ _ _ _)) t c e w hC ag aa (v:=undef) (bR ⟨H,O⟩) trivial ?_
     refine I _ _ _ _ r _ _ _ w ac ?_ (hD.dX W) (hC.dX C aa) (q.cG (x:=.un) O R) p.cG O hs (hk.J (o8.cG U)) hq
     intro N k
     rcases bo.1 k with rfl|k
     .grind
     .exact hL N k
  .split at h
   .grind [Vq]
   .rename_i rs an
    have al:=RU h
    refine W0 ?_ ?_
    .intro g
     apply an
     cases h:tR done 0 b.toList K with
     |nil=>rfl
     |cons Y J=>
      have:Y∈Region.ready .any b c:=(ah hD Y).2 cB
      rw[g]at this
      cases this
    .intro i D
     have h:=al i ((ah hD i).1 D)
     obtain⟨o,aw,F,hp,hr⟩:=(Mp b E hD i).1 D
     have u:b.toList[i]? =some o:=cB
     have W:i<b.size:=(gV.1 F).1
     rw[tQ,u]at h
     simp only at h
     cases hd:vZ n o.dst
     .grind
     .rw[hd]at h
      simp only[pK]at h
      have R:=Iu hd
      have U:∀Q,o.dst=some Q->Q∈DY b.toList:=by grind [P8,List.mem_of_getElem?]
      unfold wpOp
      simp only[F]
      rcases Nk b hR hB o h with⟨H,m,ae,q,p⟩|⟨H,m,ac,q,p⟩
      .rw[bn H]
       refine .inl (Vr hT hG q p o ae w O _ _ λax Y aj f hx ak ag hv aq=>?_)
       obtain⟨ar,au⟩:=JM hx
       refine⟨λN k av J=>?_,I _ _ _ L r y _ _ f ar hL (hD.dX W) (hC.dX C D) (ak.cG hv R) ag.cG O (hs.J aq) (hk.J (o8.cG U)) hq⟩
       rcases hL N k with B|⟨As,z,Z,h2⟩
       .exact B f
       .rw[h2]at J⊢
        intro s aa
        rw[au _ Z av s aa,J s aa]
      .rw[aW cB]
       exact⟨λN k _ J=>J,I _ _ _ L r y _ _ w ac hL (hD.dX W) (hC.dX C D) (q.cG (x:=.un) O R) p.cG O hs (hk.J (o8.cG U)) hq⟩
end
section
variable{M:ad}{a:Act}{s:Sh}{y:s.ty}
variable{P:Program}{T:TT}{G:ad}{n:Nat}
structure TX where
 ZO:List (Nat×aw)
 aaH:List (Nat×aw)
 fQ:List (Nat×ad)
def lk{α:Type}:List (Nat×α)->Nat->Option α
 |[],_=>none
 |(u,x)::r,t=>bif Nat.beq u t then some x else lk r t
def HQ:Code->Option Nat
 | .region id _ _=>some id
 | .seq a b=>match HQ a with
  |some i=>some i
  |none=>HQ b
 | .cond _ a b=>match HQ a with
  |some i=>some i
  |none=>HQ b
 | .block _ c=>HQ c
 | .loop c=>HQ c
 | .scope c=>HQ c
 |_=>none
def lkH{α:Type}(l:List (Nat×α))(c:Code):Option α:=
 match HQ c with
 |some i=>lk l i
 |none=>none
def LD:aw->Type
 |[]=>bh->Prop
 |(_,s)::r=>s.ty->LD r
def SG:aw->Type
 |[]=>bh->Nat
 |(_,s)::r=>s.ty->SG r
def Wg:(s:Sh)->SV->Option s.ty
 | .I,.c (.i n)=>some n
 | .U k,.c (.u b n)=>if k=b then some n else none
 | .T,.c (.t b)=>some b
 | .T,.tt=>some true
 | .T,.ff=>some false
 | .S,.c (.s x)=>some x
 | .P,.c (.p b o)=>some (b,o)
 | .P,.c (.bp _ b o)=>some (b,o)
 | .Q,.c (.pp q)=>some q
 | .Q,.c (.p b o)=>some (some (b,o))
 | .Q,.c .pn=>some none
 | .F,.c (.fn f a c)=>some (f,a,c)
 | .F,.c (.fv q)=>some q
 | .M,.c (.mp b)=>some b
 |_,_=>none
def LH:(l:aw)->LD l->Fr->bh->Prop
 |[],I,_,m=>I m
 |(t,s)::r,I,a,m=>match Wg s (kK a t)with
  |some x=>LH r (I x) a m
  |none=>False
def SL:(l:aw)->LD l->SG l->Fr->bh->Nat->Prop
 |[],I,μ,_,m,N=>I m/\μ m<N
 |(t,s)::r,I,μ,a,m,N=>match Wg s (kK a t)with
  |some x=>SL r (I x) (μ x) a m N
  |none=>False
def Uf:(l:aw)->LD l->Fr->(Fr->(bh->Prop)->Prop)->Prop
 |[],I,a,k=>k a I
 |(t,s)::r,I,a,k=>∀x:s.ty,Uf r (I x) ((t,.c (s.mk x))::a) k
def Ug:(l:aw)->LD l->SG l->Fr->(Fr->(bh->Prop)->(bh->Nat)->Prop)->Prop
 |[],I,μ,a,k=>k a I μ
 |(t,s)::r,I,μ,a,k=>∀x:s.ty,Ug r (I x) (μ x) ((t,.c (s.mk x))::a) k
def rI:ad->Fr->Fr
 |[],a=>a
 |t::r,a=>(t,.jN)::rI r a
def tj:Code->ad
 | .region _ b _=>DY b.toList
 | .seq a b=>tj a++tj b
 | .cond _ a b=>tj a++tj b
 | .block _ c=>tj c
 | .loop c=>tj c
 |_=>[]
def tW(M:ad):aw->Bool
 |[]=>true
 |(t,_)::r=>Br t M&&tW M r
def eqS(x y:SV)(k:Prop):Prop:=x=y/\k
theorem nO(x:SV)(k:Prop):eqS x x k=k:=by simp[eqS]
def eO(A:TX)(c:Code):ad:=
 match lkH A.fQ c with
 |some K=>K
 |none=>[]
def HN(n:Nat)(K:ad):Fr->ad
 |[]=>[]
 |(q,_)::r=>bif Nat.ble n q&&!Br q K then q::HN n K r else HN n K r
def yJ(n:Nat)(K:ad)(a:Fr):Fr:=rI (HN n K a) a
def eqK(a b:Fr):ad->Prop->Prop
 |[],k=>k
 |q::K,k=>eqS (kK b q) (kK a q) (eqK a b K k)
def Qo(c:Fr):Op->Option SV
 | .move x| .assign x=>match ev c x with
  | .jN=>none
  |y=>some y
 | .binOp d _ x y _=>match ev c x,ev c y with
  | .c (.i a),.c (.i b)=>match d with
   | .eql=>some (.c (.t (a==b)))
   | .neq=>some (.c (.t (a !=b)))
   | .lss=>some (.c (.t (decide (a<b))))
   | .leq=>some (.c (.t (decide (a<=b))))
   | .gtr=>some (.c (.t (decide (a>b))))
   | .geq=>some (.c (.t (decide (a>=b))))
   |_=>none
  |_,_=>none
 |_=>none
def uP(n:Nat):ar->Fr->Option Fr
 |[],a=>some a
 |o::r,a=>bif vZ n o.dst then
  match o.guard with
  |none=>match Qo a o.op with
   |some x=>uP n r (ym a o.dst x)
   |none=>none
  |some _=>none
  else none
def orB(A:TX)(n t:Nat):Code->Fr->Option Bool
 | .region _ d false,b=>match uP n d.toList b with
  |some a=>oK (kK a t)
  |none=>none
 | .seq (.region _ d false) (.cond (.tmp u) .skip c),b=>
  match lkH A.aaH (.cond (.tmp u) .skip c)with
  |some _=>none
  |none=>bif Nat.beq u t&&Br t (tj c)then
   match uP n d.toList b with
   |some a=>match oK (kK a t),orB A n t c a with
    |some x,some y=>some (x||y)
    |_,_=>none
   |none=>none
   else none
 |_,_=>none
def orT(A:TX)(n:Nat)(c:Operand)(a b:Code)(d:Fr):Option (Nat×Bool):=
 match c,a with
 | .tmp t,.skip=>bif Br t (tj b)then
  match orB A n t b d with
  |some y=>some (t,y)
  |none=>none
  else none
 |_,_=>none
def yQ(a:Fr)(c:Operand)(v:SV):Fr:=
 match c with
 | .tmp t=>(t,v)::a
 |_=>a
def pmG:ar->ad
 |[]=>[]
 |o::r=>oN o.after.toList::pmG r
def Zh:ad->ar->ad
 |a,[]=>a
 |a,o::r=>Zh (a++[sk a o.after.toList]) r
def uo:Code->Bool
 | .region _ b c=>!c||(oF (Zh [] b.toList) b.toList (pmG b.toList) (Zh [] b.toList)&&JX b.toList (pmG b.toList) 0 b.toList (Zh [] b.toList))
 | .seq a b=>uo a&&uo b
 | .cond _ a b=>uo a&&uo b
 | .block _ c=>uo c
 | .loop c=>uo c
 |_=>true
def vc(P:Program)(T:TT)(G:ad)(n:Nat)(A:TX):Code->Fr->bh->(Exit->Fr->bh->Prop)->Prop
 | .skip,b,m,Q=>Q .normal b m
 | .region id c d,b,m,Q=>
  bif d then sO P T G n c.toList (pmG c.toList) (Zh [] c.toList) c.toList.length 0 b m [] (λb m=>Q .normal b m)
  else wm P T G n c.toList c.toList b m (λb m=>Q .normal b m)
 | .seq a f,b,m,Q=>match lkH A.aaH f with
  |none=>vc P T G n A a b m λ
   | .normal,d,c=>vc P T G n A f d c Q
   |g,d,c=>Q g d c
  |some l=>bif tW (tj a) l then∃K:LD l,(vc P T G n A a b m λ
   | .normal,d,c=>eqK b d (eO A f) (LH l K d c)
   |g,d,c=>Q g d c)/\
   (Uf l K (rI (tj a) (yJ n (eO A f) b)) λd e=>∀c,e c->vc P T G n A f d c Q)else False
 | .cond e a f,b,m,Q=>match ev b e with
  | .tt=>vc P T G n A a b m Q
  | .ff=>vc P T G n A f b m Q
  | .c (.t x)=>match orT A n e a f b with
   |some (t,y)=>Q .normal ((t,.c (.t (x||y)))::rI (tj f) b) m
   |none=>(x=true->vc P T G n A a (yQ b e .tt) m Q)/\(x=false->vc P T G n A f (yQ b e .ff) m Q)
  |_=>False
 | .block id e,b,m,Q=>vc P T G n A e b m λ
  | .exit i,d,c=>bif Nat.beq i id then Q .normal d c else Q (.exit i) d c
  |g,d,c=>Q g d c
 | .loop e,b,m,Q=>match lkH A.ZO e with
  |none=>False
  |some l=>bif tW (tj e) l then∃(I:LD l)(μ:SG l),LH l I b m/\
   (Ug l I μ (rI (tj e) (yJ n (eO A e) b)) λd i μ'=>∀c,i c->vc P T G n A e d c λ
    | .normal,f,h=>eqK b f (eO A e) (SL l I μ f h (μ' c))
    |g,f,h=>Q g f h)else False
 | .exit id,b,m,Q=>Q (.exit id) b m
 | .ret,b,m,Q=>Q .ret b m
 |_,_,_,_=>False
theorem o8.aP{b:ad}{c:Act}(h:o8 M a c)(e:∀t∈M,t∈b):o8 b a c:=λt f=>h t λd=>f (e t d)
def Ga:∀(M:ad)(a:Fr)(t:Nat),(t∈M/\kK (rI M a) t=.jN)\/(t∉M/\kK (rI M a) t=kK a t)
 |[],_,_=>bR ⟨bO,O⟩
 |u::M,a,t=>by
  simp only[rI,kK];cases d:Nat.beq u t
  .have f:u≠t:=λe=>by subst e;simp at d
   rcases Ga M a t with⟨b,c⟩|⟨b,c⟩
   .grind [List.mem_cons_of_mem]
   grind
  .grind [Nat.eq_of_beq_eq_true,List.mem_cons_self]
def EE{c:Fr}{b:Act}(f:mD n c a)(i:b.tmps.size=n)(hd:b.defers=[])(g:o8 M a b):mD n (rI M c) b:=by
 refine⟨i,hd,λt=>?_⟩;rcases Ga M c t with⟨_,h⟩|⟨d,e⟩
 .rw[h];trivial
 .rw[e,g t d];exact f.bt t
def mD.rI{b:Fr}{a:Act}(c:mD n b a):∀(M:ad),mD n (rI M b) a
 |[]=>c
 |t::M=>(mD.rI c M).jN t
def Bx.rI{a:Fr}{m:bh}(h:Bx n a m):∀(M:ad),Bx n (rI M a) m
 |[]=>h
 |t::M=>(Bx.rI h M).jN bO
theorem R1{K:ad}{q:Nat}(c:n<=q)(b:q∉K):∀{a:Fr},q∈HN n K a\/kK a q=.jN
 |[]=>bR O
 |(u,x)::r=>by
  simp only[HN,kK];cases d:Nat.beq u q
  .rcases R1 c b (a:=r)with h|h
   .grind [Nat.ble,Br,List.mem_cons_of_mem]
   .exact bR h
  .grind [Nat.eq_of_beq_eq_true,Br,Md,Nat.ble,Nat.ble_eq_true_of_le]
def PI{b c:Fr}:∀{K:ad}{k:Prop},eqK b c K k->(∀q∈K,kK c q=kK b q)/\k
 |[],k,h=>⟨bO,h⟩
 |q::K,k,h=>by
  obtain⟨d,e⟩:=PI h.2;refine⟨λu a=>?_,e⟩;rcases bo.1 a with rfl|a
  .exact h.1
  .exact d u a
def Bx.eO{K:ad}{a g:Fr}{t k:bh}(h:Bx n a t)(p:Bx n g k)(v:∀q∈K,kK g q=kK a q):Bx n (Vc.rI M (yJ n K a)) k:=by
 have f:∀{q b e l},oX (Vc.rI M (yJ n K a)) q b e l->oX a q b e l/\oX g q b e l:=by
  intro q b e l c;have d:kK (Vc.rI M (yJ n K a)) q=kK (yJ n K a) q\/kK (Vc.rI M (yJ n K a)) q=.jN:=by
   rcases Ga M (yJ n K a) q with⟨_,h⟩|⟨_,h⟩
   .exact bR h
   .exact bC h
  unfold oX at c;rcases d with d|d
  .rw[d]at c;unfold yJ at c;rcases Ga (HN n K a) a q with⟨_,i⟩|⟨j,i⟩
   .grind
   grind [Bx.Nz,oX,R1]
  .grind
 exact⟨λq b e l c=>p.bu q b e l (f c).2,λq u b e l m o s r j i=>h.VZ q u b e l m o s r (f j).1 (f i).1,λq b e l c=>h.Nz q b e l (f c).1⟩
def Yr{x:SV}(h:Wg s x=some y):x.mS=true/\x.v=(s.mk y).v:=by
 unfold Wg at h;split at h<;>first|(simp at h;subst h;exact⟨rfl,rfl⟩)|skip
 .split at h
  .rename_i a;subst a;simp at h;subst h;exact⟨O,O⟩
  .simp at h
 .simp at h
def Qu{c cV:Fr}{t:Nat}(f:mD n c a)(b:mD n cV a)(h:Wg s (kK c t)=some y):mD n ((t,.c (s.mk y))::cV) a:=by
 refine⟨b.aQ,b.nN,λu=>?_⟩;simp only[kK];cases g:Nat.beq t u
 .exact b.bt u
 .have:=gA g;subst this;have d:=f.bt t;obtain⟨i,j⟩:=Yr h;have e:=d.eq i;show _=_;rw[e,j];rfl
def Y0:(l:aw)->LD l->SG l->Fr->Fr->(bh->Prop)->(bh->Nat)->Prop
 |[],I,μ,b,c,a,μ'=>c=b/\a=I/\μ'=μ
 |(t,s)::r,I,μ,b,c,a,μ'=>∃x:s.ty,Y0 r (I x) (μ x) ((t,.c (s.mk x))::b) c a μ'
def RW:∀{l:aw}{I:LD l}{μ:SG l}{b:Fr}{k:Fr->(bh->Prop)->(bh->Nat)->Prop},Ug l I μ b k->∀{fr' I' μ'},Y0 l I μ b fr' I' μ'->k fr' I' μ'
 |[],_,_,_,_,h,_,_,_,a=>by obtain⟨rfl,rfl,rfl⟩:=a;exact h
 |(t,s)::r,_,_,_,_,h,_,_,_,a=>by obtain⟨x,a⟩:=a;exact RW (h x) a
def Sh.ZR(s:Sh)(x:s.ty)(b e:Nat)(l:ae):SV.c (s.mk x)≠.box b e l/\SV.c (s.mk x)≠.DU b e l:=⟨bO,bO⟩
def RZ{a:Act}{f:Fr}(g:mD n f a):∀{l:aw}{I:LD l}{μ:SG l}{cV:Fr}{m:bh}{N:Nat},mD n cV a->Bx n cV m->SL l I μ f m N->
 ∃b c μ',Y0 l I μ cV b c μ'/\mD n b a/\Bx n b m/\c m/\μ' m<N
 |[],I,μ,cV,_,_,e,d,h=>⟨cV,I,μ,⟨O,O,O⟩,e,d,h.1,h.2⟩
 |(t,s)::r,I,μ,cV,m,N,e,d,h=>by
  simp only[SL]at h;split at h
  .rename_i x p;obtain⟨b,c,μ',i,j,k,o⟩:=RZ g (Qu g e p) (d.jN (s.ZR x)) h;exact⟨b,c,μ',⟨x,i⟩,j,k,o⟩
  .exact h.elim
def RY{a:Act}{f:Fr}(g:mD n f a):∀{l:aw}{I:LD l}{μ:SG l}{cV:Fr}{m:bh},mD n cV a->Bx n cV m->LH l I f m->
 ∃b c μ',Y0 l I μ cV b c μ'/\mD n b a/\Bx n b m/\c m
 |[],I,μ,cV,_,e,d,h=>⟨cV,I,μ,⟨O,O,O⟩,e,d,h⟩
 |(t,s)::r,I,μ,cV,m,e,d,h=>by
  simp only[LH]at h;split at h
  .rename_i x o;obtain⟨b,c,μ',i,j,k⟩:=RY g (Qu g e o) (d.jN (s.ZR x)) h;exact⟨b,c,μ',⟨x,i⟩,j,k⟩
  .exact h.elim
def Uj{a:Act}{g:Fr}(i:mD n g a):∀{l:aw}{I:LD l}{cV:Fr}{m:bh}{k:Fr->(bh->Prop)->Prop},mD n cV a->Bx n cV m->LH l I g m->Uf l I cV k->
 ∃b f,k b f/\mD n b a/\Bx n b m/\f m
 |[],I,cV,_,_,d,c,h,e=>⟨cV,I,e,d,c,h⟩
 |(t,s)::r,I,cV,m,k,d,c,h,e=>by
  simp only[LH]at h;split at h
  .rename_i x j;exact Uj i (Qu i d j) (c.jN (s.ZR x)) h (e x)
  .exact h.elim
def YP{d:Code}{Q:Exit->Act->World->Prop}(b:Nat->Act->World->Prop)
 (f:∀N a w,b N a w->d.wp P (Exit.then (λe g=>∃c,c<N/\b c e g) Q) a w):∀N a w,b N a w->(Code.loop d).wp P Q a w:=by
 have g:∀N a w,b N a w->∃M,b M a w/\∀c,c<M->¬b c a w:=by
  intro N;induction N using Nat.strongRecOn with
  |_ N i=>
   intro a w h;by_cases e:∃c,c<N/\b c a w
   .grind
   .grind
 intro N a w e
 classical
 let μ:Act->World->Nat:=λa w=>if h:∃M,b M a w/\∀c,c<M->¬b c a w then Classical.choose h else 0
 have hμ:∀a w N,b N a w->b (μ a w) a w/\μ a w<=N:=by
  grind [Classical.choose,Classical.choose_spec,Nat.lt_or_ge]
 refine wp_loop (λa w=>∃N,b N a w) μ ⟨N,e⟩ ?_
 rintro a w ⟨N,h⟩
 refine mz ?_ (f (μ a w) a w (hμ a w N h).1)
 grind [Nat.lt_of_le_of_lt]
end
section
variable{i w:World}{j p:ad}{l a:Act}{f:Exit->Fr->bh->Prop}{e:Exit}{b:bh}
variable{g:Program}{h:TT}{G:ad}{d:Nat}{o:TX}
def mQ(d:Nat)(i:World)(j:ad)(l:Act)(f:Exit->Fr->bh->Prop):Exit->Act->World->Prop
 | .panic _,_,_=>False
 | .outgrown,_,_=>False
 |e,a,w=>∃b,mD d b a/\Bx d b w.heap/\rR i w/\o8 j l a/\f e b w.heap
theorem mQ.mk{b:Fr}(g:(∀c,e≠.panic c)/\e≠.outgrown)
 (k:mD d b a)(h:Bx d b w.heap)(o:rR i w)(m:o8 j l a)(n:f e b w.heap):mQ d i j l f e a w:=by
 cases e with
 |panic c=>exact absurd O (g.1 c)
 |outgrown=>exact absurd O g.2
 |_=>exact⟨b,k,h,o,m,n⟩
theorem mQ.cw(h:mQ d i j l f e a w):
 ((∀c,e≠.panic c)/\e≠.outgrown)/\∃b,mD d b a/\Bx d b w.heap/\rR i w/\o8 j l a/\f e b w.heap:=by
 cases e with
 |panic c=>exact h.elim
 |outgrown=>exact h.elim
 |_=>exact⟨⟨bO,bO⟩,h⟩
def mQ.ZN(h:mQ d i j l f e a w):mQ d i (j++p) l f e a w:=by
 grind [mQ.cw,mQ.mk,o8.aP,List.mem_append_left]
def mQ.XK(h:mQ d i j l f e a w):mQ d i (p++j) l f e a w:=by
 grind [mQ.cw,mQ.mk,o8.aP,List.mem_append_right]
def YC{f:Fr}{e:Op}{x:SV}{k:SV->Prop}(c:Qo f e=some x)(d:k x):PY e=false/\rd h f b k e:=by
 unfold Qo at c;split at c
 .split at c
  .simp at c
  .simp at c;subst c;exact⟨O,d⟩
 .split at c
  .simp at c
  .simp at c;subst c;exact⟨O,d⟩
 .rename_i o t y z l;split at c
  .rename_i a j g i;refine⟨O,?_⟩;simp only[rd,g,i];split at c<;>simp at c<;>subst c<;>exact d
  .simp at c
 .simp at c
theorem IQ(j:ar){b:bh}{i:Fr->bh->Prop}:∀{n:ar}{c e:Fr},uP d n c=some e->i e b->wm g h G d j n c b i
 |[],c,e,a,f=>by simp[uP]at a;subst a;exact f
 |o::r,c,e,a,f=>by
  simp only[uP]at a;simp only[wm];cases hd:vZ d o.dst
  .grind
  .rw[hd]at a;simp only[pK]at a⊢;cases l:o.guard with
   |some p=>rw[l]at a;simp at a
   |none=>
    rw[l]at a;simp only[gd]at a⊢;split at a
    .rename_i x p;obtain⟨q,s⟩:=YC (h:=h) (b:=b) (k:=λx=>wm g h G d j r (ym c o.dst x) b i) p (IQ j a f);grind
    .simp at a
def ZZ(p:Nat){b:bh}{f:Exit->Fr->bh->Prop}:∀(k:Code)(l:Fr)(y:Bool),orB o d p k l=some y->(∀i,oK (kK i p)=some y->f .normal i b)->vc g h G d o k l b f
 | .region id z e,l,y,a,n=>by
  cases e
  .grind [orB,vc,IQ]
  .simp[orB]at a
 | .seq (.region id z false) (.cond (.tmp u) .skip k),l,y,a,n=>by
  simp only[orB]at a;split at a
  .simp at a
  .rename_i s;cases m:(Nat.beq u p&&Br p (tj k))
   .grind
   .rw[m]at a;simp only[pK]at a;simp only[eZ]at m;have x:=gA m.1;subst x;split at a
    .rename_i i w;split at a
     .rename_i C A e q;simp at a;subst a;rw[vc,s];simp only;rw[vc];simp only[zK];refine IQ _ w ?_;rw[vc];have v:ev i (.tmp u)=(kK i u).nb:=rfl;rw[v];cases j:kK i u with
      |tt=>
       rw[j]at e;simp[oK]at e;subst e;simp only[SV.nb,vc];exact n i (by rw[j];simp[oK])
      |ff=>
       rw[j]at e;simp[oK]at e;subst e;simp only[SV.nb];exact ZZ u k i A q (λr B=>n r cB)
      |c r=>
       cases r with
       |t B=>
        rw[j]at e;simp[oK]at e;subst e;simp only[SV.nb,orT,m.2,pK,q];exact n _ (by simp[kK,oK])
       |_=>rw[j]at e;simp[oK]at e
      |_=>rw[j]at e;simp[oK]at e
     .simp at a
    .simp at a
def aag(hT:yF g h)(hG:GOK g G)(aq:g.follows .mixedOrders=true)(i:World):∀(C:Code),uo C=true->∀(l:Fr)(b:bh)(f:Exit->Fr->bh->Prop)(a:Act)(w:World),
 vc g h G d o C l b f->mD d l a->Bx d l b->w.heap=b->rR i w->C.wp g (mQ d i (tj C) a f) a w:=by
 intro C
 induction C with
 |skip=>
  intro hd l b f a w c k s x t
  subst x
  exact wp_skip ⟨l,k,s,t,o8.cT _ _,c⟩
 |region id p y=>
  intro hd l b f a w c k s x t
  simp only[vc]at c
  cases y
  .simp only[zK]at c
   refine wp_region_list ?_
   exact ze hT hG p p.toList l b (f .normal) a w (λ_ c=>c) c k s x t (o8.cT _ _) λz F N j r v u q=>⟨z,r,v,u,q,j⟩
  .simp only[pK]at c
   simp only[uo,abh,abg,eZ]at hd
   refine wp_region_any aq (Q5 (e:=λD B=>Nat.testBit (ys (Zh [] p.toList) D) B) (L:=[]) _ _ _ _ ?_)
   have E:p.toList.length=p.size:=bO
   rw[E]at c
   refine TQ hT hG p hd.1 hd.2 (λC a w Z=>Z) p.size 0 l b [] (f .normal) [] _ a _ c (λB Z=>by cases Z) ⟨bO,λD=>by simp[abf];split<;>rfl⟩ (λD X=>by simp[abf]at X;split at X<;>simp at X) k s x ⟨t.os,t.WY,t.Qk⟩ (o8.cT _ _) λz F N j r v u q=>⟨z,r,v,u,q,j⟩
 |seq B R Y S=>
  intro hd l b f a w c k s x t
  simp only[vc]at c
  simp only[uo,eZ]at hd
  refine wp_seq ?_
  split at c
  .refine mz ?_ (Y hd.1 l b _ a w c k s x t)
   intro e F N j
   obtain⟨p,z,r,v,u,y,j⟩:=j.cw
   cases e with
   |normal=>
    refine mz ?_ (S hd.2 z _ f F N j r v O u)
    intro e V ad j
    obtain⟨p,W,I,H,U,J,j⟩:=j.cw
    exact mQ.mk p I H U ((y.aP (λE q=>dN _ q)).J (J.aP (λE q=>mW _ q))) j
   |panic C=>exact absurd O (p.1 C)
   |outgrown=>exact absurd O p.2
   |exit D=>exact mQ.mk p r v u (y.aP (λE q=>dN _ q)) j
   |goto D=>exact mQ.mk p r v u (y.aP (λE q=>dN _ q)) j
   |ret=>exact mQ.mk p r v u (y.aP (λE q=>dN _ q)) j
  .rename_i K hl
   cases ab:tW (tj B) K
   .grind
   rw[ab]at c
   obtain⟨af,h1,h2⟩:=c
   refine mz ?_ (Y hd.1 l b _ a w h1 k s x t)
   intro e F N j
   obtain⟨p,z,r,v,u,y,j⟩:=j.cw
   cases e with
   |normal=>
    obtain⟨aa,j⟩:=PI j
    obtain⟨ae,K',h3,h4,ac,h5⟩:=Uj r (EE (k.rI _) r.aQ r.nN y) (Bx.eO s v aa) j h2
    refine mz ?_ (S hd.2 ae _ f F N (h3 _ h5) h4 ac O u)
    intro e V ad j
    obtain⟨p,W,I,H,U,J,j⟩:=j.cw
    exact mQ.mk p I H U ((y.aP (λE q=>dN _ q)).J (J.aP (λE q=>mW _ q))) j
   |panic C=>exact absurd O (p.1 C)
   |outgrown=>exact absurd O p.2
   |exit D=>exact mQ.mk p r v u (y.aP (λE q=>dN _ q)) j
   |goto D=>exact mQ.mk p r v u (y.aP (λE q=>dN _ q)) j
   |ret=>exact mQ.mk p r v u (y.aP (λE q=>dN _ q)) j
 |cond ac B R Y S=>
  intro hd l b f a w c k s x t
  simp only[vc]at c
  simp only[uo,eZ]at hd
  have af:∀{I:Bool},a.eval ac=.bool I->mD d (yQ l ac (if I then .tt else .ff)) a:=by
   intro I H;unfold yQ;split
   .rename_i E;refine⟨k.aQ,k.nN,λad=>?_⟩;simp only[kK];cases J:Nat.beq E ad
    .exact k.bt ad
    .have:=gA J;subst this;cases I<;>exact H
   .exact k
  have ag:∀{B:SV},(∀I e K,B≠.box I e K/\B≠.DU I e K)->Bx d (yQ l ac B) b:=by
   intro B Z;unfold yQ;grind [Bx.jN]
  split at c
  .rename_i V
   exact wp_cond_true (k.eq V O) (mz (λ_ _ _ c=>c.ZN) (Y hd.1 l b f a w c k s x t))
  .rename_i V
   exact wp_cond_false (k.eq V O) (mz (λ_ _ _ c=>c.XK) (S hd.2 l b f a w c k s x t))
  .rename_i I V
   have W:=k.eq V O
   split at c
   .rename_i E y' J
    unfold orT at J
    split at J
    .rename_i U
     cases ai:Br U (tj R)
     .grind
     .rw[ai]at J
      simp only[pK]at J
      split at J
      .rename_i y0 aj
       simp at J
       obtain⟨rfl,rfl⟩:=J
       have al:a.tmps.getD U undef=.bool I:=W
       refine wp_cond_split W (λq=>?_) (λq=>?_)
       .subst x
        subst q
        refine wp_skip (mQ.mk (e:=.normal) (b:=(U,.c (.t (true||y0)))::rI (tj R) l) ⟨bO,bO⟩ ?_ ((s.rI _).jN bO) t (o8.cT _ _) c)
        have H:=EE (M:=tj R) k k.aQ k.nN (o8.cT _ a)
        constructor<;>grind [mD.aQ,mD.nN,kK,Nat.beq,mD.bt,Nat.eq_of_beq_eq_true,SV.Is,SV.v,Ce.v]
       .subst q
        have hv:=ZZ (g:=g) (h:=h) (G:=G) (o:=o) (d:=d) U (b:=b) (f:=λe z m'=>e=.normal/\m'=b/\oK (kK z U)=some y0) R l y0 aj (λz h'=>⟨O,O,h'⟩)
        refine mz ?_ (S hd.2 l b _ a w hv k s x t)
        intro e F N j
        obtain⟨p,z,r,v,u,y,rfl,ah,ak⟩:=j.cw
        refine mQ.mk (e:=.normal) (b:=(U,.c (.t (false||y0)))::rI (tj R) l) p ?_ (by rw[ah];exact(s.rI _).jN bO) u (y.aP (λE q=>mW _ q)) cB
        have H:=EE k r.aQ r.nN y
        refine⟨H.aQ,H.nN,λad=>?_⟩
        simp only[kK]
        grind [Nat.beq,mD.bt,Nat.eq_of_beq_eq_true,A2,SV.Is.eq,SV.Is,SV.v,Ce.v]
      .simp at J
    .simp at J
   .refine wp_cond_split W (λq=>?_) (λq=>?_)
    .subst q
     exact mz (λ_ _ _ c=>c.ZN) (Y hd.1 _ b f a w (c.1 O) (af W) (ag bO) x t)
    .subst q
     exact mz (λ_ _ _ c=>c.XK) (S hd.2 _ b f a w (c.2 O) (af W) (ag bO) x t)
  .exact c.elim
 |block id B S=>
  intro hd l b f a w c k s x t
  simp only[vc]at c
  refine wp_block (mz ?_ (S hd l b _ a w c k s x t))
  intro e F N j
  obtain⟨p,z,r,v,u,y,j⟩:=j.cw
  cases e with
  |exit D=>
   simp only[Exit.inBlock]
   simp only at j
   cases H:Nat.beq D id
   .rw[H]at j
    have q:D≠id:=λe=>by subst e;simp at H
    rw[aW q]
    exact mQ.mk p r v u y j
   .rw[H]at j
    rw[bn (gA H)]
    exact mQ.mk ⟨bO,bO⟩ r v u y j
  |normal=>exact mQ.mk p r v u y j
  |panic C=>exact absurd O (p.1 C)
  |outgrown=>exact absurd O p.2
  |goto D=>exact mQ.mk p r v u y j
  |ret=>exact mQ.mk p r v u y j
 |loop B S=>
  intro hd l b f a w c k s x t
  subst x
  simp only[vc]at c
  split at c
  .exact c.elim
  .rename_i K hl
   cases ab:tW (tj B) K
   .grind
   rw[ab]at c
   obtain⟨V,μ,h0,h1⟩:=c
   let Z:Nat->Act->World->Prop:=λU F w=>∃z J μ',Y0 K V μ (rI (tj B) (yJ d (eO o B) l)) z J μ'/\mD d z F/\Bx d z w.heap/\J w.heap/\μ' w.heap=U/\rR i w/\o8 (tj B) a F
   obtain⟨ac,W,μ1,an,ak,af,ai⟩:=RY k (EE (k.rI _) k.aQ k.nN (o8.cT (tj B) a)) (Bx.eO s s (λ_ _=>O)) h0
   refine YP Z ?_ (μ1 w.heap) a w ⟨ac,W,μ1,an,ak,af,ai,O,t,o8.cT _ _⟩
   rintro U a1 w ⟨z,J,μ',X,r,v,ah,rfl,u,y⟩
   have am:=RW h1 X w.heap ah
   refine mz ?_ (S hd z w.heap _ a1 w am r v O u)
   intro e F N j
   obtain⟨p,ae,q,H,I,E,j⟩:=j.cw
   cases e with
   |normal=>
    obtain⟨aa,j⟩:=PI j
    obtain⟨ad,Y,μ3,ao,al,ag,aj,ap⟩:=RZ q (EE (k.rI _) q.aQ q.nN (y.J E)) (Bx.eO s H aa) j
    exact⟨_,ap,ad,Y,μ3,ao,al,ag,aj,O,I,y.J E⟩
   |panic C=>exact absurd O (p.1 C)
   |outgrown=>exact absurd O p.2
   |exit D=>exact mQ.mk p q H I (y.J E) j
   |goto D=>exact mQ.mk p q H I (y.J E) j
   |ret=>exact mQ.mk p q H I (y.J E) j
 |exit id=>
  intro hd l b f a w c k s x t
  subst x
  exact wp_exit ⟨l,k,s,t,o8.cT _ _,c⟩
 |ret=>
  intro hd l b f a w c k s x t
  subst x
  exact wp_ret ⟨l,k,s,t,o8.cT _ _,c⟩
 |rangeFunc j k B R _ _=>intro _ l b f a w c;exact c.elim
 |scope B _=>intro _ l b f a w c;exact c.elim
 |label K=>intro _ l b f a w c;exact c.elim
 |goto K=>intro _ l b f a w c;exact c.elim
 |refuse s=>intro _ l b f a w c;exact c.elim
def yI:Nat->aB->Fr
 |_,[]=>[]
 |i,x::r=>(i,x)::yI (i+1) r
def KI(h:TT)(a:Fr)(b:bh):ay->(aB->Prop)->Prop
 |[],k=>k []
 | .tmp t::r,k=>bif (kK a t).mS then KI h a b r λl=>k (kK a t::l)else False
 | .cell p t::r,k=>rd h a b (λx=>bif x.mS then KI h a b r λl=>k (x::l)else False) (.load t (.tmp p))
def ada(h:TT)(c:ay)(a:Fr)(b:bh)(R:aj):Prop:=
 KI h a b c λ
  |[x]=>R x.v b
  |l=>R (.tuple (l.map SV.v).toArray) b
def YN(g:Program)(h:TT)(G:ad)(o:TX)(d:Nat)(c:ay)(f:Code)(e:aB)(b:bh)(R:aj):Prop:=
 vc g h G d o f (yI 0 e) b λ
  | .normal,a,b=>ada h c a b R
  | .ret,a,b=>ada h c a b R
  |_,_,_=>False
def LI:∀(a:aB)(i t:Nat),(t<i/\kK (yI i a) t=.jN)\/(i<=t/\kK (yI i a) t=a.getD (t -i) .jN)
 |[],i,t=>by
  grind [Nat.lt_or_ge,yI,kK]
 |x::r,i,t=>by
  simp only[yI,kK];cases d:Nat.beq i t
  .have f:i≠t:=λe=>by subst e;simp at d
   rcases LI r (i+1) t with⟨b,c⟩|⟨b,c⟩
   .grind
   grind [List.getD_cons_succ]
  .grind [Nat.eq_of_beq_eq_true]
def Qv(a:Array Value):ResultVar->Sem Value
 | .tmp t=>pure (a.getD t undef)
 | .cell p t=>do loadVar t (<-asAddr (a.getD p undef))
def WD(b:Func)(c:Array Value):results b c=(do
 let a<-b.results.mapM (Qv c)
 pure (if h:a.size=1 then a[0]else .tuple a)):=by
 unfold results
 congr 2
def Mq{i:Fr}{a:Act}(r:yF g h)(f:mD d i a):∀(A:ay)(k:aB->Prop)(w:World),Bx d i w.heap->KI h i w.heap A k->
 ∃n,k n/\(A.mapM (Qv a.tmps)).run g w=.ok (n.map SV.v) w
 |[],k,w,_,b=>⟨[],b,bO⟩
 | .tmp t::u,k,w,j,b=>by
  simp only[KI]at b;cases c:(kK i t).mS
  .grind
  .rw[c]at b;obtain⟨n,q,D⟩:=Mq r f u _ w j b;refine⟨_,q,?_⟩;have y:=(f.bt t).eq c;have C:Qv a.tmps (.tmp t)=pure (a.tmps.getD t undef):=rfl;grind [Go.Sem.run_bind,Go.Sem.run_pure,Go.Result.andThen_ok]
 | .cell p t::u,k,w,j,m=>by
  obtain⟨H,B,z,y,b⟩:=Qq r f j ⟨none,.load t (.tmp p),0,"",#[],none⟩ m;have b:=b w (λx _=>O);cases v:H.mS
  .grind
  rw[v]at z;obtain⟨n,q,D⟩:=Mq r f u _ w j z;refine⟨_,q,?_⟩;have F:∃c o,a.tmps.getD p undef=.pointer (some ⟨c,o,none⟩):=by
   have l:=SV.ZU (f.bt p);simp only[KI,rd,ev]at m;split at m
   .rename_i c o s;rw[s]at l;exact⟨c,o,l⟩
   .rename_i x c o s;rw[s]at l;exact⟨c,o,l⟩
   .exact m.elim
  obtain⟨c,o,s⟩:=F;simp only[execOp,Instr.loadAt,Act.eval,s,Instr.sureAddr,ez,iK,dq]at b;have E:(loadVar t ⟨c,o,none⟩).run g w=.ok B w:=by
   cases x:(loadVar t ⟨c,o,none⟩).run g w with
   |ok I G=>
    rw[x]at b;simp at b;rw[b.1,b.2]
   |halt e G=>rw[x]at b;simp at b
  have G:=y.eq v;have C:(Qv a.tmps (.cell p t)).run g w=.ok B w:=by
   simp only[Qv,s,ez,asAddr,iK,dq,E]
  grind [Go.Sem.run_bind,Go.Sem.run_pure,Go.Result.andThen_ok]
def xY(z:yF g h)(J:GOK g G)(N:g.follows .mixedOrders=true){y:FuncId}{i:Func}{m:Code}{r:ay}{a:aB}{R:aj}
 (M:g.funcs[y]? =some i)(L:i.body=some m)(P:i.ntmps=d)(S:i.results=r.toArray)(A:a.all SV.mS=true)(X:a.length<=d)(hd:uo m=true)
 (j:YN g h G o d r m a b R):bK g y (a.map SV.v) b R:=by
 intro w U
 refine calls_of_wp M L ?_
 have K:mD d (yI 0 a) {tmps:=(a.map SV.v).toArray++Array.replicate (i.ntmps -(a.map SV.v).toArray.size) undef,defers:=[]}:=by
  refine⟨by simp[P];omega,O,λt=>?_⟩;rcases LI a 0 t with⟨n,_⟩|⟨_,p⟩
  .omega
  .rw[p,Nat.sub_zero];rcases dJ t a.length with k|s
   .have u:(a[t]).mS=true:=LC.1 A _ (List.getElem_mem k);have c:a.getD t .jN=a[t]:=by simp[k]
    rw[c];have f:((a.map SV.v).toArray++Array.replicate (i.ntmps -(a.map SV.v).toArray.size) undef).getD t undef=(a[t]).v:=by
     simp[Array.getElem?_append,k]
    rw[f];exact rj
   .have c:a.getD t .jN=.jN:=by simp[lp s]
    rw[c];trivial
 have v:∀{q x e l},¬oX (yI 0 a) q x e l:=by
  intro q x e l f;rcases LI a 0 q with⟨n,_⟩|⟨_,p⟩
  .omega
  .unfold oX at f;rw[p,Nat.sub_zero]at f;rcases dJ q a.length with k|s
   .have u:(a[q]).mS=true:=LC.1 A _ (List.getElem_mem k);have c:a.getD q .jN=a[q]:=by simp[k]
    rw[c]at f;rcases f with f|f<;>rw[f]at u<;>simp[SV.mS]at u
   .have c:a.getD q .jN=.jN:=by simp[lp s]
    rw[c]at f;simp at f
 have H:Bx d (yI 0 a) b:=⟨λ_ _ _ _ j=>absurd j v,λ_ _ _ _ _ _ _ _ _ j=>absurd j v,λ_ _ _ _ j=>absurd j v⟩
 refine mz ?_ (aag z J N w m hd _ b _ _ w j K H U (rR.cT w))
 intro e s k c
 obtain⟨B,F,u,I,T,W,c⟩:=c.cw
 have C:∀(c:ada h r F k.heap R),s.defers=[]/\∃D,(results i s.tmps).run g k=.ok D k/\∃E,Ending.returned D=.returned E/\rR w k/\R E k.heap:=by
  intro c;refine⟨u.nN,?_⟩;obtain⟨l,n,p⟩:=Mq z u r _ k I c;have Q:(results i s.tmps).run g k=.ok (if j:(l.map SV.v).toArray.size=1 then(l.map SV.v).toArray[0]else .tuple (l.map SV.v).toArray) k:=by
   rw[WD,S,aap];simp only[ez,Sem.run_map];rw[p];rfl
  refine⟨_,Q,_,O,T,?_⟩;cases l with
  |nil=>exact n
  |cons V l=>cases l with
   |nil=>exact n
   |cons Y l=>exact n
 cases e with
 |normal=>exact C c
 |ret=>exact C c
 |exit V=>exact c.elim
 |goto V=>exact c.elim
 |panic m=>exact absurd O (B.1 m)
 |outgrown=>exact absurd O B.2
end
abbrev vi(n:Int):Value:=.int .i64 n
abbrev vb(b:Bool):Value:=.bool b
abbrev vp(b o:Nat):Value:=.pointer (some ⟨b,o,none⟩)
def Pw(f:Func):Code:=
 match f.body with
 |some c=>c
 |none=>.skip
section
variable{m a c e:bh}{b k f n:Nat}{o:Obj}{v:Value}{l:ae}{s:E}{x:Int}{p:Prop}{P:Program}{d:ap}{K:aj}
@[grind cases] structure D (m m':bh):Prop where
 aQ:m.size<=m'.size
 bG:∀b,b<m.size->m'[b]? =m[b]?
theorem D.cT(m:bh):D m m:=by constructor<;>grind
def cY:D m m:=D.cT m
theorem D.J{b c:bh}(h:D a b)(k:D b c):D a c:=
 by constructor<;>grind [D.aQ,D.bG]
theorem D.push(m:bh)(o:Obj):D m (m.push o):=
 by constructor<;>grind
theorem D.bZ(h:D a m)(o:Obj):D a (m.push o):=h.J (D.push m o)
theorem D.aV(h:D a m)(c:a.size<=b)(o:Nat)(l:ae):D a (aV m b o l):=
 by constructor<;>grind [bD,D.aQ,cq,D.bG]
theorem D.aS(h:D m c){o:Nat}(a:aS m b o=some v):aS c b o=some v:=by
 grind [bE,D.bG,rT]
theorem D.kY(h:D m c){o:Nat}(e:jF m b o l):jF c b o l:=λi a d=>h.aS (e i a d)
theorem dF.ext(h:D m c){e:Nat}(a:dF m b e l):dF c b e l:=by
 grind [dF,D.bG,Array.getElem?_eq_some_iff]
@[grind cases] structure fW {α:Type} (m:bh) (sz:Nat) (R:ae->α->Prop) (s:E) (l:List α):Prop where
 aT:s.len=l.length
 ms:s.len<=s.cap
 kM:s.len<=9223372036854775807
 kY:∀(k:Nat)(x:α),l[k]? =some x->∃cs,R cs x/\jF m s.bu (s.off+k*sz) cs
def fW.aP{α:Type}{d:Nat}{R a:ae->α->Prop}{l:List α}(h:fW m d R s l)(f:D m c)(e:∀b x,R b x->a b x):fW c d a s l:=
 by constructor<;>grind [fW.aT,fW.ms,fW.kM,fW.kY,D.kY]
def aav(a:ae)(n:Int):Prop:=a=[.i n]
abbrev be(m:bh)(s:E)(l:ab):Prop:=fW m 1 aav s l
theorem be.bt{l:ab}(h:be m s l)(a:l[k]? =some x):aS m s.bu (s.off+k*1)=some (vi x):=by
 obtain⟨c,rfl,b⟩:=h.kY k x a;exact b 0 (.i x) O
theorem be.ext(a:D m c){l:ab}(h:be m s l):be c s l:=h.aP a λ_ _ h=>h
def px(a:bh)(h:a=m.push o:=by rfl):D m a:=h▸(D.cT m).bZ o
def pz(a:bh)(h:a=m.push o:=by rfl):a.size=m.size+1:=by rw[h];simp
def pu(a:bh)(h:a=m.push o:=by rfl):D m a/\a.size=m.size+1:=⟨px a h,pz a h⟩
def py(a:bh)(h:a=aV (m.push o) m.size 0 l:=by rfl):D m a:=h▸((D.cT m).bZ o).aV bY _ _
def pv(a:bh)(h:a=aV (m.push o) m.size 0 l:=by rfl):D m a/\a.size=m.size+1:=⟨py a h,by rw[h,bD];simp⟩
theorem gD{α:Type}{l:List α}(h:k<l.length):∃x,l[k]? =some x:=⟨l[k],by simp[h]⟩
theorem dU{α:Type}(l:List α)(k:Nat)(h:k<l.length:=by omega):∃x,l[k]? =some x:=gD h
theorem iz(h: -9223372036854775808<=x:=by omega)(k:x<=9223372036854775807:=by omega):eI x=x:=de h k
def dR:(∀(b:Nat)(k:Prop),OW b b k=k)/\∀(x:SV)(k:Prop),eqS x x k=k:=⟨kJ,nO⟩
def oh{a:Prop}(x:a)(h:a->p:=by omega):p:=h x
def VE{a b:Prop}(x:a)(y:b)(h:a->b->p:=by omega):p:=h x y
def sx{a:Prop}(h:a=False:=by simp)(x:a):p:=(h▸x:False).elim
theorem br{α:Type}{l:List α}{x:α}(h:l[k]? =some x):k<l.length:=by grind [List.all]
theorem bX{α:Type}{l:List α}{x:α}(h:l[k]? =some x):l.take (k+1)=l.take k++[x]:=by
 rw[List.take_add_one,h];rfl
theorem eQ{α:Type}{l:List α}(h:l.length<=k):l.take k=l:=ye h
def DK(P:Program)(f:Nat)(d:ap)(m:bh)(v:Value):Prop:=bK P f d m λa c=>a=v/\D m c
theorem DK.cg(h:DK P f d m v)(b:∀c,D m c->K v c):bK P f d m K:=
 h.aP λ_ _⟨a,e⟩=>a▸b _ e
def Pc(h:k<9223372036854775807):eI ((k:Int)+1)=((k+1:Nat):Int):=by rw[de V V];rfl
theorem E.Lz{t:E}:s.v=t.v<->s=t:=by
 refine⟨λh=>?_,λh=>h▸O⟩;cases s<;>cases t<;>simp_all [E.v]
theorem D.eW(h:D m c){l:ad}(d:∀b∈l,b<m.size):gS l m c:=λb a=>h.bG b (d b a)
theorem D.lt(h:D m c)(a:b<m.size):b<c.size:=cB
def D.cZ(h:D m c){o:Nat}(a:Vc.aS m b o=some v):Vc.aS c b o=Vc.aS m b o:=by rw[h.aS a,a]
theorem nt(h:k<n)(a:n<=9223372036854775807):eI ((k:Int)+1)=((k+1:Nat):Int):=by rw[de V V];rfl
theorem Qb(h:k<n):((n:Int) -((k+1:Nat):Int)).toNat<((n:Int) -(k:Int)).toNat:=V
def gP(g:n<=9223372036854775807){b:(Int->bh->Prop)->(Int->bh->Nat)->Int->bh->Prop}(Q:Nat->bh->Prop)(d:Q 0 m)
 (h:∀(k:Nat)(a:bh)(I:Int->bh->Prop)(μ:Int->bh->Nat),k<=n->Q k a->
  (k<n->∀c,Q (k+1) c->I (eI ((k:Int)+1)) c/\μ (eI ((k:Int)+1)) c<μ k a)->b I μ k a):
 ∃(I:Int->bh->Prop)(μ:Int->bh->Nat),I 0 m/\∀i a,I i a->b I μ i a:=by
 refine⟨λi c=>∃k:Nat,i=k/\k<=n/\Q k c,λi _=>(n -i).toNat,⟨0,O,iD _,d⟩,?_⟩
 rintro i a ⟨k,rfl,e,j⟩
 refine h k a _ _ e j λf c l=>?_
 rw[nt f g]
 grind
def gL{σ:Type}(l:n<=9223372036854775807){e:σ}{d:(σ->Int->bh->Prop)->(σ->Int->bh->Nat)->σ->Int->bh->Prop}(Q:Nat->σ->bh->Prop)(f:Q 0 e m)
 (h:∀(k:Nat)(s:σ)(a:bh)(I:σ->Int->bh->Prop)(μ:σ->Int->bh->Nat),k<=n->Q k s a->
  (k<n->∀b c,Q (k+1) b c->I b (eI ((k:Int)+1)) c/\μ b (eI ((k:Int)+1)) c<μ s k a)->d I μ s k a):
 ∃(I:σ->Int->bh->Prop)(μ:σ->Int->bh->Nat),I e 0 m/\∀s i a,I s i a->d I μ s i a:=by
 refine⟨λs i c=>∃k:Nat,i=k/\k<=n/\Q k s c,λ_ i _=>(n -i).toNat,⟨0,O,iD _,f⟩,?_⟩
 rintro s i a ⟨k,rfl,g,o⟩
 refine h k s a _ _ g o λj b c p=>?_
 rw[nt j l]
 grind
def fX(P:Program)(f:Nat)(d:ap)(m:bh)(p:Prop):Prop:=bK P f d m λv c=>∃b:Bool,v=.bool b/\(b=true<->p)/\D m c
def fX.cg(h:fX P f d m p)(g:∀(b:Bool) c,(b=true<->p)->D m c->K (.bool b) c):bK P f d m K:=
 h.aP λ_ _⟨b,e,a,i⟩=>e▸g b _ a i
def fX.bL{l:ad}(i:fX P f d m p)(g:D e m)(q:∀b∈l,b<e.size)
 (o:∀(b:Bool) c,(b=true<->p)->D m c->D e c->K (.bool b) c):bK P f d m λv c=>gS l m c/\K v c:=
 i.aP λ_ _⟨b,n,j,a⟩=>⟨a.eW λh k=>g.lt (q h k),n▸o b _ j a (g.J a)⟩
def DK.bL{l:ad}(i:DK P f d m v)(g:D e m)(o:∀b∈l,b<e.size)
 (n:∀c,D m c->D e c->K v c):bK P f d m λv c=>gS l m c/\K v c:=
 i.aP λ_ _⟨k,a⟩=>⟨a.eW λh j=>g.lt (o h j),k▸n _ a (g.J a)⟩
def bK.bL{a:aj}{l:ad}(j:bK P f d m K)(o:D e m)(n:∀b∈l,b<e.size)
 (g:∀v c,K v c->D m c/\a v c):bK P f d m λv c=>gS l m c/\a v c:=
 j.aP λv c h=>⟨(g v c h).1.eW λi k=>o.lt (n i k),(g v c h).2⟩
def kX{b:Bool}(h:b=true<->p)(d:D m c):∃a:Bool,Value.bool b=.bool a/\(a=true<->p)/\D m c:=⟨b,O,h,d⟩
def fy(h:¬p)(b:D m c):∃a:Bool,Value.bool false=.bool a/\(a=true<->p)/\D m c:=cB
def oO(h:p)(b:D m c):∃a:Bool,Value.bool true=.bool a/\(a=true<->p)/\D m c:=by grind [List.take]
def nb{b:Bool}(a:b=true<->p)(h:(!b)=true):¬p:=cB
def yb{b:Bool}(a:b=true<->p)(h:(!b)=false):p:=a.1 cB
def fb{b:Bool}(a:b=true<->p)(h:b=false):¬p:=cB
def dK{α:Type}{l:List α}{x:α}{p:α->Prop}(a:l[k]? =some x)(h:∀y∈l.take k,p y)(b:p x):∀y∈l.take (k+1),p y:=by
 rw[bX a];grind
def gH{α:Type}{l:List α}{p:α->Prop}(a:l.length<=k)(h:∀y∈l.take k,p y):∀y∈l,p y:=by rw[<-eQ a];exact h
theorem aZ{α:Type}{l:List α}{x:α}(h:l[k]? =some x):x∈l:=kQ h
end
section
variable{m:bh}{s:E}{k:Nat}
structure cR where
 qe:Int
 to:Int
 eB:List ab
abbrev af:=List cR
structure Instr where
 op:Int
 bH:Int
 cE:Int
 dh:Int
 aO:ab
 gE:ab
structure eE where
 aY:ab
 df:ab
 bQ:Int
 aU:Int
 eA:List Instr
abbrev aE:=List (eE×E)
abbrev av:=List eE
structure da where
 bT:af
 di:av
def qD(m:bh)(a:ae)(c:ab):Prop:=∃f,a=[.s f]/\be m f c
def k8(m:bh)(a:ae)(d:cR):Prop:=∃f,a=[.i d.qe,.i d.to,.s f]/\fW m 1 (qD m) f d.eB
def gG(m:bh)(b:ae)(x:Instr):Prop:=∃a j,b=[.i x.op,.i x.bH,.i x.cE,.i x.dh,.s a,.s j]/\be m a x.aO/\be m j x.gE
def oI(m:bh)(b:ae)(p:eE):Prop:=
 ∃a l c,b=[.s a,.s l,.i p.bQ,.i p.aU,.s c]/\be m a p.aY/\be m l p.df/\fW m 6 (gG m) c p.eA
abbrev tq(m:bh)(s:E)(l:List ab):Prop:=fW m 1 (qD m) s l
abbrev dE(m:bh)(s:E)(l:af):Prop:=fW m 3 (k8 m) s l
abbrev je(m:bh)(s:E)(l:List Instr):Prop:=fW m 6 (gG m) s l
abbrev mh(m:bh)(s:E)(l:av):Prop:=fW m 5 (oI m) s l
@[grind cases] structure gY (m:bh) (d p:E) (im:da):Prop where
 bT:dE m d im.bT
 di:mh m p im.di
def qD.ext{m b:bh}(g:D m b)(a:ae)(c:ab):qD m a c->qD b a c:=λ⟨f,d,e⟩=>⟨f,d,e.ext g⟩
def tq.ext{m b:bh}(a:D m b){s:E}{l:List ab}(h:tq m s l):tq b s l:=h.aP a (qD.ext a)
def k8.ext{m b:bh}(g:D m b)(a:ae)(c:cR):k8 m a c->k8 b a c:=λ⟨f,d,e⟩=>⟨f,d,tq.ext g e⟩
theorem dE.ext{m b:bh}(a:D m b){s:E}{l:af}(h:dE m s l):dE b s l:=h.aP a (k8.ext a)
def gG.ext{m d:bh}(b:D m d)(a:ae)(c:Instr):gG m a c->gG d a c:=λ⟨e,j,f,g,h⟩=>⟨e,j,f,g.ext b,h.ext b⟩
def je.ext{m b:bh}(a:D m b){s:E}{l:List Instr}(h:je m s l):je b s l:=h.aP a (gG.ext a)
def oI.ext{m d:bh}(a:D m d)(b:ae)(c:eE):oI m b c->oI d b c:=λ⟨e,l,c,f,g,h,i⟩=>⟨e,l,c,f,g.ext a,h.ext a,je.ext a i⟩
def mh.ext{m b:bh}(a:D m b){s:E}{l:av}(h:mh m s l):mh b s l:=h.aP a (oI.ext a)
def gY.ext{m c:bh}(a:D m c){d p:E}{b:da}(h:gY m d p b):gY c d p b:=⟨dE.ext a h.bT,mh.ext a h.di⟩
theorem tq.bt{l:List ab}(h:tq m s l){x:ab}(b:l[k]? =some x):
 ∃f,be m f x/\aS m s.bu (s.off+k*1)=some f.v:=by
 obtain⟨d,⟨f,rfl,a⟩,c⟩:=h.kY k x b
 exact⟨f,a,c 0 (.s f) O⟩
theorem dE.bt{l:af}(h:dE m s l){x:cR}(c:l[k]? =some x):
 ∃f,tq m f x.eB/\aS m s.bu (s.off+k*3)=some (vi x.qe)/\aS m s.bu (s.off+k*3+1)=some (vi x.to)/\aS m s.bu (s.off+k*3+2)=some f.v:=by
 obtain⟨d,⟨f,rfl,b⟩,a⟩:=h.kY k x c
 exact⟨f,b,a 0 (.i x.qe) O,a 1 (.i x.to) O,a 2 (.s f) O⟩
theorem je.bt{l:List Instr}(h:je m s l){x:Instr}(e:l[k]? =some x):
 ∃b j,be m b x.aO/\be m j x.gE/\aS m s.bu (s.off+k*6)=some (vi x.op)/\aS m s.bu (s.off+k*6+1)=some (vi x.bH)/\aS m s.bu (s.off+k*6+2)=some (vi x.cE)/\
  aS m s.bu (s.off+k*6+3)=some (vi x.dh)/\aS m s.bu (s.off+k*6+4)=some b.v/\aS m s.bu (s.off+k*6+5)=some j.v:=by
 obtain⟨f,⟨b,j,rfl,c,d⟩,a⟩:=h.kY k x e
 exact⟨b,j,c,d,a 0 (.i x.op) O,a 1 (.i x.bH) O,a 2 (.i x.cE) O,a 3 (.i x.dh) O,a 4 (.s b) O,a 5 (.s j) O⟩
theorem mh.bt{l:av}(h:mh m s l){x:eE}(i:l[k]? =some x):
 ∃a b c,be m a x.aY/\be m b x.df/\je m c x.eA/\aS m s.bu (s.off+k*5)=some a.v/\aS m s.bu (s.off+k*5+1)=some b.v/\aS m s.bu (s.off+k*5+2)=some (vi x.bQ)/\
  aS m s.bu (s.off+k*5+3)=some (vi x.aU)/\aS m s.bu (s.off+k*5+4)=some c.v:=by
 obtain⟨j,⟨a,b,c,rfl,e,f,g⟩,d⟩:=h.kY k x i
 exact⟨a,b,c,e,f,g,d 0 (.s a) O,d 1 (.s b) O,d 2 (.i x.bQ) O,d 3 (.i x.aU) O,d 4 (.s c) O⟩
end
section
variable{f a:bh}{d:Nat}{s:E}{l:ae}{g:List ae}
@[grind cases] structure jw (m0 m:bh) (e sz:Nat) (s:E) (l:ae):Prop where
 aT:l.length=s.len*sz
 bt:s=.nil\/∃b c tail,s=.mk b 0 s.len c/\m0.size<=b/\dF m b e (l++tail)/\(l++tail).length=c*sz/\s.len<=c
theorem jw.gN(f a:bh)(d b:Nat):jw f a d b .nil []:=⟨bO,bC O⟩
theorem jw.bF(h:D f a)(d c:Nat)(l:ae)(k:Nat)(b:l.length=k*c):jw f (a.push (.cells (db l) d)) d c (.mk a.size 0 k k) l:=
 ⟨b,bR ⟨a.size,k,[],O,h.aQ,by rw[fO];exact dF.push _ _ _,sp b,bY⟩⟩
theorem jw.congr{f a e:bh}{d g:Nat}{s:E}{l:ae}(h:jw f a d g s l)(c:e[s.bu]? =a[s.bu]?):jw f e d g s l:=by
 refine⟨h.aT,?_⟩;rcases h.bt with b|⟨i,j,tail,b,h2,h3,h4,h5⟩
 .exact bC b
 .refine bR ⟨i,j,tail,b,h2,h3.congr ?_,h4,h5⟩;rw[b]at c;exact c
def jw.lt{f a:bh}{d c:Nat}{s:E}{l:ae}(h:jw f a d c s l):s=.nil\/s.bu<a.size:=by
 rcases h.bt with b|⟨e,g,tail,b,h2,h3,h4,h5⟩
 .exact bC b
 .rw[b];exact bR h3.lt
theorem jw.ext{c:bh}{e:Nat}(h:jw f a d e s l)(g:D a c):jw f c d e s l:=by
 rcases h.lt with b|b
 .subst b;exact⟨h.aT,bC O⟩
 .exact h.congr (g.bG _ b)
theorem jw.cV{c:bh}{e:Nat}(h:jw c a d e s l)(j:f.size<=c.size):jw f a d e s l:=by
 refine⟨h.aT,?_⟩;rcases h.bt with b|⟨g,i,tail,b,h2,h3,h4,h5⟩
 .exact bC b
 .exact bR ⟨g,i,tail,b,fC j h2,h3,h4,h5⟩
def jw.bu{c:Nat}(h:jw f a d c s l):s=.nil\/f.size<=s.bu:=by
 rcases h.bt with b|⟨e,g,tail,b,h2,h3,h4,h5⟩
 .exact bC b
 .rw[b];exact bR h2
def jF.Q9{b o:Nat}{r:ae}(h:jF a b o (l++r)):jF a b o l:=λi c d=>h i c cB
def jw.kY{f a:bh}{d g:Nat}{s:E}{l:ae}(h:jw f a d g s l):jF a s.bu s.off l:=by
 rcases h.bt with b|⟨i,c,tail,b,h2,h3,h4,h5⟩
 .have:=cp.1 (by rw[h.aT,b];simp);subst this;intro j c e;simp at e
 .rw[b];exact h3.kY.Q9
theorem Gi(l a tail:ae)(h:a.length<=tail.length):kH (l++tail) l.length a=l++a++tail.drop a.length:=by
 apply fq;grind [KL]
def jw.fw{c:ae}{w:Nat}{x:E}{i:ae}{K:E->bh->Prop}(k:jw f a d c.length s l)(q:D f a)
 (t:i.length=x.len*c.length)(H:jF a x.bu x.off i)(u:(s.len+x.len)*w<=140737488355328)
 (v:∀n p,jw f p d c.length n (l++i)->D f p->n.len=s.len+x.len->a.size<=p.size->(∀g,g<a.size->(s≠.nil->g≠s.bu)->p[g]? =a[g]?)->((s=.nil/\n=.nil)\/(s≠.nil/\n.bu=s.bu/\n≠.nil)\/n.bu=a.size)->K n p):
 mj a d c w s x K:=by
 refine⟨i,t,H,λF=>?_,λL=>⟨u,l,k.aT,k.kY,λj z=>?_⟩⟩
 .rcases k.bt with h|⟨g,j,tail,h,h2,h3,h4,h5⟩
  .subst h
   have y:x.len=0:=sp F
   have B:=cp.1 (by rw[t,y];simp)
   subst B
   refine⟨λC A=>by simp at A,?_⟩
   exact v .nil _ ⟨by rw[fO];exact k.aT,bC O⟩ (by simpa[aV]using q) (by simp[y]) (No (bD _ _ _ _).symm) (λg u _=>by simp[aV]) (bC ⟨O,O⟩)
  .have A:=k.aT
   have J:s.cap=j:=by rw[h];rfl
   rw[h]
   simp only[E.lT,E.vL,E.ku,eV]
   simp only[dH]at h4
   have C:i.length<=tail.length:=by
    have B:(s.len+x.len)*c.length<=j*c.length:=fD _ V;rw[oB]at B;omega
   refine⟨h3.jb (by simp only[dH];omega),?_⟩
   have y:=dF.aV (m:=a) (b:=g) (e:=d) (r:=i) (o:=s.len*c.length) h3
   rw[<-A,Gi l i tail C]at y
   refine v _ _ ⟨?_,bR ⟨g,j,tail.drop i.length,O,h2,?_,?_,?_⟩⟩ (q.aV h2 _ _) bO (No (bD _ _ _ _).symm) (λI _ G=>cq _ _ _ _ ?_) (bR (bC ⟨by rw[h];simp,by rw[h];rfl,bO⟩))
   .simp only[dH,E.ku,oB];omega
   .rw[<-A];exact y
   .simp only[dH,List.length_drop];omega
   .simp only[E.ku];omega
   .have:=G (by rw[h];simp)
    rw[h]at this;exact this
 .refine v _ _ ⟨?_,bR ⟨a.size,j,na c (j -(s.len+x.len)),O,q.aQ,dF.push _ _ _,?_,sp z⟩⟩ (q.bZ _) bO bO (λg u _=>by rw[uG,aW V]) (bR (bR O))
  .simp only[dH,E.ku,oB,k.aT,t]
  .simp only[dH,vu,k.aT,t]
   rw[Nat.sub_mul,<-oB]
   have:(s.len+x.len)*c.length<=j*c.length:=fD _ z
   omega
theorem be.jA{l:ab}(h:jw f a d 1 s (l.map Ce.i))(n:l.length<=9223372036854775807):be a s l:=by
 have i:s.len=l.length:=by have:=h.aT;simp at this;omega
 refine⟨i,?_,V,λk x g=>⟨[.i x],O,λj e c=>?_⟩⟩
 .rcases h.bt with b|⟨m,e,tail,b,h2,h3,h4,h5⟩
  .rw[b];exact bY
  .rw[b];exact h5
 .have b:j=0:=by have:=br c;simp at this;omega
  subst b;simp at c;subst c;have:=h.kY k (.i x) (by simp[g]);simpa using this
def js{f:Nat}:∀{g:List ae}(_:∀a∈g,a.length=f){b:Nat}{a:ae}(_:g[b]? =some a){i:Nat}{c:Ce}(_:a[i]? =some c),g.flatten[b*f+i]? =some c
 |[],_,b,a,h,_,_,_=>by simp at h
 |x::g,d,0,a,h,i,c,e=>by
  grind
 |x::g,d,b+1,a,h,i,c,e=>by
  have l:=d x cK;rw[tc,dP cB];have:=js (g:=g) (λy k=>d y (aX _ k)) (b:=b) cB e;grind
theorem dS{b:Nat}:∀{g:List ae},(∀a∈g,a.length=b)->g.flatten.length=g.length*b
 |[],_=>bO
 |x::g,a=>by
  rw[tc,dH,dS (λy c=>a y (aX _ c)),a x cK,dy,oB];omega
@[grind cases] structure iy {α:Type} (sz:Nat) (R:ae->α->Prop) (css:List ae) (l:List α):Prop where
 aT:css.length=l.length
 aQ:∀cs∈css,cs.length=sz
 eR:∀(j:Nat)(cs:ae)(x:α),css[j]? =some cs->l[j]? =some x->R cs x
def iy.gN{α:Type}(a:Nat)(R:ae->α->Prop):iy a R [] []:=⟨O,bO,bO⟩
def iy.Dd{α:Type}{a:Nat}{R:ae->α->Prop}{l:List α}(h:iy a R g l){cs:ae}{x:α}(b:cs.length=a)(c:R cs x):iy a R (g++[cs]) (l++[x]):=by
 constructor<;>grind
theorem iy.aP{α:Type}{c:Nat}{R a:ae->α->Prop}{l:List α}(h:iy c R g l)(d:∀b x,R b x->a b x):iy c a g l:=
 by constructor<;>grind
def fW.jA{α:Type}{c:Nat}{R:ae->α->Prop}{l:List α}(h:jw f a d c s g.flatten)(e:iy c R g l)(q:0<c)(t:l.length<=9223372036854775807):fW a c R s l:=by
 have p:s.len=l.length:=by
  have b:=h.aT;rw[dS e.aQ]at b;have:=Nat.eq_of_mul_eq_mul_right q b;rw[<-this,e.aT]
 refine⟨p,?_,V,λk x o=>?_⟩
 .rcases h.bt with b|⟨j,i,tail,b,h2,h3,h4,h5⟩
  .rw[b];exact bY
  .rw[b];exact h5
 .let⟨j,m⟩:=dU g k cB;refine⟨j,e.eR k j x m o,λr i n=>?_⟩;have:=h.kY (k*c+r) i (js e.aQ m n);grind
end
section
variable{S c:ad}{m a d:bh}{b o e:Nat}{l:ae}{s:E}
def dA(S:ad)(m:bh):bh:=m.mapIdx λb o=>if b∈S then .cells #[] 0 else o
def Le(M a:bh):Prop:=∀b o v,aS M b o=some v->aS a b o=some v
theorem iO{v:Value}:aS (dA S m) b o=some v<->b∉S/\aS m b o=some v:=by
 grind [aS,dA]
def Le.cT(m:bh):Le m m:=λ_ _ _ h=>h
def Le.J{a b c:bh}(h:Le a b)(k:Le b c):Le a c:=λx o v d=>k x o v (h x o v d)
def D.le(h:D m a):Le m a:=λ_ _ _ b=>h.aS b
def ac3(S:ad)(m:bh):Le (dA S m) m:=λ_ _ _ h=>(iO.1 h).2
def fL:Le (dA S m) m:=ac3 S m
theorem tF(h:∀b,b<m.size->b∉S->b∉c/\a[b]? =m[b]?):Le (dA S m) (dA c a):=λb o v d=>by
 grind [iO,rT,bE]
theorem D.dA(h:D m a)(d:∀b∈c,b∈S\/m.size<=b):Le (dA S m) (dA c a):=
 by grind [tF,D.bG]
def D.fj(h:D m a):Le (Vc.dA S m) (Vc.dA S a):=by grind [D.dA]
theorem mR(m:bh)(a:∀b∈c,b∈S):Le (dA S m) (dA c m):=by grind [D.cT,D.dA]
theorem Le.kY{M a:bh}(h:Le M a)(e:jF M b o l):jF a b o l:=λi c d=>h _ _ _ (e i c d)
theorem fW.le{α:Type}{d:Nat}{R b:ae->α->Prop}{l:List α}(h:fW m d R s l)(f:Le m a)(e:∀c x,R c x->b c x):fW a d b s l:=
 by constructor<;>grind [fW.aT,fW.ms,fW.kM,fW.kY,Le.kY]
def be.le{m a:bh}(b:Le m a){s:E}{l:ab}(h:be m s l):be a s l:=by grind [fW.le]
def qD.le{m a:bh}(g:Le m a)(b:ae)(c:ab):qD m b c->qD a b c:=λ⟨f,d,e⟩=>⟨f,d,e.le g⟩
def k8.le{m a:bh}(d:Le m a)(b:ae)(c:cR):k8 m b c->k8 a b c:=λ⟨f,e,g⟩=>⟨f,e,fW.le g d (qD.le d)⟩
def dE.le{m a:bh}(b:Le m a){s:E}{l:af}(h:dE m s l):dE a s l:=fW.le h b (k8.le b)
theorem Tf(a:b∉S)(h:jF m b o l):jF (dA S m) b o l:=λi c d=>iO.2 ⟨a,h i c d⟩
theorem fW.Wv{α:Type}{a:Nat}{R:ae->α->Prop}{c:List ae}{l:List α}(t:∀b∈S,b<d.size)(h:jw d m e a s c.flatten)(k:iy a R c l)(n:0<a)(j:l.length<=9223372036854775807):fW (dA S m) a R s l:=by
 have H:=fW.jA h k n j;refine⟨H.aT,H.ms,H.kM,λo x i=>?_⟩;let⟨p,q,r⟩:=H.kY o x i;rcases h.bu with f|f
 .have g:=H.aT;have:=br i;rw[f]at g;simp at g;omega
 .grind [Tf]
theorem be.Wv{l:ab}(o:∀b∈S,b<d.size)(h:jw d m e 1 s (l.map Ce.i))(g:l.length<=9223372036854775807):be (dA S m) s l:=by
 have H:=be.jA h g;refine⟨H.aT,H.ms,H.kM,λk x f=>?_⟩;let⟨i,j,n⟩:=H.kY k x f;rcases h.bu with a|a
 .have c:=H.aT;have:=br f;rw[a]at c;simp at c;omega
 .grind [Tf]
end
section
variable{X Y S:ad}{m a b c d:bh}{f:ae}{s:E}{k:Nat}
@[grind cases] structure Fz (X:ad) (m m':bh):Prop where
 aQ:m.size<=m'.size
 bG:∀b,b<m.size->b∉X->m'[b]? =m[b]?
theorem Fz.cT(X:ad)(m:bh):Fz X m m:=by constructor<;>grind
def nP:Fz X m m:=Fz.cT X m
theorem Fz.vS(h:Fz X a b)(k:Fz Y b c)(d:∀y∈Y,y∈X\/a.size<=y):Fz X a c:=
 by constructor<;>grind [Fz.aQ,Fz.bG]
theorem Fz.J(h:Fz X a b)(k:Fz X b c):Fz X a c:=by grind [Fz.vS]
theorem D.fz(h:D m d)(X:ad):Fz X m d:=⟨h.aQ,λb a _=>h.bG b a⟩
theorem Fz.cg(h:Fz X a b)(k:D b c):Fz X a c:=h.J (k.fz X)
def Fz.push{X:ad}{a m:bh}(h:Fz X a m)(o:Obj):Fz X a (m.push o):=h.cg (D.push m o)
theorem Fz.ext(h:Fz [] m d):D m d:=by constructor<;>grind [Fz.aQ,Fz.bG]
theorem Fz.Ih(h:Fz X m d)(a:∀b∈X,b∈Y\/m.size<=b):Fz Y m d:=by constructor<;>grind [Fz.aQ,Fz.bG]
theorem Fz.aV(h:Fz X a m){b:Nat}(c:b∈X\/a.size<=b)(o:Nat)(l:ae):Fz X a (aV m b o l):=
 ⟨by rw[bD];exact h.aQ,λj f d=>by
  have e:j≠b:=λe=>by subst e;exact c.elim d λc=>V
  rw[cq l m b o e];exact h.bG j f d⟩
theorem Fz.dA(h:Fz X m d){a:ad}(e:∀b∈X,b∈S)(c:∀b∈a,b∈S\/m.size<=b):Le (dA S m) (dA a d):=
 by grind [tF,Fz.bG]
theorem Fz.fj(h:Fz X m d)(a:∀b∈X,b∈S):Le (Vc.dA S m) (Vc.dA S d):=by grind [Fz.dA]
def Fz.eW(h:Fz X m d){l:ad}(c:∀b∈l,b<m.size/\b∉X):gS l m d:=λb a=>h.bG b (c b a).1 (c b a).2
inductive Ex where
 |mk (op cE:Int) (dv:List Ex)
abbrev aJ:=List (eE×Ex)
abbrev ax:=List Ex
def Ex.op:Ex->Int| .mk o _ _=>o
def Ex.cE:Ex->Int| .mk _ n _=>n
def Ex.dv:Ex->ax| .mk _ _ k=>k
structure Rh(β:Type)where
 op:Int
 cE:Int
 dh:Int
 aO:ab
 dv:List β
inductive Bk where
 |mk (bA:List (Rh Bk)) (bQ:Int)
abbrev aF:=List Bk
abbrev eM:=Rh Bk
abbrev au:=List eM
def Bk.bA:Bk->au| .mk s _=>s
def Bk.bQ:Bk->Int| .mk _ r=>r
@[simp] theorem Ex.abN (o n:Int) (k:ax):(Ex.mk o n k).op=o:=rfl
@[simp] theorem Ex.ZW (o n:Int) (k:ax):(Ex.mk o n k).cE=n:=rfl
@[simp] theorem Ex.Xx (o n:Int) (k:ax):(Ex.mk o n k).dv=k:=rfl
@[simp] theorem Bk.mV (s:au) (r:Int):(Bk.mk s r).bA=s:=rfl
@[simp] theorem Bk.lV (s:au) (r:Int):(Bk.mk s r).bQ=r:=rfl
inductive DJ(m:bh):ae->Ex->Prop
 |mk (op cE:Int) (dv:ax) (s:E) (css:Nat->ae) (hl:s.len=dv.length) (hc:s.len<=s.cap) (hm:s.len<=9223372036854775807)
  (hr:∀(k:Nat)(x:Ex),dv[k]? =some x->jF m s.bu (s.off+k*3) (css k)) (hk:∀(k:Nat)(x:Ex),dv[k]? =some x->DJ m (css k) x):DJ m [.i op,.i cE,.s s] (.mk op cE dv)
inductive vw(m:bh):ae->Bk->Prop
 |mk (bA:List (Rh Bk)) (r:Int) (s:E) (hl:s.len=bA.length) (hc:s.len<=s.cap) (hm:s.len<=9223372036854775807) (aa ks:Nat->E) (kcs:Nat->Nat->ae)
  (hr:∀(k:Nat)(x:Rh Bk),bA[k]? =some x->jF m s.bu (s.off+k*5) [.i x.op,.i x.cE,.i x.dh,.s (aa k),.s (ks k)]/\be m (aa k) x.aO/\(ks k).len=x.dv.length/\(ks k).len<=(ks k).cap/\(ks k).len<=9223372036854775807)
  (hb:∀(k:Nat)(x:Rh Bk)(j:Nat)(b:Bk),bA[k]? =some x->x.dv[j]? =some b->jF m (ks k).bu ((ks k).off+j*2) (kcs k j))
  (hk:∀(k:Nat)(x:Rh Bk)(j:Nat)(b:Bk),bA[k]? =some x->x.dv[j]? =some b->vw m (kcs k j) b):vw m [.s s,.i r] (.mk bA r)
def j9(m:bh)(f:ae)(x:eM):Prop:=∃a k,f=[.i x.op,.i x.cE,.i x.dh,.s a,.s k]/\be m a x.aO/\fW m 2 (vw m) k x.dv
abbrev jy(m:bh)(s:E)(l:ax):Prop:=fW m 3 (DJ m) s l
abbrev iN(m:bh)(s:E)(l:au):Prop:=fW m 5 (j9 m) s l
abbrev rO(m:bh)(s:E)(l:aF):Prop:=fW m 2 (vw m) s l
theorem DJ.le(h:Le m d){e:Ex}(a:DJ m f e):DJ d f e:=by
 induction a with
 |mk n cE dv s b g c i a o l=>exact .mk n cE dv s b g c i (λk x j=>h.kY (a k x j)) l
theorem vw.le{m d:bh}(h:Le m d){f:ae}{b:Bk}(a:vw m f b):vw d f b:=by
 induction a with
 |mk bA t s o n p e ks r a l u q=>
  exact .mk bA t s o n p e ks r (λk x c=>let⟨g,i,j⟩:=a k x c;⟨h.kY g,i.le h,j⟩) (λk x j b c g=>h.kY (l k x j b c g)) q
def fW.J3{α:Type}{a:Nat}{R:ae->α->Prop}{l:List α}(h:fW m a R s l):
 ∃b:Nat->ae,∀(k:Nat)(x:α),l[k]? =some x->R (b k) x/\jF m s.bu (s.off+k*a) (b k):=by
 have:∀k:Nat,∃f:ae,∀x:α,l[k]? =some x->R f x/\jF m s.bu (s.off+k*a) f:=λk=>by
  cases e:l[k]? with
  |none=>exact⟨[],λx c=>by simp at c⟩
  |some x=>obtain⟨f,d⟩:=h.kY k x e;exact⟨f,λy c=>by simp at c;exact c▸d⟩
 exact⟨λk=>Classical.choose (this k),λk=>jD (this k)⟩
theorem DJ.cw{e:Ex}(h:DJ m f e):∃s,f=[.i e.op,.i e.cE,.s s]/\jy m s e.dv:=by
 cases h with
 |mk l cE dv s b g c i j d=>exact⟨s,O,g,c,i,λk x a=>⟨b k,d k x a,j k x a⟩⟩
def DJ.of{b cE:Int}{dv:ax}(h:jy m s dv):DJ m [.i b,.i cE,.s s] (.mk b cE dv):=by
 let⟨d,c⟩:=h.J3;exact .mk b cE dv s d h.aT h.ms h.kM (λk x a=>(c k x a).2) λk x a=>(c k x a).1
theorem vw.cw{b:Bk}(h:vw m f b):∃s,f=[.s s,.i b.bQ]/\iN m s b.bA:=by
 cases h with
 |mk bA w s r p t d ks v u o q=>
  exact⟨s,O,r,p,t,λk x a=>let⟨e,g,i,l,n⟩:=u k x a;⟨_,⟨d k,ks k,O,g,i,l,n,λj b c=>⟨v k j,q k x j b a c,o k x j b a c⟩⟩,e⟩⟩
def vw.of{r:Int}{bA:au}(h:iN m s bA):vw m [.s s,.i r] (.mk bA r):=by
 let⟨g,n⟩:=h.J3;have:∀k:Nat,∃(a c:E)(kc:Nat->ae),∀x:eM,bA[k]? =some x->g k=[.i x.op,.i x.cE,.i x.dh,.s a,.s c]/\be m a x.aO/\(c.len=x.dv.length/\c.len<=c.cap/\c.len<=9223372036854775807)/\
  ∀(j:Nat)(b:Bk),x.dv[j]? =some b->vw m (kc j) b/\jF m c.bu (c.off+j*2) (kc j):=λk=>by
  cases o:bA[k]? with
  |none=>exact⟨.nil,.nil,λ_=>[],λx d=>by simp at d⟩
  |some x=>
   obtain⟨⟨a,c,i,l,e⟩,_⟩:=n k x o
   let⟨kc,p⟩:=e.J3
   exact⟨a,c,kc,λy f=>by simp at f;subst f;exact⟨i,l,⟨e.aT,e.ms,e.kM⟩,p⟩⟩
 have H:=λk=>jD (jD (jD (this k)));refine .mk bA r s h.aT h.ms h.kM (λk=>Classical.choose (this k)) (λk=>Classical.choose (jD (this k))) (λk=>Classical.choose (jD (jD (this k)))) (λk x d=>?_) (λk x j b d e=>((H k x d).2.2.2 j b e).2) λk x j b d e=>((H k x d).2.2.2 j b e).1;grind
theorem j9.le{m d:bh}(h:Le m d){f:ae}{x:eM}:j9 m f x->j9 d f x:=λ⟨a,k,b,c,e⟩=>⟨a,k,b,c.le h,fW.le e h λ_ _=>vw.le h⟩
def jy.le{m d:bh}(a:Le m d){s:E}{l:ax}(h:jy m s l):jy d s l:=by grind [fW.le,DJ.le]
def iN.le{m d:bh}(a:Le m d){s:E}{l:au}(h:iN m s l):iN d s l:=by grind [fW.le,j9.le]
def rO.le{m d:bh}(a:Le m d){s:E}{l:aF}(h:rO m s l):rO d s l:=by grind [fW.le,vw.le]
theorem jy.bt{l:ax}(h:jy m s l){x:Ex}(b:l[k]? =some x):
 ∃t,jy m t x.dv/\aS m s.bu (s.off+k*3)=some (vi x.op)/\aS m s.bu (s.off+k*3+1)=some (vi x.cE)/\aS m s.bu (s.off+k*3+2)=some t.v:=by
 let⟨f,d,a⟩:=h.kY k x b
 obtain⟨t,rfl,c⟩:=d.cw
 exact⟨t,c,a 0 _ O,a 1 _ O,a 2 _ O⟩
theorem iN.bt{l:au}(h:iN m s l){x:eM}(e:l[k]? =some x):
 ∃a t,be m a x.aO/\rO m t x.dv/\aS m s.bu (s.off+k*5)=some (vi x.op)/\aS m s.bu (s.off+k*5+1)=some (vi x.cE)/\aS m s.bu (s.off+k*5+2)=some (vi x.dh)/\aS m s.bu (s.off+k*5+3)=some a.v/\aS m s.bu (s.off+k*5+4)=some t.v:=by
 obtain⟨f,⟨a,t,rfl,c,d⟩,b⟩:=h.kY k x e
 exact⟨a,t,c,d,b 0 _ O,b 1 _ O,b 2 _ O,b 3 _ O,b 4 _ O⟩
theorem rO.bt{l:aF}(h:rO m s l){x:Bk}(b:l[k]? =some x):
 ∃t,iN m t x.bA/\aS m s.bu (s.off+k*2)=some t.v/\aS m s.bu (s.off+k*2+1)=some (vi x.bQ):=by
 let⟨f,d,a⟩:=h.kY k x b
 obtain⟨t,rfl,c⟩:=d.cw
 exact⟨t,c,a 0 _ O,a 1 _ O⟩
def Bk.w:Bk->Nat
 | .mk bA _=>1+(bA.map λs=>1+s.aO.length+(s.dv.map Bk.w).sum).sum
decreasing_by
 rename_i s a _ _
 have b:=sQ a
 have c:=sQ (by assumption:_∈s.dv)
 have d:SizeOf.sizeOf s.dv<SizeOf.sizeOf s:=by cases s;simp;omega
 simp;omega
def Rh.w(s:Rh Bk):Nat:=1+s.aO.length+(s.dv.map Bk.w).sum
def Bk.aeK(b:Bk):b.w=1+(b.bA.map Rh.w).sum:=by
 cases b;rw[Bk.w];rfl
def Ex.n:Ex->Nat
 | .mk _ _ dv=>1+(dv.map Ex.n).sum
end
section
variable{S Y S' X:ad}{d a c:bh}{b k n i tb:Nat}{s x:E}{h f o:ae}{g:List ae}{K:E->bh->Prop}
@[grind cases] structure sD {α:Type} (sz:Nat) (R:bh->ae->α->Prop):Prop where
 le:∀{M M':bh}{cs:ae}{x:α},Le M M'->R M cs x->R M' cs x
 aT:∀{M:bh}{cs:ae}{x:α},R M cs x->cs.length=sz
def yi(_:bh)(f:ae)(n:Int):Prop:=aav f n
theorem yi.aP:sD 1 yi:=⟨λ_ h=>h,λh=>by rw[h];rfl⟩
def DJ.aP:sD 3 DJ:=by constructor<;>grind [DJ.le,DJ.cw]
def vw.aP:sD 2 vw:=by constructor<;>grind [vw.le,vw.cw]
theorem j9.aP:sD 5 j9:=⟨λh=>j9.le h,λh=>by obtain⟨_,_,rfl,_⟩:=h;rfl⟩
@[grind cases] structure Gr {α:Type} (S:ad) (m0 m:bh) (e sz:Nat) (R:bh->ae->α->Prop) (s:E) (l:List α):Prop where
 ju:s≠.nil
 bI:∃css,jw m0 m e sz s css.flatten/\iy sz (R (dA (s.bu::S) m)) css l
theorem Gr.aT{α:Type}{S:ad}{d a:bh}{b c:Nat}{R:bh->ae->α->Prop}{s:E}{l:List α}(h:Gr S d a b c R s l)(i:0<c):s.len=l.length:=by
 obtain⟨_,g,e,f⟩:=h;have:=e.aT;rw[dS f.aQ]at this;grind [iy.aT,Nat.eq_of_mul_eq_mul_right]
theorem Gr.cJ{α:Type}{f:Nat}{R:bh->ae->α->Prop}{l:List α}(h:Gr S d a b f R s l):d.size<=s.bu/\s.bu<a.size:=by
 let⟨c,g,e,i⟩:=h;exact⟨e.bu.resolve_left c,e.lt.resolve_left c⟩
theorem Gr.bF{α:Type}(S:ad){d a:bh}(h:d.size<=a.size){b c:Nat}{R:bh->ae->α->Prop}:Gr S d (a.push (.cells (db []) b)) b c R (.mk a.size 0 0 0) []:=
 ⟨bO,[],(jw.bF (D.cT a) b c [] 0 bO).cV h,iy.gN _ _⟩
def Gr.fQ{α:Type}{e:Nat}{R:bh->ae->α->Prop}{l:List α}(k:sD e R)(h:Gr S d a b e R s l)(n:Fz Y a c)(m:∀f∈Y,f∈S/\f<d.size):Gr S d c b e R s l:=by
 have o:=h.cJ;let⟨f,g,i,j⟩:=h;constructor<;>grind [jw.congr,Fz.bG,iy.aP,Fz.fj,List.mem_cons_of_mem]
def Gr.Si{α:Type}{h:Nat}{R:bh->ae->α->Prop}{l:List α}(o:sD h R)(i:Gr S d a b h R s l)(j:Fz Y a c)(p:∀e∈Y,e∈S)(r:s.bu∉Y):Gr S d c b h R s l:=by
 have t:=i.cJ;let⟨k,g,m,n⟩:=i;exact⟨k,g,m.congr (j.bG _ t.2 r),n.aP λf x=>o.le (j.fj λe q=>aX _ (p e q))⟩
theorem Gr.re{α:Type}{h:Nat}{R:bh->ae->α->Prop}{l:List α}(p:sD h R)(i:Gr S d a b h R s l)(k:Fz Y a c)(q:∀e∈Y,e∈S)(r:s.bu∉Y)(u:∀e∈S',e∈S\/a.size<=e):Gr S' d c b h R s l:=by
 have t:=i.cJ;let⟨m,g,n,o⟩:=i;refine⟨m,g,n.congr (k.bG _ t.2 r),o.aP λf x=>p.le (k.dA (λe j=>aX _ (q e j)) λe j=>?_)⟩;grind [List.mem_cons_self,List.mem_cons_of_mem]
theorem Gr.ext{α:Type}{e:Nat}{R:bh->ae->α->Prop}{l:List α}(f:sD e R)(h:Gr S d a b e R s l)(g:D a c):Gr S d c b e R s l:=
 h.fQ f (g.fz []) bO
theorem Gr.cy{α:Type}{c:Nat}{R:bh->ae->α->Prop}{l:List α}(f:sD c R)(h:Gr S d a b c R s l)(g:∀e∈S,e<d.size)(i:0<c)(e:l.length<=9223372036854775807):fW (dA S a) c (R (dA S a)) s l:=by
 grind [fW.Wv,iy.aP,mR,List.mem_cons_of_mem]
theorem D.Q9(h:k<=a.size):D (a.extract 0 k) a:=by
 constructor<;>grind [Array.getElem?_extract]
theorem ve(h:k<=a.size):(a.extract 0 k).size=k:=eX
def Gr.xz{α:Type}{F:Nat}{R:bh->ae->α->Prop}{C E:List α}(G:sD h.length R)(U:0<h.length)
 (y:Gr S d a b h.length R s C)(H:Fz X d a)(u:x.len=g.length)(Q:jF a x.bu x.off g.flatten)(n:iy h.length (R (dA (s.bu::S) a)) g E)(i:(C.length+E.length)*F<=140737488355328)
 (O:∀r c,Gr S d c b h.length R r (C++E)->Fz X d c->(a.size<=c.size/\(r.bu=s.bu\/a.size<=r.bu))->(∀e,e<a.size->e≠s.bu->c[e]? =a[e]?)->K r c):mj a b h F s x K:=by
 have P:=y.aT U
 have hy:=y.cJ
 let⟨z,w,N,j⟩:=y
 have q:d.size<=a.size:=H.aQ
 refine jw.fw (f:=a.extract 0 d.size) (c:=h) (i:=g.flatten) (l:=w.flatten) (N.cV (by rw[ve q];exact bY)) (D.Q9 q) ?_ Q (by rw[P,u,n.aT];exact i) λr c W k2 k3 Y Z B=>?_
 .rw[dS n.aQ,u]
 have A:∀e,e<a.size->e≠s.bu->c[e]? =a[e]? :=λe i k=>Z e i λ_=>k
 have T:r≠.nil:=by
  rcases B with⟨f,_⟩|⟨_,_,f⟩|f
  .exact absurd f z
  .exact f
  .intro b;rw[b]at f;simp at f;omega
 have J:a.size<=c.size:=Y
 have I:Le (dA (s.bu::S) a) (dA (r.bu::S) c):=tF λe i k=>by
  simp only[bo,FU]at k;refine⟨?_,A e i k.1⟩;simp only[bo,FU];refine⟨?_,k.2⟩;rcases B with⟨f,_⟩|⟨_,f,_⟩|f
  .exact absurd f z
  .rw[f];exact k.1
  .omega
 refine O r c ⟨T,w++g,?_,?_⟩ ⟨fC q J,λe i u=>?_⟩ ⟨J,?_⟩ A
 .rw[uH]
  exact W.cV (by rw[ve q];exact bY)
 .refine⟨by simp[j.aT,n.aT],λm o=>?_,λL m M t v=>?_⟩
  .rcases bU.1 o with o|o
   .exact j.aQ m o
   .exact n.aQ m o
  .rcases dJ L w.length with p|p
   .rw[dY p]at t
    rw[dY (j.aT▸p)]at v
    exact G.le I (j.eR L m M t v)
   .rw[dP p]at t
    rw[dP (by rw[<-j.aT];exact p),<-j.aT]at v
    exact G.le I (n.eR _ m M t v)
 .rw[A e (cr i q) V];exact H.bG e i u
 .rcases B with⟨f,_⟩|⟨_,f,_⟩|f
  .exact absurd f z
  .exact bC f
  .exact bR V
def Gr.nE{α:Type}{o:Nat}{R:bh->ae->α->Prop}{n:List α}{m:α}(j:sD h.length R)(A:0<h.length)
 (t:Gr S d a b h.length R s n)(x:Fz X d a)(q:R (dA (s.bu::S) a) f m)(k:(n.length+1)*o<=140737488355328)
 (y:∀r c,Gr S d c b h.length R r (n++[m])->Fz X d c->(a.size<=c.size/\(r.bu=s.bu\/a.size<=r.bu))->(∀g,g<a.size->g≠s.bu->c[g]? =a[g]?)->K r c):mj (a.push (.cells (db f) b)) b h o s (.mk a.size 0 1 1) K:=by
 have i:=D.push a (.cells (db f) b)
 refine Gr.xz (g:=[f]) (E:=[m]) j A (t.ext j i) (x.cg i) O ?_ ?_ k λr c u v p w=>y r c u v ⟨fC i.aQ p.1,p.2.imp id (fC i.aQ)⟩ λg k z=>(w g (cr k i.aQ) z).trans (i.bG g k)
 .have:=(dF.push a (e:=b) (l:=f)).kY
  simpa using this
 .have:=iy.Dd (iy.gN h.length (R (dA (s.bu::S) (a.push (.cells (db f) b))))) (j.aT q) (j.le i.fj q)
  simpa using this
def fW.abO{α:Type}{b:Nat}{R:ae->α->Prop}{l:List α}(D:∀f x,R f x->f.length=b)(q:fW a b R s l):
 ∃g,s.len=g.length/\jF a s.bu s.off g.flatten/\iy b R g l:=by
 let⟨c,y⟩:=q.J3
 have w:∀(d:Nat)(f:ae),((List.range l.length).map c)[d]? =some f->d<l.length/\f=c d:=λd f e=>by
  grind [Option.map_eq_some_iff,List.getElem?_eq_some_iff]
 have k:∀f∈(List.range l.length).map c,f.length=b:=λf v=>by
  let⟨d,e⟩:=cH.1 v;obtain⟨u,rfl⟩:=w d f e;let⟨x,p⟩:=gD u;grind
 refine⟨(List.range l.length).map c,by simp[q.aT],λi t o=>?_,bO,k,λd f x e p=>?_⟩
 .rcases FT b with m|m
  .have h:=br o
   rw[dS k,m]at h;simp at h
  have h:=br o
  rw[dS k]at h
  simp at h
  have e:i/b<l.length:=Nat.div_lt_of_lt_mul cB
  let⟨x,p⟩:=gD e
  have z:i=i/b*b+i%b:=by grind [Nat.mul_comm,Nat.div_add_mod]
  have E:=Nat.mod_lt i m
  have C:(c (i/b)).length=b:=cB
  let⟨A,r⟩:=dU (c (i/b)) (i%b)
  have n:=js (g:=(List.range l.length).map c) k (b:=i/b) (a:=c (i/b)) (by simp[e]) r
  rw[<-z,o]at n
  simp at n;subst n
  have B:=(y _ x p).2 _ t r
  grind [Nat.add_assoc]
 .grind
def Gr.lY{α:Type}{j:Nat}{R:bh->ae->α->Prop}{l i:List α}(k:sD h.length R)(v:0<h.length)
 (f:Gr S d a b h.length R s l)(t:Fz X d a)(p:fW (dA (s.bu::S) a) h.length (R (dA (s.bu::S) a)) x i)(q:(l.length+i.length)*j<=140737488355328)
 (u:∀r c,Gr S d c b h.length R r (l++i)->Fz X d c->(a.size<=c.size/\(r.bu=s.bu\/a.size<=r.bu))->(∀e,e<a.size->e≠s.bu->c[e]? =a[e]?)->K r c):mj a b h j s x K:=by
 let⟨g,m,n,o⟩:=p.abO λ_ _ f=>k.aT f
 exact Gr.xz k v f t m (fL.kY n) o q u
def Gr.kd{α:Type}{e:Nat}{R:bh->ae->α->Prop}{l:List α}(j:sD e R)(i:d.size<=a.size)(k:f=g.flatten)(m:n=g.length)(h:iy e (R (dA S a)) g l):
 Gr S d (a.push (.cells (db f) b)) b e R (.mk a.size 0 n n) l:=by
 subst k m
 refine⟨bO,g,(jw.bF (D.cT a) b e g.flatten g.length (dS h.aQ)).cV i,h.aP λp x=>j.le ?_⟩
 exact(D.push a _).dA λo c=>by
  rcases bo.1 c with c|c
  .exact bR (by simp[c])
  .exact bC c
def Gr.rS{α:Type}{c:Nat}{R:bh->ae->α->Prop}{l:List α}(n:sD c R)(h:Gr S d a b c R s l)(o:s.bu∉S)(r:0<c)(q:l.length<=9223372036854775807):fW (dA S a) c (R (dA S a)) s l:=by
 obtain⟨_,g,e,i⟩:=h;have H:=fW.jA e (i.aP λf x=>n.le (mR a λm j=>aX s.bu j)) r q;exact⟨H.aT,H.ms,H.kM,λk x p=>let⟨f,j,m⟩:=H.kY k x p;⟨f,j,Tf o m⟩⟩
def Gr.ne{α:Type}{c:Nat}{R:bh->ae->α->Prop}{l:List α}(h:Gr S d a b c R s l)(e:dF a i tb o)(f:tb≠b):s.bu≠i:=by
 grind [jw.bt,E.lT,dF]
theorem Gr.Qc{α β:Type}{q:bh}{r c t:Nat}{R:bh->ae->α->Prop}{f:bh->ae->β->Prop}{e:E}{o:List α}{p:List β}(j:Gr S d a b r R s o)(k:Gr S' q a c t f e p)(n:c≠b):s.bu≠e.bu:=by
 let⟨l,g,m,z⟩:=k;let⟨u,v,tail,h,w,i,x,y⟩:=m.bt.resolve_left l;have:=j.ne i n;rw[h];exact this
def Gr.bV{α:Type}{L:ad}{j w:Nat}{R:bh->ae->α->Prop}{t:List α}{v:α}{K:bh->Prop}(B:sD h.length R)(U:0<h.length)
 (z:Gr S d a b h.length R s t)(P:Fz X d a)(O:R (dA (s.bu::S) a) f v)(k:(t.length+1)*w<=140737488355328)
 (p:dF a i tb o)(Y:j<o.length)(G:tb≠b)(C:d.size<=i/\i∈S)(A:∀e∈L,e<a.size/\e≠i/\e≠s.bu)
 (Q:∀r c,Gr S d c b h.length R r (t++[v])->dF c i tb (kH o j [.s r])->Fz X d c->a.size<=c.size->(∀e,e<a.size->e≠s.bu->e≠i->c[e]? =a[e]?)->K c):
 aS (a.push (.cells (db f) b)) i j=aS a i j/\
 mj (a.push (.cells (db f) b)) b h w s (.mk a.size 0 1 1) λr c=>gS L (a.push (.cells (db f) b)) c/\jb c i j 1/\(gS L c (aV c i j [.s r])/\K (aV c i j [.s r])):=by
 have E:=p.lt
 have H:=D.push a (.cells (db f) b)
 refine⟨bE (H.bG i E) j,Gr.nE B U z P O k λr c y I W u=>?_⟩
 have q:dF c i tb o:=p.congr (u i E (tf (z.ne p G)))
 have T:=y.ne q G
 have n:∀e,e≠i->(aV c i j [.s r])[e]? =c[e]? :=λe k=>cq _ _ _ _ k
 refine⟨λe k=>?_,q.jb V,λe k=>n e (A e k).2.1,Q r _ ?_ (dF.aV (m:=c) q) (I.aV (bR C.1) _ _) (by rw[bD];exact W.1) λe l M N=>(n e N).trans (u e l M)⟩
 .have l:=A e k
  rw[u e l.1 l.2.2,H.bG e l.1]
 .let⟨J,g,g1,g2⟩:=y
  refine⟨J,g,g1.congr (n _ T),g2.aP λf x=>B.le ?_⟩
  exact tF λe k F=>⟨F,n e λb=>F (by rw[b];exact aX _ C.2)⟩
theorem be.kd(b:Nat){l:ab}(e:∀c∈S,c<a.size)(c:f=l.map Ce.i)(d:n=l.length)(g:l.length<=9223372036854775807):be (dA S (a.push (.cells (db f) b))) (.mk a.size 0 n n) l:=by
 subst c d;have h:=jw.bF (D.cT a) b 1 (l.map Ce.i) l.length bO;grind [be.Wv]
end
section
variable{x y:Operand}{k:SV->Prop}{l h:ae}{f:Int->Prop}{r:aA}{a:Int}{g:Array (Nat×Operand)}{e:ar}{Q:Exit->Fr->bh->Prop}{c:Code}
section
variable{P:Program}{T:TT}{G:ad}{n:Nat}{A:TX}{m q:bh}{p u:Fr}{b o j i t:Nat}{s:Sh}{d:Option Nat}{v:Value}
def nc(n:Nat):Int:=n
def nce{n:Nat}:nc n=n:=rfl
def abw:Zg T p .len [t] [x] k=match jv T t,ev p x with
 |some ⟨.slice _,_,_⟩,.c (.s s)=>k (.c (.i (nc s.len)))
 |_,_=>False:=rfl
def abx{l:ad}:Zg T p .max l [x,y] k=match ev p x,ev p y with
 | .c (.i a),.c (.i b)=>k (.c (.i (if b>a then b else a)))
 |_,_=>False:=rfl
def aby{l:ad}:Zg T p .min l [x,y] k=match ev p x,ev p y with
 | .c (.i a),.c (.i b)=>k (.c (.i (if b<a then b else a)))
 |_,_=>False:=rfl
def XC(m:bh)(k:bh->Prop):Tm m k=(let q:=m;k q):=rfl
def pa{α:Type}(x:α)(f:α->Prop):Prop:=f x
def Yp(s:Sh)(f:s.ty->Prop):Prop:=∃x,f x
def alS(s:Sh)(f:s.ty->Prop):Prop:=∀x,f x
def exI:Yp .I f=∃x,pa x f:=rfl
def exU{k:IntKind}:Yp (.U k) f=∃x,pa x f:=rfl
def exB{f:Bool->Prop}:Yp .T f=∃x,pa x f:=rfl
def adP{f:E->Prop}:Yp .S f=∃x,pa x f:=rfl
def exP{f:Nat×Nat->Prop}:Yp .P f=∃x,pa x f:=rfl
def exF{f:Fn×Array Value×Array Value->Prop}:Yp .F f=∃x,pa x f:=rfl
def exM{f:Nat->Prop}:Yp .M f=∃x,pa x f:=rfl
def alI:alS .I f=∀x,f x:=rfl
def alU{k:IntKind}:alS (.U k) f=∀x,f x:=rfl
def alB{f:Bool->Prop}:alS .T f=∀x,f x:=rfl
def adA{f:E->Prop}:alS .S f=∀x,f x:=rfl
def alP{f:Nat×Nat->Prop}:alS .P f=∀x,f x:=rfl
def alF{f:Fn×Array Value×Array Value->Prop}:alS .F f=∀x,f x:=rfl
def exQ{f:Option (Nat×Nat)->Prop}:Yp .Q f=∃x,pa x f:=rfl
def alQ{f:Option (Nat×Nat)->Prop}:alS .Q f=∀x,f x:=rfl
def alM{f:Nat->Prop}:alS .M f=∀x,f x:=rfl
def cU8{x:Int}:nL (.int .u8 x)=some (.u .u8 x):=rfl
def z0:na h 0=[]:=rfl
def z1:na h (n+1)=h++na h n:=rfl
def tb{a b:Nat}:Nat.testBit a b=(1&&&(a>>>b)!=0):=rfl
def abq{e:Edge}{a:afx}:oN (e::a)=bif Region.binds .any e then 2^e.on|||oN a else oN a:=rfl
def b1:Region.binds .any ⟨i,.data⟩=true:=rfl
def b2:Region.binds .any ⟨i,.chain⟩=true:=rfl
def b3:Region.binds .any ⟨i,.guard⟩=true:=rfl
def b4:Region.binds .any ⟨i,.phase⟩=true:=rfl
def b5{x:Departure}:Region.binds .any ⟨i,.gcOnly x⟩=false:=rfl
def b6{x:Departure}:Region.binds .any ⟨i,.textOnly x⟩=false:=rfl
def Xw(c:Ce)(k:ae->Prop)(l:ae):Prop:=k (c::l)
def aaM(k:SV->Prop)(l:ae):Prop:=k (.agg l)
def kld(m:bh)(b o j:Nat)(s:Sh)(r:aA)(k:ae->Prop)(x:s.ty):Prop:=
 aS m b (bif j==0 then o else o+j)=some (s.mk x).v/\ldC m b o (j+1) r (Xw (s.mk x) k)
def adK{k:ae->Prop}:ldC m b o j (s::r) k=Yp s (kld m b o j s r k):=by
 cases j<;>rfl
def klc(m:bh)(b o:Nat)(s:Sh)(k:SV->Prop)(x:s.ty):Prop:=aS m b o=some (s.mk x).v/\k (.c (s.mk x))
def Zu{t:Nat}:UQ T m t b o k=match jv T t with
 |some ⟨.struct _,a,_⟩=>ldC m b o 0 a (aaM k)
 |some ⟨.cell,[s],_⟩=>Yp s (klc m b o s k)
 |some ⟨.slice _,[_],_⟩=>∃x:E,aS m b o=some x.v/\k (.c (.s x))
 |_=>False:=rfl
def ile{b:Int}:Int.le a b=(a<=b):=rfl
def khi(s:E)(z:Nat)(l:Int)(k:SV->Prop)(h:Int):Prop:=Int.le 0 l/\Int.le l h/\Int.le h (nc s.cap)/\k (.c (.s (s.cut l.toNat h.toNat z)))
def klo(p:Fr)(a:Option Operand)(s:E)(z:Nat)(k:SV->Prop)(l:Int):Prop:=Rv p a (nc s.len) (khi s z l k)
def adI{f:Nat}{mk:Nat->SV}:Ka T t f o mk k=match jv T t with
 |some ⟨.struct c,_,_⟩=>match Mh c f with
  |some (a,u)=>match jv T u with
   |some b=>bif b.yO||Nat.beq b.sh.length 0 then False else bif a==0 then k (mk o)else k (mk (o+a))
   |none=>False
  |none=>False
 |_=>False:=by
 have h:∀a,(bif a==0 then k (mk o)else k (mk (o+a)))=k (mk (o+a)):=cB
 simp only[h];rfl
def abv{s:E}{n:Int}:ac4 T t s n k=match jv T t with
 |some ⟨.slice e,_,_⟩=>match jv T e with
  |some a=>bif a.yO then False else Int.le 0 n/\n<nc s.len/\k (.c (.p s.bu (s.off+n.toNat*a.sh.length)))
  |none=>False
 |_=>False:=rfl
def Xq{s:E}{b a:Option Operand}:WO T p t s b a k=match jv T t with
 |some ⟨.slice e,_,_⟩=>match jv T e with
  |some c=>bif c.yO then False else Rv p b 0 (klo p a s c.sh.length k)
  |none=>False
 |_=>False:=rfl
def Xn:rd T p m k (.build t g)=match jv T t with
 |some ⟨.struct a,b,_⟩=>bif zt T a then J2 T p a (b.map Sh.zero) g.toList (aaM k)else False
 |_=>False:=rfl
def kxc(s:Sh)(r:aA)(k:ae->Prop)(x:s.ty):Prop:=exC r (Xw (s.mk x) k)
def abt{k:ae->Prop}:exC (s::r) k=Yp s (kxc s r k):=rfl
def kav(a:AV)(k:aH->Prop)(l:aH):Prop:=k (a::l)
def kxt(T:TT)(r:ad)(k:aH->Prop)(l:ae):Prop:=Yq T r (kav (.agg l) k)
def kxs(T:TT)(s:Sh)(r:ad)(k:aH->Prop)(x:s.ty):Prop:=Yq T r (kav (.c (s.mk x)) k)
def abu{r:ad}{k:aH->Prop}:Yq T (t::r) k=match jv T t with
 |some ⟨.struct _,a,_⟩=>exC a (kxt T r k)
 |some ⟨.cell,[s],_⟩=>Yp s (kxs T s r k)
 |some ⟨.slice _,[_],_⟩=>∃x:E,Yq T r (kav (.c (.s x)) k)
 |_=>False:=rfl
def krt(v:Value)(k:SV->Prop)(l:aH):Prop:=v=.tuple (l.map AV.v).toArray/\k (.tup l)
def krs(v:Value)(k:SV->Prop)(l:ae):Prop:=v=.agg (l.map Ce.v).toArray/\k (.agg l)
def krc(v:Value)(s:Sh)(k:SV->Prop)(x:s.ty):Prop:=v=(s.mk x).v/\k (.c (s.mk x))
def abD:U0 T t v k=match jv T t with
 |some ⟨.tuple [],_,_⟩=>k .jN
 |some ⟨.tuple a,_,_⟩=>Yq T a (krt v k)
 |some ⟨.struct _,a,_⟩=>exC a (krs v k)
 |some ⟨.cell,[s],_⟩=>Yp s (krc v s k)
 |some ⟨.slice _,[_],_⟩=>∃x:E,v=x.v/\k (.c (.s x))
 |_=>False:=rfl
def aaN(k:Fr->SV->bh->Prop)(p:Fr)(m:bh)(x:SV):Prop:=k p x m
def inG(G:ad)(g:Nat):Prop:=G.elem g=true
def adV{G:ad}{g:Nat}:inG G g=(G.elem g=true):=rfl
def nz(b:Int):Prop:=b≠0
def nze{b:Int}:nz b=(b≠0):=rfl
def abA{b:Int}:vB .quo a b k=(nz b/\k (.c (.i (eI (a.tdiv b))))):=rfl
def abC{b:Int}:vB .rem a b k=(nz b/\k (.c (.i (a.tmod b)))):=rfl
def Zr{c:Nat}{f:Operand}{a:aD}{k:Fr->SV->bh->Prop}:Zj P T G n p m c f a k=match Zz p (a.map (ev p))with
 |none=>False
 |some u=>match ev p f with
  | .c (.fn (.func g) first b)=>bif G.elem g&&a.all (λx=>(ev p x).mS)then
   bK P g (first.toList++(a.map λx=>(ev p x).v)++b.toList) m λv q=>EF (Ra n u []) m q (U0 T c v (aaN k u q))
   else False
  | .c (.fv b)=>bif a.all (λx=>(ev p x).mS)then
   ∃g,b.1=.func g/\inG G g/\bK P g (b.2.1.toList++(a.map λx=>(ev p x).v)++b.2.2.toList) m λv q=>EF (Ra n u []) m q (U0 T c v (aaN k u q))
   else False
  |_=>False:=rfl
def p3(m:bh)(k:Fr->SV->bh->Prop)(p:Fr)(x:SV):Prop:=k p x m
def p2(m:bh)(k:SV->bh->Prop)(x:SV):Prop:=k x m
def Zw{k:Fr->SV->bh->Prop}:Yw n p none m t l k=Tm (m.push (.cells (db l) t)) λq=>p3 q k p (.c (.p m.size 0)):=rfl
def Zx{j:Nat}{k:Fr->SV->bh->Prop}:Yw n p (some j) m t l k=match kK p (n+j)with
 | .DU _ _ _=>False
 |_=>Tm (m.push (.cells (db l) t)) λq=>p3 q k ((n+j,.box m.size t l)::p) (.c (.bp (n+j) m.size 0)):=rfl
def adN{x:SV}{k:Fr->SV->bh->Prop}:TL n p m x l k=match x with
 | .c (.p b o)=>jb m b o l.length/\Tm (aV m b o l) λq=>EF (Ra n p []) m q (k p .un q)
 | .c (.bp d b o)=>match kK p d with
  | .box a e c=>bif Nat.ble (o+l.length) c.length then OW a b (Tm (aV m b o l) λq=>p3 q k ((d,.box a e (kH c o l))::p) .un)else False
  | .DU _ _ _=>False
  |_=>jb m b o l.length/\Tm (aV m b o l) λq=>EF (Ra n p []) m q (k p .un q)
 |_=>False:=rfl
def adM{b:Nat}{k:Fr->SV->bh->Prop}:wr P T G n p m d b k (.makeSlice t x y)=match jv T t,ev p x,ev p y with
 |some ⟨.slice e,_,_⟩,.c (.i l),.c (.i c)=>match jv T e with
  |some a=>bif a.yO then False else Int.le 0 l/\Int.le l c/\Int.le (nc a.bytes*c) 281474976710656/\Int.le c 9223372036854775807/\
   Tm (m.push (.cells (db (na (a.sh.map Sh.zero) c.toNat)) e)) λq=>p3 q k p (.c (.s (.mk m.size 0 l.toNat c.toNat)))
  |none=>False
 |_,_,_=>False:=rfl
def adL{a:Nat}{k:Fr->SV->bh->Prop}:wr P T G n p m d a k (.makeMap t none)=Tm (m.push (.map #[] 0)) λq=>p3 q k p (.c (.mp m.size)):=rfl
def abr{z:Nat}{s x:E}{k:SV->bh->Prop}:acV m z s x k=∃a:ae,a.length=Nat.min x.len s.len*z/\jF m x.bu x.off a/\jb m s.bu s.off a.length/\
 Tm (aV m s.bu s.off a) λq=>p2 q k (.c (.i (nc (Nat.min x.len s.len)))):=rfl
def kbs(p:Fr)(m:bh)(e a:Nat)(k:Fr->SV->bh->Prop)(l:ae):Prop:=match J7 p l with
 |some u=>Tm (m.push (.cells (db l) e)) λq=>p3 q k u (.c (.s (.mk m.size 0 a a)))
 |none=>False
def adH{c a:Nat}{k:Fr->SV->bh->Prop}:wr P T G n p m d c k (.buildSlice t a g)=match jv T t with
 |some ⟨.slice e,_,_⟩=>match jv T e with
  |some b=>bif b.yO||!(Nat.ble (a*b.sh.length) 16777216)then False else
   Bu T p b.sh.length (na (b.sh.map Sh.zero) a) g.toList (kbs p m e a k)
  |none=>False
 |_=>False:=rfl
def kcp(n:Nat)(p:Fr)(m:bh)(k:Fr->SV->bh->Prop)(x:SV)(q:bh):Prop:=EF (Ra n p []) m q (k p x q)
def Zs{b:Nat}{u:Nat}{c:ad}{k:Fr->SV->bh->Prop}:wr P T G n p m d b k (.call ⟨.builtin .copy,⟨[x,y]⟩,⟨u::c⟩⟩)=match jv T u,ev p x,ev p y with
 |some ⟨.slice e,_,_⟩,.c (.s s),.c (.s z)=>match jv T e with
  |some a=>bif a.yO then False else acV m a.sh.length s z (kcp n p m k)
  |none=>False
 |_,_,_=>False:=rfl
def kw(P:Program)(T:TT)(G:ad)(n:Nat)(e:ar)(d:Option Nat)(kN:ar)(k:Fr->bh->Prop)(p:Fr)(x:SV)(m:bh):Prop:=wm P T G n e kN (ym p d x) m k
def kr(P:Program)(T:TT)(G:ad)(n:Nat)(e:ar)(d:Option Nat)(kN:ar)(k:Fr->bh->Prop)(p:Fr)(m:bh)(x:SV):Prop:=wm P T G n e kN (ym p d x) m k
def ky(P:Program)(T:TT)(G:ad)(n:Nat)(e:ar)(o:Oper)(kN:ar)(k:Fr->bh->Prop)(m:bh)(p:Fr):Prop:=
 bif PY o.op then wr P T G n p m o.dst o.type (kw P T G n e o.dst kN k) o.op else rd T p m (kr P T G n e o.dst kN k p m) o.op
def kn(P:Program)(T:TT)(G:ad)(n:Nat)(e:ar)(d:Option Nat)(kN:ar)(k:Fr->bh->Prop)(m:bh)(p:Fr):Prop:=wm P T G n e kN (ym p d .un) m k
def abz{o:Oper}{kN:ar}{k:Fr->bh->Prop}:wm P T G n e (o::kN) p m k=
 bif vZ n o.dst then gd e p o.guard (ky P T G n e o kN k m) (kn P T G n e o.dst kN k m)else False:=rfl
abbrev LL:=List (Nat×ao)
def dr1(P:Program)(T:TT)(G:ad)(n:Nat)(e:ar)(c a:ad)(b done:Nat)(o:Oper)(i:Nat)(m:bh)(L:LL)(k:Fr->bh->Prop)(p:Fr)(x:SV):Prop:=
 sO P T G n e c a b (done|||2^i) (ym p o.dst x) m ((i,YT T p o.op)::L) k
def dry(P:Program)(T:TT)(G:ad)(n:Nat)(e:ar)(c a:ad)(b done:Nat)(o:Oper)(i:Nat)(m:bh)(L:LL)(k:Fr->bh->Prop)(p:Fr):Prop:=
 rd T p m (dr1 P T G n e c a b done o i m L k p) o.op
def drn(P:Program)(T:TT)(G:ad)(n:Nat)(e:ar)(c a:ad)(b done:Nat)(o:Oper)(i:Nat)(m:bh)(L:LL)(k:Fr->bh->Prop)(p:Fr):Prop:=
 sO P T G n e c a b (done|||2^i) (ym p o.dst .un) m L k
def dr2(P:Program)(T:TT)(G:ad)(n:Nat)(e:ar)(c a:ad)(b done:Nat)(o:Oper)(i:Nat)(m:bh)(L:LL)(k:Fr->bh->Prop)(p:Fr)(x:SV)(q:bh):Prop:=
 If (ys a i) m q L (sO P T G n e c a b (done|||2^i) (ym p o.dst x) q L k)
def dwy(P:Program)(T:TT)(G:ad)(n:Nat)(e:ar)(c a:ad)(b done:Nat)(o:Oper)(i:Nat)(m:bh)(L:LL)(k:Fr->bh->Prop)(p:Fr):Prop:=
 wr P T G n p m o.dst o.type (dr2 P T G n e c a b done o i m L k) o.op
def dra(P:Program)(T:TT)(G:ad)(n:Nat)(e:ar)(c a:ad)(b done:Nat)(m:bh)(L:LL)(k:Fr->bh->Prop)(p:Fr)(i:Nat):Prop:=match Mh e i with
 |some o=>bif vZ n o.dst then gd e p o.guard (dwy P T G n e c a b done o i m L k) (drn P T G n e c a b done o i m L k)else False
 |none=>False
def Zt{a b:ad}{c done:Nat}{L:LL}{k:Fr->bh->Prop}:sO P T G n e a b (c+1) done p m L k=match Bd done 0 e a with
 |some i=>match Mh e i with
  |some o=>bif vZ n o.dst then gd e p o.guard (dry P T G n e a b c done o i m L k) (drn P T G n e a b c done o i m L k)else False
  |none=>False
 |none=>match tR done 0 e a with
  |[]=>k p m
  |d=>SJ d (dra P T G n e a b c done m L k p):=rfl
def Zp{f:Nat->Prop}:SJ [i] f=f i:=rfl
def Zq{r:ad}{f:Nat->Prop}:SJ (i::j::r) f=(f i/\SJ (j::r) f):=rfl
def kq(Q:Exit->Fr->bh->Prop)(p:Fr)(m:bh):Prop:=Q .normal p m
def abB{e:Array Oper}{a:Bool}:vc P T G n A (.region i e a) p m Q=
 bif a then sO P T G n e.toList (pmG e.toList) (Zh [] e.toList) e.toList.length 0 p m [] (kq Q)
 else wm P T G n e.toList e.toList p m (kq Q):=rfl
def kal(t:Nat)(s:Sh)(r:aw)(I:s.ty->LD r)(p:Fr)(k:Fr->(bh->Prop)->Prop)(x:s.ty):Prop:=Uf r (I x) ((t,.c (s.mk x))::p) k
def abo{r:aw}{I:s.ty->LD r}{k:Fr->(bh->Prop)->Prop}:Uf ((t,s)::r) I p k=alS s (kal t s r I p k):=rfl
def kam(t:Nat)(s:Sh)(r:aw)(I:s.ty->LD r)(μ:s.ty->SG r)(p:Fr)(k:Fr->(bh->Prop)->(bh->Nat)->Prop)(x:s.ty):Prop:=Ug r (I x) (μ x) ((t,.c (s.mk x))::p) k
def abp{r:aw}{I:s.ty->LD r}{μ:s.ty->SG r}{k:Fr->(bh->Prop)->(bh->Nat)->Prop}:Ug ((t,s)::r) I μ p k=alS s (kam t s r I μ p k):=rfl
def ks(P:Program)(T:TT)(G:ad)(n:Nat)(A:TX)(b:Code)(Q:Exit->Fr->bh->Prop):Exit->Fr->bh->Prop
 | .normal,u,q=>vc P T G n A b u q Q
 |e,u,q=>Q e u q
def kc(A:TX)(b:Code)(p:Fr)(l:aw)(K:LD l)(Q:Exit->Fr->bh->Prop):Exit->Fr->bh->Prop
 | .normal,u,q=>eqK p u (eO A b) (LH l K u q)
 |e,u,q=>Q e u q
def ki(P:Program)(T:TT)(G:ad)(n:Nat)(A:TX)(b:Code)(Q:Exit->Fr->bh->Prop)(u:Fr)(a:bh->Prop):Prop:=∀q,a q->vc P T G n A b u q Q
def abE{a b:Code}:vc P T G n A (.seq a b) p m Q=match lkH A.aaH b with
 |none=>vc P T G n A a p m (ks P T G n A b Q)
 |some l=>bif tW (tj a) l then∃K:LD l,vc P T G n A a p m (kc A b p l K Q)/\
  Uf l K (rI (tj a) (yJ n (eO A b) p)) (ki P T G n A b Q)else False:=by
 unfold ks kc ki;rfl
def kb(i:Nat)(Q:Exit->Fr->bh->Prop):Exit->Fr->bh->Prop
 | .exit j,u,q=>bif Nat.beq j i then Q .normal u q else Q (.exit j) u q
 |e,u,q=>Q e u q
def Xm:vc P T G n A (.block i c) p m Q=vc P T G n A c p m (kb i Q):=by
 unfold kb;rfl
def ke(A:TX)(c:Code)(p:Fr)(l:aw)(I:LD l)(μ:SG l)(N:Nat)(Q:Exit->Fr->bh->Prop):Exit->Fr->bh->Prop
 | .normal,a,b=>eqK p a (eO A c) (SL l I μ a b N)
 |e,a,b=>Q e a b
def kl(P:Program)(T:TT)(G:ad)(n:Nat)(A:TX)(c:Code)(p:Fr)(l:aw)(I:LD l)(μ:SG l)(Q:Exit->Fr->bh->Prop)(u:Fr)(a:bh->Prop)(μ':bh->Nat):Prop:=
 ∀q,a q->vc P T G n A c u q (ke A c p l I μ (μ' q) Q)
def Zv:vc P T G n A (.loop c) p m Q=match lkH A.ZO c with
 |none=>False
 |some l=>bif tW (tj c) l then∃(I:LD l)(μ:SG l),LH l I p m/\
  Ug l I μ (rI (tj c) (yJ n (eO A c) p)) (kl P T G n A c p l I μ Q)else False:=by
 unfold kl ke;rfl
def kR(m:bh)(R:aj)(l:aB):Prop:=match l with
 |[x]=>R x.v m
 |l=>R (.tuple (l.map SV.v).toArray) m
def kx(x:SV)(k:aB->Prop)(l:aB):Prop:=k (x::l)
def kz(T:TT)(p:Fr)(m:bh)(r:ay)(k:aB->Prop)(x:SV):Prop:=bif x.mS then KI T p m r (kx x k)else False
def Xo{r:ay}{k:aB->Prop}:KI T p m (.tmp t::r) k=bif (kK p t).mS then KI T p m r (kx (kK p t) k)else False:=rfl
def Xp{a:Nat}{r:ay}{k:aB->Prop}:KI T p m (.cell a t::r) k=rd T p m (kz T p m r k) (.load t (.tmp a)):=rfl
def kf(T:TT)(a:ay)(R:aj):Exit->Fr->bh->Prop
 | .normal,p,m=>KI T p m a (kR m R)
 | .ret,p,m=>KI T p m a (kR m R)
 |_,_,_=>False
def adJ{b:ay}{a:aB}{R:aj}:YN P T G A n b c a m R=vc P T G n A c (yI 0 a) m (kf T b R):=by
 unfold kf kR;rfl
end
def Tg(_:Prop):Type:=Prop
def Tg.p{q:Prop}(t:Tg q):Prop:=t
def Tg.lf(q:Prop):Tg q:=q
def Tg.pm{a b:Prop}{h:Tg a=Tg b}:Tg.p (Eq.mpr h (Tg.lf b))=b:=rfl
def rg1:List.range 1=[0]:=rfl
def rg2:List.range 2=[0,1]:=rfl
def rg3:List.range 3=[0,1,2]:=rfl
def rg4:List.range 4=[0,1,2,3]:=rfl
def rg5:List.range 5=[0,1,2,3,4]:=rfl
def rg6:List.range 6=[0,1,2,3,4,5]:=rfl
def rg7:List.range 7=[0,1,2,3,4,5,6]:=rfl
def Tg.pm2{a b c:Prop}{h:Tg a=Tg b}{d:Tg b=Tg c}:Tg.p (Eq.mpr h (Eq.mpr d (Tg.lf c)))=c:=rfl
def Wi(_ _:Prop):Type:=Unit
def mkT{a X:Prop}(_:Wi a X)(t:Tg a)(_:t.p=X):True:=trivial
end
end Go.Vc
namespace Go.Proofs.YtbbbdejieenniaaGreat
open Go.Vc
section
noncomputable abbrev dO:=Tryz.prog
def TBL:TT:=[(0,⟨.tuple [],[],0⟩),
 (3,⟨.cell,[.I],8⟩),
 (4,⟨.cell,[.T],1⟩),
 (5,⟨.cell,[(.U .u8)],1⟩),
 (22,⟨.slice 5,[.S],24⟩),
 (23,⟨.slice 100,[.S],24⟩),
 (24,⟨.slice 71,[.S],24⟩),
 (26,⟨.struct [(0,23),(1,24)],[.S,.S],48⟩),
 (27,⟨.tuple [26,3],[],0⟩),
 (29,⟨.slice 3,[.S],24⟩),
 (31,⟨.struct [(0,3),(1,3),(2,3),(3,29)],[.I,.I,.I,.S],48⟩),
 (32,⟨.tuple [31,4],[],0⟩),
 (36,⟨.tuple [26,4],[],0⟩),
 (40,⟨.struct [(0,3),(1,3),(2,3),(3,3),(4,3),(5,3),(6,3),(7,3)],[.I,.I,.I,.I,.I,.I,.I,.I],64⟩),
 (41,⟨.tuple [40,4],[],0⟩),
 (44,⟨.slice 57,[.S],24⟩),
 (45,⟨.slice 52,[.S],24⟩),
 (47,⟨.struct [(0,3),(1,3),(2,3),(3,3),(4,29),(5,44),(6,45)],[.I,.I,.I,.I,.S,.S,.S],104⟩),
 (48,⟨.tuple [47,4],[],0⟩),
 (52,⟨.struct [(0,3),(1,3),(2,3),(3,29),(4,29),(5,29)],[.I,.I,.I,.S,.S,.S],96⟩),
 (57,⟨.struct [(0,3),(1,3),(2,29)],[.I,.I,.S],40⟩),
 (61,⟨.struct [(0,26),(2,3),(3,47)],[.S,.S,.I,.I,.I,.I,.I,.S,.S,.S],160⟩),
 (65,⟨.slice 80,[.S],24⟩),
 (66,⟨.tuple [65,4],[],0⟩),
 (69,⟨.slice 73,[.S],24⟩),
 (71,⟨.struct [(0,29),(1,29),(2,3),(3,3),(4,69)],[.S,.S,.I,.I,.S],88⟩),
 (73,⟨.struct [(0,3),(1,3),(2,3),(3,3),(4,29),(5,29)],[.I,.I,.I,.I,.S,.S],80⟩),
 (80,⟨.cell,[.Q],8⟩),
 (82,⟨.slice 86,[.S],24⟩),
 (84,⟨.struct [(0,82),(1,29)],[.S,.S],48⟩),
 (86,⟨.struct [(0,3),(1,3),(2,4),(3,3),(4,3),(5,3)],[.I,.I,.T,.I,.I,.I],48⟩),
 (88,⟨.cell,[.P],8⟩),
 (92,⟨.slice 144,[.S],24⟩),
 (94,⟨.struct [(0,23),(1,92)],[.S,.S],48⟩),
 (95,⟨.tuple [94,4],[],0⟩),
 (98,⟨.slice 136,[.S],24⟩),
 (100,⟨.struct [(0,3),(1,3),(2,98)],[.I,.I,.S],40⟩),
 (102,⟨.cell,[.P],8⟩),
 (103,⟨.cell,[.P],8⟩),
 (107,⟨.slice 164,[.S],24⟩),
 (109,⟨.struct [(0,23),(1,107)],[.S,.S],48⟩),
 (113,⟨.cell,[.P],8⟩),
 (115,⟨.struct [(0,26),(2,47)],[.S,.S,.I,.I,.I,.I,.S,.S,.S],152⟩),
 (118,⟨.struct [(0,94),(2,71),(7,65)],[.S,.S,.S,.S,.I,.I,.S,.S],160⟩),
 (121,⟨.cell,[.F],8⟩),
 (124,⟨.cell,[.P],8⟩),
 (126,⟨.cell,[.P],8⟩),
 (128,⟨.struct [(0,3),(1,3),(2,3),(3,3),(4,3),(5,3),(6,3),(7,3)],[.I,.I,.I,.I,.I,.I,.I,.I],64⟩),
 (129,⟨.tuple [3,3],[],0⟩),
 (136,⟨.struct [(0,29)],[.S],24⟩),
 (139,⟨.struct [(0,22),(1,3)],[.S,.I],32⟩),
 (144,⟨.struct [(0,29),(1,29),(2,3)],[.S,.S,.I],56⟩),
 (149,⟨.tuple [29,29],[],0⟩),
 (155,⟨.slice 57,[.S],24⟩),
 (160,⟨.slice 162,[.S],24⟩),
 (162,⟨.struct [(0,3),(1,3),(2,160)],[.I,.I,.S],40⟩),
 (164,⟨.struct [(0,29),(1,3),(2,162)],[.S,.I,.I,.I,.S],72⟩),
 (167,⟨.cell,[.P],8⟩),
 (178,⟨.tuple [29,4],[],0⟩),
 (183,⟨.slice 216,[.S],24⟩),
 (185,⟨.struct [(0,23),(1,183)],[.S,.S],48⟩),
 (191,⟨.tuple [3,4],[],0⟩),
 (193,⟨.cell,[.F],8⟩),
 (195,⟨.cell,[.P],8⟩),
 (212,⟨.slice 239,[.S],24⟩),
 (214,⟨.struct [(0,212),(1,3)],[.S,.I],32⟩),
 (216,⟨.struct [(0,29),(1,29),(2,3),(3,214)],[.S,.S,.I,.S,.I],88⟩),
 (217,⟨.cell,[.P],8⟩),
 (219,⟨.struct [(0,69)],[.S],24⟩),
 (228,⟨.tuple [3,136],[],0⟩),
 (230,⟨.map 3 3,[.M],8⟩),
 (237,⟨.slice 214,[.S],24⟩),
 (239,⟨.struct [(0,3),(1,3),(2,3),(3,29),(4,237)],[.I,.I,.I,.S,.S],72⟩),
 (242,⟨.cell,[.P],8⟩),
 (243,⟨.tuple [242,4],[],0⟩),
 (246,⟨.struct [(0,29),(1,29),(2,29),(3,29),(4,29),(5,29),(6,29)],[.S,.S,.S,.S,.S,.S,.S],168⟩),
 (254,⟨.tuple [100,4],[],0⟩),
 (258,⟨.cell,[.F],8⟩),
 (277,⟨.slice 29,[.S],24⟩),
 (293,⟨.cell,[.P],8⟩),
 (295,⟨.struct [(0,212),(1,3)],[.S,.I],32⟩)]
abbrev Vo:Nat:=22
abbrev fm:Nat:=214
abbrev wQ:Nat:=57
abbrev ta:Nat:=136
abbrev mZ:Nat:=100
abbrev dw:Nat:=162
abbrev iu:Nat:=52
abbrev jf:Nat:=164
abbrev uS:Nat:=26
abbrev fx:Nat:=73
abbrev qU:Nat:=185
abbrev nW:Nat:=71
abbrev nI:Nat:=109
abbrev mO:Nat:=216
abbrev mg:Nat:=47
abbrev jP:Nat:=239
abbrev ig:Nat:=155
abbrev zI:Nat:=84
abbrev cQ:Nat:=61
abbrev rp:Nat:=86
abbrev uc:Nat:=144
abbrev pH:Nat:=94
abbrev jg:Nat:=118
abbrev bB:Nat:=3
abbrev Ci:Nat:=29
abbrev nJ:Nat:=80
abbrev vT:Nat:=219
abbrev FQ:Nat:=246
abbrev rq:Nat:=295
abbrev dC:Nat:=115
abbrev ud:Nat:=139
abbrev aad:Nat:=5
def Q0:yF dO TBL:=by
 unfold yF;kernel_rfl
def GL:ad:=List.range' 3 344
def gok:GOK dO GL:=by
 unfold GOK;kernel_rfl
def mix:dO.follows .mixedOrders=true:=by kernel_rfl
def nbq(a b:Nat):Nat.beq a b=(a==b):=by rw[NQ];simp
def nbl(a b:Nat):Nat.ble a b=(a -b==0):=by rw[NQ];simp;omega
def nbt(a b:Nat):Nat.blt a b=(a+1 -b==0):=by rw[NQ];simp[Nat.blt];omega
def gel(g:Nat):List.elem g GL=(3 -g==0&&(g -346==0)):=by rw[NQ];simp[GL];omega
section
variable{α β:Type}{a:α}{b:β}
def atl(l:List α):(Array.mk l).toList=l:=rfl
end
section
variable(a b c d e f)
def o1:(Oper.mk a b c d e f).dst=a:=rfl
def o2:(Oper.mk a b c d e f).op=b:=rfl
def o3:(Oper.mk a b c d e f).type=c:=rfl
def o5:(Oper.mk a b c d e f).after=e:=rfl
def o6:(Oper.mk a b c d e f).guard=f:=rfl
end
section
variable(a b c)
def a2:(TX.mk a b c).ZO=a:=rfl
def a3:(TX.mk a b c).aaH=b:=rfl
def a4:(TX.mk a b c).fQ=c:=rfl
def t1:(TI.mk a b c).Ma=a:=rfl
def t2:(TI.mk a b c).sh=b:=rfl
def t3:(TI.mk a b c).bytes=c:=rfl
def g1:(Edge.mk a b).on=a:=rfl
def g2:(Edge.mk a b).ground=b:=rfl
end
def A0:TX:=⟨[],[],[]⟩
def cI(x:Int):SV:=.c (.i x)
def cS(x:E):SV:=.c (.s x)
def cP(x:ai):SV:=.c (.p x.1 x.2)
instance:Coe Int SV:=⟨cI⟩
instance:Coe E SV:=⟨cS⟩
instance:Coe (Nat×Nat) SV:=⟨cP⟩
instance:Coe Int Ce:=⟨.i⟩
instance:Coe E Ce:=⟨.s⟩
def oV(n:Nat){x:TI}(h:jv TBL n=some x:=by cbv):jv TBL n=some x:=h
def tg0:=oV 0
def tg3:=oV 3
def tg4:=oV 4
def tg5:=oV 5
def ad9:=oV 22
def aea:=oV 23
def aeb:=oV 24
def aec:=oV 26
def aed:=oV 27
def aee:=oV 29
def aef:=oV 31
def aeg:=oV 32
def aeh:=oV 36
def aei:=oV 40
def aej:=oV 41
def aek:=oV 44
def ael:=oV 45
def aem:=oV 47
def aen:=oV 48
def aeo:=oV 52
def aep:=oV 57
def aeq:=oV 61
def aer:=oV 65
def aes:=oV 66
def aet:=oV 69
def aeu:=oV 71
def aev:=oV 73
def aew:=oV 80
def aex:=oV 82
def aey:=oV 84
def aez:=oV 86
def aeA:=oV 88
def aeB:=oV 92
def aeC:=oV 94
def aeD:=oV 95
def aeE:=oV 98
def abR:=oV 100
def abS:=oV 102
def abT:=oV 103
def abU:=oV 107
def abV:=oV 109
def abW:=oV 113
def abX:=oV 115
def abY:=oV 118
def abZ:=oV 121
def ab0:=oV 124
def ab1:=oV 126
def ab2:=oV 128
def ab3:=oV 129
def ab4:=oV 136
def ab5:=oV 139
def ab6:=oV 144
def ab7:=oV 149
def ab8:=oV 155
def ab9:=oV 160
def aca:=oV 162
def acb:=oV 164
def acd:=oV 167
def ace:=oV 178
def acf:=oV 183
def acg:=oV 185
def ach:=oV 191
def aci:=oV 193
def acj:=oV 195
def ack:=oV 212
def acm:=oV 214
def acn:=oV 216
def aco:=oV 217
def acp:=oV 219
def acq:=oV 228
def acr:=oV 230
def acs:=oV 237
def acu:=oV 239
def acv:=oV 242
def acw:=oV 243
def acx:=oV 246
def acy:=oV 254
def acz:=oV 258
def acA:=oV 277
def acB:=oV 293
def acC:=oV 295
def eN(m:bh)(R:aj)(A:TX)(a:aB){f:FuncId}{b:Go.Func}{X:Prop}{c:Code}{n:Nat}{e:ay}{g:ap}(k:dO.funcs[f]? =some b)
 (d:(b.body,b.ntmps,b.results)=(some c,n,Array.mk e):=by cbv)
 (i:a.all SV.mS=true:=by kernel_rfl)(l:Nat.ble a.length n=true:=by kernel_rfl)(hd:uo c=true:=by kernel_rfl)
 (o:a.map SV.v=g:=by dsimp only[List.map,cI,cS,cP,SV.v,Ce.v])
 (w:Wi (YN dO TBL GL A n e c a m R) X->True:=by intro w;obtain - :=mkT w (by sym -abstractProof=>simp[gel,A0.eq_1,cI.eq_1,cS.eq_1,cP.eq_1,tg0,tg3,tg4,tg5,ad9,aea,aeb,aec,aed,aee,aef,aeg,aeh,aei,aej,aek,ael,aem,aen,aeo,aep,aeq,aer,aes,aet,aeu,aev,aew,aex,aey,aez,aeA,aeB,aeC,aeD,aeE,abR,abS,abT,abU,abV,abW,abX,abY,abZ,ab0,ab1,ab2,ab3,ab4,ab5,ab6,ab7,ab8,ab9,aca,acb,acd,ace,acf,acg,ach,aci,acj,ack,acm,acn,aco,acp,acq,acr,acs,acu,acv,acw,acx,acy,acz,acA,acB,acC,nbq,nbl,nbt,atl,o1,o2,o3,o5,o6,a2,a3,a4,t1,t2,t3,g1,g2,eK,ji,eS,iA,SD,List.all_nil,dy,kT,List.elem_cons,Bool.true_and,Bool.false_and,abi,abg,Bool.true_or,abh,aam,Bool.and_true,vx,Option.map_none,ni,vU,Vw,List.flatMap_nil,List.isEmpty_cons,List.isEmpty_nil,List.any_cons,Vv,mC,RP,yI.eq_1,yI.eq_2,vc.eq_1,vc.eq_4,vc.eq_6,vc.eq_7,vc.eq_8,yQ.eq_def,orT.eq_def,orB.eq_def,uP.eq_1,uP.eq_2,Qo.eq_def,eqK.eq_1,eqK.eq_2,yJ.eq_1,HN.eq_1,HN.eq_2,eO.eq_1,tW.eq_1,tW.eq_2,tj.eq_def,rI.eq_1,rI.eq_2,Ug.eq_1,Uf.eq_1,SL.eq_1,SL.eq_2,LH.eq_1,LH.eq_2,Wg.eq_def,lkH.eq_1,HQ.eq_def,lk.eq_1,lk.eq_2,sO.eq_1,If.eq_1,If.eq_2,Qy.eq_1,Qy.eq_2,tR.eq_def,Bd.eq_def,nQ.eq_1,sk.eq_1,sk.eq_2,oN.eq_1,ys.eq_1,ys.eq_2,ys.eq_3,wm.eq_1,DY.eq_1,DY.eq_2,gd.eq_1,gd.eq_2,PT.eq_1,vZ.eq_1,vZ.eq_2,PY.eq_def,wr.eq_1,wr.eq_2,wr.eq_4,wr.eq_6,wr.eq_8,wr.eq_9,wr.eq_10,wr.eq_11,Bu.eq_1,Bu.eq_2,Yq.eq_1,exC.eq_1,Ra.eq_def,EF.eq_def,rd.eq_1,rd.eq_2,rd.eq_3,rd.eq_4,rd.eq_5,rd.eq_6,rd.eq_7,rd.eq_8,rd.eq_9,rd.eq_10,rd.eq_11,rd.eq_12,rd.eq_13,rd.eq_15,YT.eq_def,abw,abx,aby,R8.eq_1,Lu.eq_1,Lu.eq_2,Tb.eq_1,Rv.eq_1,Rv.eq_2,zt.eq_1,zt.eq_2,J2.eq_1,J2.eq_2,qO.eq_1,qO.eq_2,qO.eq_3,qO.eq_4,qO.eq_5,SV.cells.eq_def,unO.eq_def,aaP.eq_def,aaz.eq_def,vB.eq_1,vB.eq_2,vB.eq_3,vB.eq_6,vB.eq_7,vB.eq_8,vB.eq_9,vB.eq_10,vB.eq_11,vB.eq_12,abA,abC,ldC.eq_1,Mh.eq_1,Mh.eq_2,Mh.eq_3,oK.eq_def,SV.mS.eq_def,TI.yO.eq_1,TI.agg.eq_1,Sh.zero.eq_1,Sh.zero.eq_2,Sh.zero.eq_3,Sh.zero.eq_4,Sh.zero.eq_5,Sh.zero.eq_6,Sh.zero.eq_7,ev.eq_1,ev.eq_2,ev.eq_3,ev.eq_4,J6.eq_def,tD.eq_1,tD.eq_2,nL.eq_1,nL.eq_3,nL.eq_4,nL.eq_5,nL.eq_6,nL.eq_7,ym.eq_1,ym.eq_2,SV.nb.eq_def,kK.eq_1,kK.eq_2,AV.sv.eq_1,AV.sv.eq_2,SV.v.eq_1,SV.v.eq_2,SV.v.eq_3,SV.v.eq_4,SV.v.eq_5,SV.v.eq_6,SV.v.eq_7,SV.v.eq_8,SV.v.eq_9,AV.v.eq_1,AV.v.eq_2,Ce.v.eq_1,Ce.v.eq_2,Ce.v.eq_3,Ce.v.eq_4,Ce.v.eq_5,Ce.v.eq_6,Ce.v.eq_7,Ce.v.eq_8,Ce.v.eq_9,Ce.v.eq_10,Ce.v.eq_11,Ce.v.eq_12,Ce.v.eq_13,Br.eq_1,Br.eq_2,Zz.eq_1,J7.eq_def,kH.eq_1,kH.eq_2,LD.eq_1,LD.eq_2,SG.eq_1,SG.eq_2,Sh.ty.eq_1,Sh.ty.eq_2,Sh.ty.eq_3,Sh.ty.eq_4,Sh.ty.eq_5,Sh.ty.eq_6,Sh.ty.eq_7,Sh.mk.eq_1,Sh.mk.eq_2,Sh.mk.eq_3,Sh.mk.eq_4,Sh.mk.eq_5,Sh.mk.eq_6,Sh.mk.eq_7,Pw.eq_1,SV.ces.eq_def,AV.ces.eq_1,AV.ces.eq_2,KI.eq_1,pmG.eq_1,pmG.eq_2,Zh.eq_1,Zh.eq_2,kld.eq_1,klc.eq_1,kxc.eq_1,kxs.eq_1,krc.eq_1,kal.eq_1,kam.eq_1,pa.eq_1,p3.eq_1,p2.eq_1,Xw.eq_1,aaM.eq_1,khi.eq_1,klo.eq_1,kav.eq_1,kxt.eq_1,krt.eq_1,krs.eq_1,aaN.eq_1,kbs.eq_1,kcp.eq_1,kw.eq_1,kr.eq_1,ky.eq_1,kn.eq_1,dr1.eq_1,dry.eq_1,drn.eq_1,dr2.eq_1,dwy.eq_1,dra.eq_1,kq.eq_1,ks.eq_def,kc.eq_def,ki.eq_1,kb.eq_def,ke.eq_def,kl.eq_1,kR.eq_def,kx.eq_1,kz.eq_1,kf.eq_def,SJ.eq_1,adK,Zu,Xq,Xn,abt,abu,abD,Zr,adH,Zs,abz,Zt,Zp,Zq,abB,abE,Xm,Zv,Xo,Xp,adJ,adI,abo,abp,exI,exU,exB,adP,exP,exF,exM,alI,alU,alB,adA,alP,alF,alM,cU8,z0,z1,tb,abq,b1,b2,b3,b4,b5,b6,Zw,Zx,adN,adM,adL,abr,abv,rg1,rg2,rg3,rg4,rg5,rg6,rg7,uh,aaQ.eq_def,exQ,alQ,Sh.zero.eq_8,Sh.ty.eq_8,Sh.mk.eq_8];exact Tg.lf _) (by refine Tg.pm.trans ?_;dsimp -zeta+instances only[↓XC,ile,↓adV,nze,nce,LD,SG,Sh.ty,Int.cast_ofNat_Int]);trivial)
 (j:X=YN dO TBL GL A n e c a m R:=by kernel_rfl)
 :X->bK dO f g m R:=λh=>by
 subst o
 exact xY Q0 gok mix k (vv Prod.fst d) (vv (λx=>x.2.1) d) (vv (λx=>x.2.2) d) i (oU l) hd (j▸h)
def afp(m:bh)(R:aj)(A:TX)(a:aB){f:FuncId}{b:Go.Func}{X:Prop}{c:Code}{n:Nat}{e:ay}{g:ap}(k:dO.funcs[f]? =some b)
 (d:(b.body,b.ntmps,b.results)=(some c,n,Array.mk e):=by cbv)
 (i:a.all SV.mS=true:=by kernel_rfl)(l:Nat.ble a.length n=true:=by kernel_rfl)(hd:uo c=true:=by kernel_rfl)
 (o:a.map SV.v=g:=by dsimp only[List.map,cI,cS,cP,SV.v,Ce.v])
 (w:Wi (YN dO TBL GL A n e c a m R) X->True:=by intro w;obtain - :=mkT w (by sym -abstractProof=>simp[gel,A0.eq_1,cI.eq_1,cS.eq_1,cP.eq_1,tg0,tg3,tg4,tg5,ad9,aea,aeb,aec,aed,aee,aef,aeg,aeh,aei,aej,aek,ael,aem,aen,aeo,aep,aeq,aer,aes,aet,aeu,aev,aew,aex,aey,aez,aeA,aeB,aeC,aeD,aeE,abR,abS,abT,abU,abV,abW,abX,abY,abZ,ab0,ab1,ab2,ab3,ab4,ab5,ab6,ab7,ab8,ab9,aca,acb,acd,ace,acf,acg,ach,aci,acj,ack,acm,acn,aco,acp,acq,acr,acs,acu,acv,acw,acx,acy,acz,acA,acB,acC,nbq,nbl,nbt,atl,o1,o2,o3,o5,o6,a2,a3,a4,t1,t2,t3,g1,g2,eK,ji,eS,iA,SD,List.all_nil,dy,kT,List.elem_cons,Bool.true_and,Bool.false_and,abi,abg,Bool.true_or,abh,aam,Bool.and_true,vx,Option.map_none,ni,vU,Vw,List.flatMap_nil,List.isEmpty_cons,List.isEmpty_nil,List.any_cons,Vv,mC,RP,yI.eq_1,yI.eq_2,vc.eq_1,vc.eq_4,vc.eq_6,vc.eq_7,vc.eq_8,yQ.eq_def,orT.eq_def,orB.eq_def,uP.eq_1,uP.eq_2,Qo.eq_def,eqK.eq_1,eqK.eq_2,yJ.eq_1,HN.eq_1,HN.eq_2,eO.eq_1,tW.eq_1,tW.eq_2,tj.eq_def,rI.eq_1,rI.eq_2,Ug.eq_1,Uf.eq_1,SL.eq_1,SL.eq_2,LH.eq_1,LH.eq_2,Wg.eq_def,lkH.eq_1,HQ.eq_def,lk.eq_1,lk.eq_2,sO.eq_1,If.eq_1,If.eq_2,tR.eq_def,Bd.eq_def,nQ.eq_1,sk.eq_1,sk.eq_2,oN.eq_1,ys.eq_1,ys.eq_2,ys.eq_3,wm.eq_1,DY.eq_1,DY.eq_2,gd.eq_1,gd.eq_2,PT.eq_1,vZ.eq_1,vZ.eq_2,PY.eq_def,wr.eq_1,wr.eq_2,wr.eq_4,wr.eq_6,wr.eq_8,wr.eq_9,wr.eq_10,wr.eq_11,Bu.eq_1,Bu.eq_2,Yq.eq_1,exC.eq_1,Ra.eq_def,EF.eq_def,rd.eq_1,rd.eq_2,rd.eq_3,rd.eq_4,rd.eq_5,rd.eq_6,rd.eq_7,rd.eq_8,rd.eq_9,rd.eq_10,rd.eq_11,rd.eq_12,rd.eq_13,rd.eq_15,YT.eq_def,abw,abx,aby,R8.eq_1,Lu.eq_1,Lu.eq_2,Tb.eq_1,Rv.eq_1,Rv.eq_2,zt.eq_1,zt.eq_2,J2.eq_1,J2.eq_2,qO.eq_1,qO.eq_2,qO.eq_3,qO.eq_4,qO.eq_5,SV.cells.eq_def,unO.eq_def,aaP.eq_def,aaz.eq_def,vB.eq_1,vB.eq_2,vB.eq_3,vB.eq_6,vB.eq_7,vB.eq_8,vB.eq_9,vB.eq_10,vB.eq_11,vB.eq_12,abA,abC,ldC.eq_1,Mh.eq_1,Mh.eq_2,Mh.eq_3,oK.eq_def,SV.mS.eq_def,TI.yO.eq_1,TI.agg.eq_1,Sh.zero.eq_1,Sh.zero.eq_2,Sh.zero.eq_3,Sh.zero.eq_4,Sh.zero.eq_5,Sh.zero.eq_6,Sh.zero.eq_7,ev.eq_1,ev.eq_2,ev.eq_3,ev.eq_4,J6.eq_def,tD.eq_1,tD.eq_2,nL.eq_1,nL.eq_3,nL.eq_4,nL.eq_5,nL.eq_6,nL.eq_7,ym.eq_1,ym.eq_2,SV.nb.eq_def,kK.eq_1,kK.eq_2,AV.sv.eq_1,AV.sv.eq_2,SV.v.eq_1,SV.v.eq_2,SV.v.eq_3,SV.v.eq_4,SV.v.eq_5,SV.v.eq_6,SV.v.eq_7,SV.v.eq_8,SV.v.eq_9,AV.v.eq_1,AV.v.eq_2,Ce.v.eq_1,Ce.v.eq_2,Ce.v.eq_3,Ce.v.eq_4,Ce.v.eq_5,Ce.v.eq_6,Ce.v.eq_7,Ce.v.eq_8,Ce.v.eq_9,Ce.v.eq_10,Ce.v.eq_11,Ce.v.eq_12,Ce.v.eq_13,Br.eq_1,Br.eq_2,Zz.eq_1,J7.eq_def,kH.eq_1,kH.eq_2,LD.eq_1,LD.eq_2,SG.eq_1,SG.eq_2,Sh.ty.eq_1,Sh.ty.eq_2,Sh.ty.eq_3,Sh.ty.eq_4,Sh.ty.eq_5,Sh.ty.eq_6,Sh.ty.eq_7,Sh.mk.eq_1,Sh.mk.eq_2,Sh.mk.eq_3,Sh.mk.eq_4,Sh.mk.eq_5,Sh.mk.eq_6,Sh.mk.eq_7,Pw.eq_1,SV.ces.eq_def,AV.ces.eq_1,AV.ces.eq_2,KI.eq_1,pmG.eq_1,pmG.eq_2,Zh.eq_1,Zh.eq_2,kld.eq_1,klc.eq_1,kxc.eq_1,kxs.eq_1,krc.eq_1,kal.eq_1,kam.eq_1,pa.eq_1,p3.eq_1,p2.eq_1,Xw.eq_1,aaM.eq_1,khi.eq_1,klo.eq_1,kav.eq_1,kxt.eq_1,krt.eq_1,krs.eq_1,aaN.eq_1,kbs.eq_1,kcp.eq_1,kw.eq_1,kr.eq_1,ky.eq_1,kn.eq_1,dr1.eq_1,dry.eq_1,drn.eq_1,dr2.eq_1,dwy.eq_1,dra.eq_1,kq.eq_1,ks.eq_def,kc.eq_def,ki.eq_1,kb.eq_def,ke.eq_def,kl.eq_1,kR.eq_def,kx.eq_1,kz.eq_1,kf.eq_def,SJ.eq_1,adK,Zu,Xq,Xn,abt,abu,abD,Zr,adH,Zs,abz,Zt,Zp,Zq,abB,abE,Xm,Zv,Xo,Xp,adJ,adI,abo,abp,exI,exU,exB,adP,exP,exF,exM,alI,alU,alB,adA,alP,alF,alM,cU8,z0,z1,tb,abq,b1,b2,b3,b4,b5,b6,Zw,Zx,adN,adM,adL,abr,abv,aaQ.eq_def,exQ,alQ,Sh.zero.eq_8,Sh.ty.eq_8,Sh.mk.eq_8];simp[eK,ji,uh,Qy.eq_1,Qy.eq_2,rg1,rg2,rg3,rg4,rg5,rg6,rg7];exact Tg.lf _) (by refine Tg.pm2.trans ?_;dsimp -zeta+instances only[↓XC,ile,↓adV,nze,nce,LD,SG,Sh.ty,Int.cast_ofNat_Int]);trivial)
 (j:X=YN dO TBL GL A n e c a m R:=by kernel_rfl)
 :X->bK dO f g m R:=λh=>by
 subst o
 exact xY Q0 gok mix k (vv Prod.fst d) (vv (λx=>x.2.1) d) (vv (λx=>x.2.2) d) i (oU l) hd (j▸h)
end
section
open Tryz
variable{m:bh}{R:aj}
variable{a b p d e f g h r u v w x y z B:E}{i j k l q o s t C D F G H I J K:Int}
def BC(a:E):=eN m R A0 [a] func7
def Iv(a:E):=eN m R ⟨[(4,[])],[],[(4,[49,47])]⟩ [.agg [a,b],i] func8
def IZ(a:E):=eN m R A0 [.agg [a,b],i] func9
def Aj(i:Int):=eN m R A0 [.agg [i,j,k,a],.agg [l,q,o,b]] func10
def Gw(a:E):=eN m R ⟨[(4,[(12,.I)])],[],[(4,[25])]⟩ [.agg [a,b]] func11
def CK(a:E):=eN m R A0 [.agg [a,b],i] func17
def Gv(a:E):=eN m R ⟨[(5,[(9,.I)])],[(4,[(8,.P)])],[(4,[50,48,47]),(5,[50,48,47])]⟩ [.agg [a,b],.agg [i,j,k,l,p,d,e],q] func18
def Kf(a:E):=eN m R ⟨[(6,[(28,.I)])],[],[(6,[43])]⟩ [.agg [a,b],i,j] func19
def yv(a:E):=eN m R A0 [a] func23
def CL(a:E):=eN m R ⟨[(5,[(20,.I)]),(13,[(66,.I)])],[(12,[])],[(5,[82,80]),(12,[85,82,80]),(13,[85,82,80])]⟩ [.agg [a,b]] func24
def Gz(a:E):=eN m R ⟨[(3,[(3,.I),(8,.I)])],[],[]⟩ [a] func25
def CX(a:E):=eN m R A0 [.agg [a,b],i] func26
def Ab(p:ai):=eN m R ⟨[],[(5,[(4,.T)])],[(5,[91])]⟩ [p] func27
def Dx(a:E):=eN m R ⟨[(4,[(3,.I)])],[],[(4,[30])]⟩ [.agg [a,b]] func28
def Jm(i:Int):=eN m R A0 [i,j,k] func29
def Fp(i:Int):=eN m R A0 [.agg [i,j,k,l,a,b,p]] func30
def Jh(a:E):=eN m R A0 [.agg [a,b],i] func31
def Et(a:E):=eN m R ⟨[(4,[(5,.I)])],[],[]⟩ [a,b] func32
def Ku(a:E):=eN m R ⟨[(5,[(50,.I)]),(10,[(71,.I)]),(19,[(115,.I)])],[(3,[(8,.P)]),(4,[(9,.P)])],[(3,[138,134]),(4,[138,134]),(5,[138,134]),(10,[138,134]),(19,[138,134])]⟩ [.agg [a,b],i] func33
def CM(a:E):=eN m R A0 [.agg [a,b],.agg [i,j,k,l,p,d,e]] func39
def CP(i:Int):=eN m R ⟨[(3,[(20,.I)])],[],[(3,[52,53])]⟩ [.agg [i,j,k,l,a,b,p]] func40
def IH(a:E):=eN m R A0 [.agg [a,b],i,j] func41
def CO(a:E):=eN m R ⟨[(4,[(14,.I)]),(9,[(56,.I)]),(15,[(76,.I)])],[(8,[])],[(8,[110]),(9,[110]),(15,[110])]⟩ [a] func42
def Kk(a:E):=eN m R ⟨[(6,[(6,.S),(28,.I)])],[],[]⟩ [a,i] func43
def Fj(a:E):=eN m R A0 [a] func44
def GO(p:ai):=eN m R A0 [p] func45
def Hx(p:ai):=eN m R A0 [p] func46
def Ek(a:E):=eN m R ⟨[(5,[(18,.I)])],[],[(5,[43,42])]⟩ [.agg [a,b]] func47
def tI(a:E):=eN m R ⟨[(6,[(88,.I)])],[(5,[])],[(5,[147,146,145,144]),(6,[147,146,145,144])]⟩ [.agg [a,b],.agg [p,d,i,j,e],k,.agg [l,q,o,s,f,g]] func48
def GF(a:E):=eN m R A0 [.agg [a,b],i,j] func49
def Bn(p q:ai):=eN m R ⟨[(4,[(28,.I)]),(14,[(65,.I)])],[(13,[])],[(4,[212,211]),(13,[212,211]),(14,[212,211])]⟩ [p,q,.agg [i,j,k,l,a,b]] func50
def CU(p q:ai):=eN m R ⟨[(3,[(24,.I)])],[],[(3,[353])]⟩ [p,q,.agg [i,j,k,l,a,b]] func51
def FJ(a:E):=eN m R ⟨[(4,[(3,.I)])],[],[(4,[65])]⟩ [.agg [a,b]] func52
def BY(a:E):=eN m R ⟨[(3,[(4,.I)])],[],[(3,[37,36])]⟩ [.agg [a,b]] func53
def FI(a:E):=eN m R ⟨[(5,[(6,.I)])],[],[(5,[62,61])]⟩ [.agg [a,b],.agg [p,d,i,j,e]] func54
def rH(a:E):=eN m R A0 [a] func55
def Dw(a:E):=eN m R A0 [.agg [a,b],i] func56
def BR(p:ai):=eN m R ⟨[(2,[(5,.I)])],[],[]⟩ [p,i] func57
def xt(m:bh)(R:aj):Prop:=
 let a:bh:=m.push (.cells (db [.i (0:Int),.i (0:Int),.t false,.i (0:Int),.i (0:Int),.i (0:Int)]) 86)
 OW m.size m.size (
 let b:bh:=aV a m.size 0 [.i (-1:Int),.i (0:Int),.t false,.i (-1:Int),.i (-1:Int),.i (-1:Int)]
 OW m.size m.size (
 R (.agg #[vi (-1:Int),vi (0:Int),vb false,vi (-1:Int),vi (-1:Int),vi (-1:Int)]) b))
def CZ(m:bh)(R:aj)(a:xt m R):bK dO 58 [] m R:=
 xY (o:=⟨[],[],[]⟩) (d:=2) (r:=[.cell 0 86]) (a:=[]) Q0 gok mix Tryz.func58 (m:=Pw Tryz.f58) (by kernel_rfl) (by kernel_rfl) (by kernel_rfl) (by kernel_rfl) bO (by kernel_rfl) (Eq.mp (by kernel_rfl) a)
def vh(a:E):=eN m R A0 [a,i] func59
def ug(p:ai):=eN m R ⟨[(7,[(41,.I)])],[(2,[(5,.Q),(6,.P)])],[]⟩ [p,i] func60
def xF(a:E):=eN m R A0 [a] func62
def AG(p:ai):=eN m R A0 [p] func66
def CY(a:E):=eN m R ⟨[(10,[(95,.I)]),(20,[(158,.I)])],[(3,[]),(16,[]),(24,[])],[(3,[191,190]),(10,[191,190]),(16,[197,191,190]),(20,[191,190]),(24,[191,190])]⟩ [.agg [a,b],.agg [i,j,k,l,p,d,e]] func68
def Eh(a:E):=eN m R ⟨[(3,[(10,.I)])],[],[]⟩ [a] func69
def pY(a:E):=eN m R A0 [a] func70
def Ko(a:E):=eN m R A0 [a,i] func71
def Gx(a:E):=eN m R ⟨[(2,[(9,.I)])],[],[]⟩ [a,b] func72
def EZ(p:ai):=eN m R A0 [p] func73
def BU(p:ai):=eN m R A0 [p,i] func74
def EL(p:ai):=eN m R ⟨[(3,[(6,.I)])],[],[(3,[57,56,55])]⟩ [p,.agg [a,b]] func75
def Du(p:ai):=eN m R A0 [p,.agg [a,b],i] func76
def Ds(p:ai):=eN m R A0 [p,a] func77
def Em(a:E):=eN m R ⟨[(4,[(39,.I)]),(9,[(64,.I)])],[],[(9,[108])]⟩ [a,b] func78
def Af(i:Int):=eN m R A0 [i] func79
def sI(p q:ai):=eN m R A0 [i,p,q] func80
def tm(s:E)(f:Fn×Array Value×Array Value):=eN m R A0 [s,.c (.fv f)] func81
def sJ(p:ai):=eN m R A0 [i,p] func82
def uy(b c:E)(d e f g:Int)(h i:E)(a:Fn×Array Value×Array Value):=eN m R A0 [.agg [b,c],.agg [d,e,f,g,h,i],.c (.fv a)] func83
def vF(a:E):=eN m R A0 [.agg [a,b],.agg [i,j,k,l,p,d]] func84
def wB(p:ai):=eN m R ⟨[(15,[(4,.S),(5,.S),(31,.I)])],[],[(15,[62])]⟩ [p,.agg [i,j,k,l,a,b]] func85
def yo(p:ai):=eN m R A0 [p,i] func86
def zl(p:ai):=eN m R A0 [i,p] func87
def Iz(a:E):=eN m R A0 [a] func88
def wD(p q:ai):=eN m R A0 [p,q,.agg [i,j,k,l,a,b]] func89
def uX(p q:ai):=eN m R ⟨[(14,[(10,.S),(74,.I)])],[],[(14,[125,121])]⟩ [p,q,.agg [i,j,k,l,a,b]] func90
def xk(p q:ai):=eN m R A0 [p,q,.agg [i,j,k,l,a,b]] func91
def Ee(p:ai):=eN m R A0 [p,i,j,k] func92
def vE(p q:ai):=eN m R A0 [p,q,.agg [i,j,k,l,a,b]] func93
def zj(p:ai):=eN m R A0 [p,i,a] func94
def Bh(p:ai):=eN m R ⟨[(3,[(13,.I)])],[],[]⟩ [p,a] func95
def Ei(p:ai):=eN m R ⟨[(1,[(4,.S)])],[],[]⟩ [p,i] func96
def Aa(p q:ai):=eN m R ⟨[(5,[(39,.I)])],[],[(5,[58])]⟩ [p,q,.agg [i,j,k,l,a,b]] func97
def Ae(i:Int):=eN m R A0 [i] func98
def xH(a:E):=eN m R ⟨[(2,[(8,.I)])],[],[]⟩ [a,i] func99
def zZ(c:ai):=eN m R ⟨[(9,[(63,.I)])],[(7,[(9,.I)])],[(7,[111]),(9,[114,111])]⟩ [c,i,a,.agg [j,k,l,q,b,p]] func100
def zk(a:ai)(w:Int)(fQ:Bool):=eN m R ⟨[(13,[(69,.I)])],[(5,[])],[]⟩ [a,w,.c (.t fQ)] func101
def wC(p:ai):=eN m R A0 [p,i] func102
def DA(a:E):=eN m R ⟨[(4,[(3,.I)])],[],[]⟩ [a] func103
def GM(a:E):=eN m R ⟨[(2,[(5,.I)])],[],[]⟩ [a,b] func104
def FH(a:E):=eN m R ⟨[(2,[(5,.I)])],[],[]⟩ [a,b] func105
def Dy(a:E):=eN m R ⟨[(4,[(9,.I)])],[(10,[])],[(4,[241,238,237]),(10,[241,238,237])]⟩ [.agg [a,b],.agg [p,d,i,j,e],k] func106
def Jk(a:E):=eN m R A0 [.agg [a,b],i,j,p,d] func107
def Bm(p:ai):=eN m R A0 [p] func108
def uZ(p q:ai):=eN m R ⟨[(6,[(49,.I)])],[(10,[])],[(6,[80]),(10,[80])]⟩ [p,q,.agg [i,j,k,l,a,b]] func109
def yr(p q:ai):=eN m R A0 [p,q,.agg [i,j,k,l,a,b]] func110
def Bi(i:Int):=eN m R A0 [.agg [i,j,k,l,a,b],q] func111
def yp(p q:ai):=eN m R A0 [p,q,i] func112
def KZ(i:Int):=eN m R A0 [i] func115
def Hp(i:Int):=eN m R ⟨[(3,[(6,.I)])],[],[(3,[42])]⟩ [.agg [i,j,k,a,b,p],d] func116
def JD(a:E):=eN m R ⟨[(4,[(5,.S),(6,.I)])],[(3,[(30,.T)])],[(3,[70,69]),(4,[70,69])]⟩ [.agg [a,b],.agg [i,j,k,l,p,d]] func117
def yA(c:ai):=eN m R ⟨[],[(3,[])],[(3,[226,225])]⟩ [c,.agg [i,j,k,a,b,p],.agg [l,q,o,s,d,e],f] func118
def xL(c:ai):=eN m R A0 [c,.agg [i,j,k,a,b,p],.agg [l,q,o,s,d,e]] func119
def LX(i:Int):=eN m R A0 [i] func122
def Bj(a:E):=eN m R ⟨[(3,[(26,.I)]),(8,[(37,.I)]),(21,[(12,.S),(73,.I)]),(28,[(12,.S),(13,.I)]),(33,[(12,.S),(127,.I)])],[(17,[])],[(8,[165]),(33,[175])]⟩ [a] func123
def Ag(i:Int):=eN m R A0 [i] func124
def CQ(a:E):=eN m R ⟨[(7,[(63,.I)])],[],[(7,[97,95,94])]⟩ [.agg [a,b],.agg [i,j,k,p,d,e]] func125
def Bg(i:Int):=eN m R ⟨[(2,[(17,.I)])],[(9,[])],[(2,[82]),(9,[82])]⟩ [.agg [i,j,k,a,b,p],d,e,f] func126
def qP(a:E):=eN m R A0 [a] func127
def Jj(a:E):=eN m R ⟨[(3,[(4,.I)])],[],[(3,[75,74])]⟩ [.agg [a,b]] func128
def Ar(p:ai):=eN m R ⟨[],[(4,[]),(6,[]),(9,[]),(11,[])],[(4,[37]),(6,[37]),(9,[37]),(11,[37])]⟩ [p] func129
def FD(a:E):=eN m R ⟨[(3,[(4,.I)])],[],[(3,[45,44])]⟩ [.agg [a,b]] func130
def ER(a:E):=eN m R ⟨[(3,[(4,.I)]),(8,[(6,.S),(7,.I)])],[],[(3,[62,61]),(8,[65,62,61])]⟩ [.agg [a,b]] func131
def EK(p:ai):=eN m R A0 [p,.agg [i,j,k,l,a,b]] func132
def wO(p:ai):=eN m R A0 [p,a] func133
def GN(p:ai):=eN m R A0 [p] func134
def Dv(p:ai):=eN m R A0 [p,.agg [i,j,k,l,a,b]] func135
def uB(s:E)(f:Fn×Array Value×Array Value):=eN m R ⟨[(2,[(8,.I)])],[],[]⟩ [s,.c (.fv f)] func136
def GD(a:E):=eN m R A0 [a,i] func137
def Kp(a:E):=eN m R A0 [a,i] func138
def Ef(i:Int):=eN m R A0 [i] func139
def rU(e:ai)(i:Int)(n:Int)(c:E)(m:bh)(R:aj):Prop:=
 let k:bh:=m.push (.cells (db [.i i,.i n,.s c]) 57)
 OW m.size m.size (
 ((i==(1:Int))=true->
 R (vb true) k)/\
 ((i==(1:Int))=false->
 let v:bh:=k.push (.map #[] 0)
 OW m.size m.size (
 ∃(o:Int->bh->Prop)(μ0:Int->bh->Nat),
 o (0:Int) v/\
 (∀(b:Int)(f:bh),o b f->
 ((decide (b<(c.len:Int)))=true->
 (0:Int)<=b/\b<(c.len:Int)/\
 ∃t:Int,aS f c.bu (c.off+Int.toNat b*1)=some (vi t)/\
 ∃u:E,aS f e.1 (e.2+3+5)=some (E.v u)/\
 bK dO 138 [E.v u,vi t] f λw g=>
 gS [m.size] f g/\
 ∃d:Int,∃q:Bool,w=.tuple #[vi d,vb q]/\
 (q=true->
 ∃l,HY g k.size l/\
 ∃s,HY g k.size s/\
 ∀a:bh,HY a k.size (Oe s d (eI ((zr l d)+(1:Int))))->a.size=g.size->(∀j,j≠k.size->a[j]? =g[j]?)->
 gS [m.size] g a/\
 ∃h:E,aS a e.1 (e.2+3+5)=some (E.v h)/\
 (0:Int)<=d/\d<(h.len:Int)/\
 ∃r:Int,aS a h.bu (h.off+Int.toNat d*3)=some (vi r)/\
 ∃p,HY a k.size p/\
 aS a h.bu (h.off+Int.toNat d*3)=aS a h.bu (h.off+Int.toNat d*3)/\
 aS a e.1 (e.2+3+5)=aS a e.1 (e.2+3+5)/\
 ((decide ((eI (r+(zr p d)))>(999999:Int)))=true->
 R (vb false) a)/\
 ((decide ((eI (r+(zr p d)))>(999999:Int)))=false->
 eqS (SV.box m.size 57 [.i i,.i n,.s c]) (SV.box m.size 57 [.i i,.i n,.s c]) (
 o (eI (b+(1:Int))) a/\μ0 (eI (b+(1:Int))) a<μ0 b f)))/\
 (q=false->
 eqS (SV.box m.size 57 [.i i,.i n,.s c]) (SV.box m.size 57 [.i i,.i n,.s c]) (
 o (eI (b+(1:Int))) g/\μ0 (eI (b+(1:Int))) g<μ0 b f)))/\
 ((decide (b<(c.len:Int)))=false->
 R (vb true) f)))))
def wE(a:ai)(b:Int)(d:Int)(e:E)(m:bh)(R:aj)(f:rU a b d e m R):bK dO 140 [vp a.1 a.2,.agg #[vi b,vi d,E.v e]] m R:=
 xY (o:=⟨[(5,[(17,.I)])],[],[(5,[54])]⟩) (d:=51) (r:=[.tmp 4]) (a:=[.c (.p a.1 a.2),.agg [.i b,.i d,.s e]]) Q0 gok mix Tryz.func140 (m:=Pw Tryz.f140) (by kernel_rfl) (by kernel_rfl) (by kernel_rfl) (by kernel_rfl) bO (by kernel_rfl) (Eq.mp (by kernel_rfl) f)
def xG(a:E):=eN m R ⟨[(4,[(13,.I)])],[],[]⟩ [a,b] func141
def CW(a:E):=eN m R ⟨[(3,[(3,.S),(8,.I)])],[],[]⟩ [a] func142
def NX(i:Int):=eN m R A0 [i,j,k] func143
def CR(p:ai):=eN m R A0 [p,i,a] func144
def Ej(p:ai):=eN m R ⟨[(1,[(2,.I)])],[],[]⟩ [p] func145
def FF(a:E):=eN m R ⟨[(6,[(6,.I)]),(12,[(7,.I)])],[],[(6,[105]),(12,[105])]⟩ [a,i] func146
def OM(i:Int):=eN m R A0 [i] func147
def Jd(a:E):=eN m R ⟨[(2,[(5,.I)])],[],[]⟩ [a,i] func148
def vj(a:E):=eN m R A0 [a,i] func149
def Hq(a:E):=eN m R A0 [.agg [a,b],i,j,k] func150
def yT(a:E):=eN m R ⟨[(5,[(5,.S),(6,.I)])],[],[]⟩ [a,i] func151
def Dz(a:E):=eN m R ⟨[(4,[(9,.I)])],[],[]⟩ [a,i,j,k] func152
def Nc(i:Int):=eN m R A0 [i] func153
def od(a:E):=eN m R A0 [a] func154
def Bl(p:ai):=eN m R ⟨[(1,[(1,.I)])],[],[]⟩ [p,i] func155
def CT(p:ai):=eN m R A0 [p,i] func156
def zo(p q:ai):=eN m R ⟨[(7,[(10,.S),(62,.I)]),(17,[(110,.I)])],[(5,[])],[(5,[156,153]),(7,[156,153]),(17,[156,153])]⟩ [p,q,.agg [i,j,k,l,a,b]] func157
def El(p:ai):=eN m R ⟨[(6,[(47,.I)])],[],[]⟩ [p,i,j,k] func158
def zn(p q:ai):=eN m R A0 [p,q,.agg [i,j,k,l,a,b]] func159
def Ai(p q:ai):=eN m R ⟨[(3,[(24,.I)]),(21,[(12,.S),(101,.I)]),(30,[(147,.I)])],[(17,[(10,.I),(11,.T)]),(29,[(12,.S)])],[(3,[166]),(17,[166]),(21,[166]),(29,[166]),(30,[166])]⟩ [p,q,.agg [i,j,k,l,a,b]] func160
def CS(p q:ai):=eN m R ⟨[(4,[(23,.I)])],[(11,[]),(13,[]),(15,[])],[(11,[121]),(13,[121]),(15,[121])]⟩ [p,q] func161
def Fc(i:Int):=eN m R A0 [i] func162
def wh(i:Int):=eN m R A0 [i] func163
def Jr(a:E):=eN m R A0 [.agg [a,b],.agg [i,j,k,l,p,d],q] func164
def AI(a:E):=eN m R ⟨[(2,[(3,.I)])],[],[]⟩ [a] func165
def Df(i:Int):=eN m R ⟨[(2,[(5,.I)])],[],[(2,[26,25])]⟩ [.agg [i,j,k,a,b,p],.agg [l,q,o,s,d,e]] func166
def wM(c:ai):=eN m R A0 [c,.agg [i,j,k,a,b,p],.agg [l,q,o,s,d,e]] func167
def wK(c:ai):=eN m R ⟨[(2,[(7,.I)])],[],[(2,[51,50])]⟩ [c,.agg [i,j,k,a,b,p],.agg [l,q,o,s,d,e]] func168
def I8(a:E):=eN m R ⟨[(2,[(3,.I)])],[],[]⟩ [a] func169
def wL(p:ai):=eN m R A0 [p,i] func170
def La(a:E):=eN m R A0 [a,i] func171
def yz(p:ai):=eN m R A0 [p,i] func172
def xK(c:ai):=eN m R A0 [c,.agg [i,j,k,a,b,p],.agg [l,q,o,s,d,e]] func173
def Ov(a:E):=eN m R ⟨[(2,[(5,.I)])],[],[]⟩ [a,i] func174
def yC(p:ai):=eN m R A0 [p,i,j] func175
def OI(i:Int):=eN m R A0 [i,j,k] func176
def vP(c:ai):=eN m R ⟨[],[(5,[(8,.I)])],[(5,[75,74])]⟩ [c,.agg [i,j,k,a,b,p],.agg [l,q,o,s,d,e],t] func177
def GZ(a:E):=eN m R ⟨[(3,[(3,.I),(4,.I)])],[],[]⟩ [a] func178
def zD(c:ai):=eN m R ⟨[],[(10,[(6,.I),(7,.S)])],[(10,[128,127])]⟩ [c,.agg [i,j,k,a,b,p],.agg [l,q,o,s,d,e]] func179
def zE(c:ai):=eN m R A0 [c,.agg [i,j,k,a,b,p],l] func180
def zG(p:ai):=eN m R ⟨[(1,[(4,.I)])],[],[]⟩ [p,a] func181
def sZ(p:ai):=eN m R A0 [p,i] func182
def EW(a:E):=eN m R ⟨[(2,[(5,.S)])],[],[]⟩ [a,b] func183
def wN(c:ai):=eN m R ⟨[(4,[(8,.I)])],[],[(4,[111,110])]⟩ [c,.agg [i,j,k,a,b,p],.agg [l,q,o,s,d,e]] func184
def yB(p:ai):=eN m R A0 [p,i,j] func185
def Hb(a:E):=eN m R ⟨[(3,[(5,.I),(6,.I)])],[],[]⟩ [a,i] func186
def Eg(a:E):=eN m R ⟨[(6,[(48,.I)])],[(5,[])],[(5,[69]),(6,[69])]⟩ [a,.agg [i,j,b]] func187
def EQ(a:E):=eN m R ⟨[(3,[(3,.S),(4,.I)]),(7,[(5,.S),(6,.I)])],[],[]⟩ [a] func188
def BT(i:Int):=eN m R ⟨[(3,[(5,.S),(6,.I)])],[],[]⟩ [i,j] func189
def zA(c:ai):=eN m R ⟨[(2,[(3,.S),(4,.S),(10,.I)])],[(17,[])],[(2,[104,103]),(17,[108,104,103])]⟩ [c,.agg [a,b],.agg [p,i],d,e] func190
def BJ(p:ai):=eN m R A0 [p,.agg [i,j,k,l,a,b]] func191
def Lg(a:E):=eN m R ⟨[(3,[(5,.I),(6,.I)]),(7,[(5,.I),(7,.I)])],[],[]⟩ [a,i] func192
def BG(p:ai):=eN m R A0 [p] func193
def Ot(p:ai):=eN m R ⟨[(9,[(10,.S),(11,.I)])],[],[(9,[108,106,105])]⟩ [p,.agg [a,b]] func194
def EN(a:E):=eN m R ⟨[(3,[(4,.I)])],[],[(3,[38,37])]⟩ [.agg [a,b]] func195
def BZ(a:E):=eN m R ⟨[(3,[(4,.I)])],[],[(3,[40,39])]⟩ [.agg [a,b]] func196
def Li(a:E):=eN m R ⟨[(3,[(4,.I)])],[],[(3,[40,39])]⟩ [.agg [a,b]] func197
def HA(a:E):=eN m R ⟨[(3,[(3,.S),(4,.I)])],[],[]⟩ [a] func198
def vm(i:Int):=eN m R A0 [.agg [i,j,k,l,a,b]] func199
def EY(p:ai):=eN m R A0 [p] func200
def QF(a:E):=eN m R A0 [a] func201
def LU(a:E):=eN m R ⟨[(2,[(1,.I),(10,.I)])],[],[(2,[43])]⟩ [a,i] func202
def pD(s:E)(f:Fn×Array Value×Array Value):=eN m R ⟨[(2,[(8,.I)])],[],[]⟩ [s,.c (.fv f)] func203
def zY(i:Int):=eN m R A0 [.agg [i,j,a]] func204
def Jg(i:Int):=eN m R A0 [i] func205
def tJ(a:E):=eN m R A0 [.agg [a,b],i,j,p] func206
def xu(p c:ai):=eN m R ⟨[],[(2,[(16,.T)]),(7,[])],[(2,[72]),(7,[72])]⟩ [p,c,.agg [i,j,k,l,a,b],q] func207
def vQ(p:ai):=eN m R ⟨[(2,[(5,.I)]),(6,[(6,.I),(7,.I)])],[],[]⟩ [p,a] func208
def Dr(a:E):=eN m R ⟨[(3,[(3,.S),(4,.I)])],[],[]⟩ [a] func209
def Ht(a:E):=eN m R ⟨[(4,[(5,.I)])],[],[]⟩ [a,b] func210
def JL(i:Int):=eN m R ⟨[(3,[(5,.S),(6,.I)])],[],[(3,[28])]⟩ [.agg [i,j,k,a,b,p],d] func211
def MA(i:Int):=eN m R A0 [i] func212
def EX(a:E):=eN m R ⟨[(2,[(3,.I)])],[],[]⟩ [a] func213
def MU(a:E):=eN m R A0 [a,i,j,b] func214
def yW(a:E):=eN m R A0 [a,b] func215
def yD(p:ai):=eN m R A0 [p,i] func216
def OR(a:E):=eN m R ⟨[(2,[(3,.I)])],[],[]⟩ [a] func217
def vr(c:ai):=eN m R ⟨[(3,[(7,.S),(8,.I)])],[],[(3,[42])]⟩ [c,.agg [i,j,k,l,a,b],p] func218
def Ep(a:E):=eN m R A0 [a,i] func219
def yx(c:ai):=eN m R ⟨[(17,[(16,.S),(17,.S),(18,.I)]),(22,[(20,.I)]),(33,[(23,.I)])],[],[(17,[215,214]),(22,[215,214]),(33,[215,214])]⟩ [c,.agg [a,b],.agg [i,j,k,p,d],e,f] func220
def He(a:E):=eN m R ⟨[(3,[(5,.S),(6,.I)])],[],[]⟩ [a,i] func221
def Ft(p:ai):=eN m R A0 [p] func222
def Jf(a:E):=eN m R ⟨[(3,[(4,.I)])],[],[(3,[38,37])]⟩ [.agg [a,b]] func223
def Oz(a:E):=eN m R ⟨[(3,[(4,.I)])],[],[(3,[41,40])]⟩ [.agg [a,b]] func224
def BL(a:E):=eN m R ⟨[(5,[(9,.I)])],[],[(5,[67])]⟩ [.agg [a,b],i,j] func225
def AA(p:ai):=eN m R ⟨[(1,[(1,.I)])],[],[]⟩ [p,i] func226
def Jx(a:E):=eN m R A0 [.agg [a,i],j,.agg [k,l,q,b,p]] func227
def G9(i:Int):=eN m R A0 [i,j] func228
def Cd(a:E):=eN m R A0 [.agg [a,b],i,.agg [p,j]] func229
def HD(a:E):=eN m R A0 [.agg [a,b,i,p,j],.agg [d,k]] func230
def BE(a:E):=eN m R ⟨[(4,[(3,.S),(4,.S),(5,.I)]),(13,[(7,.S),(8,.I)])],[],[(4,[74,73]),(13,[78,74,73])]⟩ [.agg [a,i]] func231
def AK(a:E):=eN m R ⟨[(3,[(2,.I),(8,.I)]),(9,[(10,.S),(12,.I)])],[],[(3,[113,111,110]),(9,[116,113,111,110])]⟩ [.agg [a,b],.agg [p,i],j] func232
def Dt(a:E):=eN m R ⟨[(3,[(8,.I)]),(8,[(10,.S),(11,.I)])],[],[(3,[67,65,64]),(8,[70,67,65,64])]⟩ [.agg [a,b],.agg [p,i],d] func233
def Fv(a:E):=eN m R ⟨[(1,[(1,.I),(2,.I)])],[],[]⟩ [a,i,j] func234
def IA(a:E):=eN m R A0 [a,i] func235
def IC(a:E):=eN m R ⟨[(2,[(11,.I)])],[],[]⟩ [a,i,j] func236
def mU(s:E)(f:Fn×Array Value×Array Value):=eN m R A0 [s,.c (.fv f)] func237
end
end Go.Proofs.YtbbbdejieenniaaGreat
